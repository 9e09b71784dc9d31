import PyProof.Rows.All
import Wide.All
import OpenK.AllK
import Wide.FinOn
import Lean
import PySem.Challenge.RW_nn0048_01
open PySem PySem.W PyProof.Rows PySem.Calls PySem.Spec PyProof.V
set_option Elab.async false
set_option maxRecDepth 100000
set_option compiler.extract_closed false
set_option linter.all false
namespace Mine
/-! the head by hand: the statements kept, the heap that the top leaves, and the run of the top -/
noncomputable def stmts : List Stmt := PySem.Challenge.pw_nn0048_01.main.body
noncomputable def dAt (i j : Nat) : Option Stmt := match j with
  | 0 => stmts[i]?
  | k + 1 => match stmts[i]? with
    | some (.ClassDef _ _ _ b _ _ _ _ _ _ _) => b[k]?
    | _ => none
noncomputable def aP (i j : Nat) : Arguments := match dAt i j with
  | some (.FunctionDef _ a _ _ _ _ _ _ _ _) => a
  | _ => { posonlyargs := [], args := [], vararg := none, kwonlyargs := [], kw_defaults := [], kwarg := none, defaults := [] }
noncomputable def aB (i j : Nat) : List Stmt := match dAt i j with
  | some (.FunctionDef _ _ b _ _ _ _ _ _ _) => b
  | _ => []
noncomputable def aS (i j : Nat) : Scope := match dAt i j with
  | some (.FunctionDef _ _ _ _ _ _ sc _ _ _) => sc
  | _ => { kind := .function, names := [], isGenerator := false, isCoroutine := false }
noncomputable def hd.view_39 : Program := { PySem.Challenge.pw_nn0048_01 with main := { PySem.Challenge.pw_nn0048_01.main with body := stmts.filter fun s => match s with | .Assign _ _ _ => false | _ => true } }
noncomputable def hd.heap_39 : Params → Frag := fun P =>
  (nat_lit 2,
  { cls := Value.none,
    data :=
      Data.dict
        #[{ hash := PyData.keyHash P (Str.ofString "type.__subclasses__.Exception.0"), key := Value.str (Str.ofString "type.__subclasses__.Exception.0") 223, val := Value.int 39 0 },
          { hash := PyData.keyHash P (Str.ofString "type.__subclasses__.Exception.n"), key := Value.str (Str.ofString "type.__subclasses__.Exception.n") 224, val := Value.int 1 0 }]
        2 }) ::
  (nat_lit 3,
  { cls := Value.type "dict",
    data :=
      Data.dict
        #[{ hash := PyData.keyHash P (Str.ofString "__name__"), key := Value.str (Str.ofString "__name__") 165, val := Value.str (Str.ofString "law_nn0048_01") 484 },
          { hash := PyData.keyHash P (Str.ofString "__doc__"), key := Value.str (Str.ofString "__doc__") 166, val := Value.none },
          { hash := PyData.keyHash P (Str.ofString "__package__"), key := Value.str (Str.ofString "__package__") 167, val := Value.none },
          { hash := PyData.keyHash P (Str.ofString "__loader__"), key := Value.str (Str.ofString "__loader__") 168, val := Value.builtin "__main__.__loader__#opaque" },
          { hash := PyData.keyHash P (Str.ofString "__spec__"), key := Value.str (Str.ofString "__spec__") 169, val := Value.none },
          { hash := PyData.keyHash P (Str.ofString "__annotations__"), key := Value.str (Str.ofString "__annotations__") 170, val := Value.ref 6 },
          { hash := PyData.keyHash P (Str.ofString "__builtins__"), key := Value.str (Str.ofString "__builtins__") 171, val := Value.ref 4 },
          { hash := PyData.keyHash P (Str.ofString "__file__"), key := Value.str (Str.ofString "__file__") 173, val := Value.str (Str.ofString "/claim/cut.py") 172 },
          { hash := PyData.keyHash P (Str.ofString "__cached__"), key := Value.str (Str.ofString "__cached__") 174, val := Value.none },
          { hash := PyData.keyHash P (Str.ofString "MintError"), key := Value.str (Str.ofString "MintError") 226, val := Value.ref 39 },
          { hash := PyData.keyHash P (Str.ofString "EncodeError"), key := Value.str (Str.ofString "EncodeError") 242, val := Value.ref 52 },
          { hash := PyData.keyHash P (Str.ofString "SymbolError"), key := Value.str (Str.ofString "SymbolError") 258, val := Value.ref 64 },
          { hash := PyData.keyHash P (Str.ofString "mask"), key := Value.str (Str.ofString "mask") 265, val := Value.ref 73 },
          { hash := PyData.keyHash P (Str.ofString "wrap"), key := Value.str (Str.ofString "wrap") 273, val := Value.ref 80 },
          { hash := PyData.keyHash P (Str.ofString "fits_signed"), key := Value.str (Str.ofString "fits_signed") 282, val := Value.ref 87 },
          { hash := PyData.keyHash P (Str.ofString "fits_either"), key := Value.str (Str.ofString "fits_either") 290, val := Value.ref 94 },
          { hash := PyData.keyHash P (Str.ofString "little"), key := Value.str (Str.ofString "little") 301, val := Value.ref 101 },
          { hash := PyData.keyHash P (Str.ofString "SymbolRow"), key := Value.str (Str.ofString "SymbolRow") 345, val := Value.ref 125 },
          { hash := PyData.keyHash P (Str.ofString "Relocation"), key := Value.str (Str.ofString "Relocation") 391, val := Value.ref 153 },
          { hash := PyData.keyHash P (Str.ofString "Assembled"), key := Value.str (Str.ofString "Assembled") 441, val := Value.ref 186 },
          { hash := PyData.keyHash P (Str.ofString "field"), key := Value.str (Str.ofString "field") 451, val := Value.ref 197 },
          { hash := PyData.keyHash P (Str.ofString "put"), key := Value.str (Str.ofString "put") 460, val := Value.ref 204 },
          { hash := PyData.keyHash P (Str.ofString "place_of"), key := Value.str (Str.ofString "place_of") 470, val := Value.ref 211 },
          { hash := PyData.keyHash P (Str.ofString "load"), key := Value.str (Str.ofString "load") 483, val := Value.ref 218 },
          { hash := PyData.keyHash P (Str.ofString "_law_draw"), key := Value.str (Str.ofString "_law_draw") 496, val := Value.ref 225 },
          { hash := PyData.keyHash P (Str.ofString "_law_worth"), key := Value.str (Str.ofString "_law_worth") 505, val := Value.ref 232 },
          { hash := PyData.keyHash P (Str.ofString "_law_object"), key := Value.str (Str.ofString "_law_object") 511, val := Value.ref 237 },
          { hash := PyData.keyHash P (Str.ofString "_law_place"), key := Value.str (Str.ofString "_law_place") 522, val := Value.ref 244 },
          { hash := PyData.keyHash P (Str.ofString "_law_loaded"), key := Value.str (Str.ofString "_law_loaded") 541, val := Value.ref 251 },
          { hash := PyData.keyHash P (Str.ofString "law"), key := Value.str (Str.ofString "law") 547, val := Value.ref 256 }]
        30 }) ::
  (nat_lit 15, { cls := Value.type "tuple", data := Data.seq #[Value.type "Exception"] }) ::
  (nat_lit 22, { cls := Value.type "tuple", data := Data.seq #[Value.none] }) ::
  (nat_lit 23, { cls := Value.type "tuple", data := Data.seq #[] }) ::
  (nat_lit 25, { cls := Value.type "tuple", data := Data.seq #[Value.str (Str.ofString "self") 204, Value.str (Str.ofString "what") 205, Value.str (Str.ofString "at") 206] }) ::
  (nat_lit 26, { cls := Value.type "tuple", data := Data.seq #[] }) ::
  (nat_lit 28,
  { cls := Value.type "code",
    data :=
      Data.fields
        #[Value.str (Str.ofString "__init__") 201, Value.str (Str.ofString "MintError.__init__") 202, Value.str (Str.ofString "/claim/cut.py") 203, Value.int 4 0, Value.int 3 0,
          Value.int 0 0, Value.int 0 0, Value.int 3 0, Value.ref 23, Value.bool true, Value.int 181 0, Value.ref 24, Value.none, Value.ref 25, Value.ref 26,
          Value.ref 27, Value.int 207 0, Value.int 4 0, Value.str (Str.ofString "/claim/cut.py") 208] }) ::
  (nat_lit 29,
  { cls := Value.type "function",
    data :=
      Data.func
        { name := Str.ofString "__init__", qualname := Str.ofString "MintError.__init__", params := aP (nat_lit 1) (nat_lit 1), body := FuncBody.stmts (aB (nat_lit 1) (nat_lit 1)),
          scope := aS (nat_lit 1) (nat_lit 1), globals := 3, closure := [], defaults := Value.ref 22, kwdefaults := Value.none, pyModule := Value.str (Str.ofString "octetmint.basics") 187,
          code := Value.ref 28 } }) ::
  (nat_lit 30, { cls := Value.type "tuple", data := Data.seq #[] }) ::
  (nat_lit 32, { cls := Value.type "tuple", data := Data.seq #[Value.str (Str.ofString "self") 213] }) ::
  (nat_lit 33, { cls := Value.type "tuple", data := Data.seq #[] }) ::
  (nat_lit 35,
  { cls := Value.type "code",
    data :=
      Data.fields
        #[Value.str (Str.ofString "told") 210, Value.str (Str.ofString "MintError.told") 211, Value.str (Str.ofString "/claim/cut.py") 212, Value.int 9 0, Value.int 1 0,
          Value.int 0 0, Value.int 0 0, Value.int 3 0, Value.ref 30, Value.bool true, Value.int 181 0, Value.ref 31, Value.none, Value.ref 32, Value.ref 33,
          Value.ref 34, Value.int 214 0, Value.int 9 0, Value.str (Str.ofString "/claim/cut.py") 215] }) ::
  (nat_lit 36,
  { cls := Value.type "function",
    data :=
      Data.func
        { name := Str.ofString "told", qualname := Str.ofString "MintError.told", params := aP (nat_lit 1) (nat_lit 2), body := FuncBody.stmts (aB (nat_lit 1) (nat_lit 2)), scope := aS (nat_lit 11) (nat_lit 2),
          globals := 3, closure := [], defaults := Value.none, kwdefaults := Value.none, pyModule := Value.str (Str.ofString "octetmint.basics") 187, code := Value.ref 35 } }) ::
  (nat_lit 37, { cls := Value.type "tuple", data := Data.seq #[Value.str (Str.ofString "at") 217, Value.str (Str.ofString "what") 218] }) ::
  (nat_lit 38,
  { cls := Value.type "dict",
    data :=
      Data.dict
        #[{ hash := PyData.keyHash P (Str.ofString "__module__"), key := Value.str (Str.ofString "__module__") 196, val := Value.str (Str.ofString "octetmint.basics") 187 },
          { hash := PyData.keyHash P (Str.ofString "__firstlineno__"), key := Value.str (Str.ofString "__firstlineno__") 200, val := Value.int 2 199 },
          { hash := PyData.keyHash P (Str.ofString "__init__"), key := Value.str (Str.ofString "__init__") 209, val := Value.ref 29 },
          { hash := PyData.keyHash P (Str.ofString "told"), key := Value.str (Str.ofString "told") 216, val := Value.ref 36 },
          { hash := PyData.keyHash P (Str.ofString "__static_attributes__"), key := Value.str (Str.ofString "__static_attributes__") 219, val := Value.ref 37 },
          { hash := PyData.keyHash P (Str.ofString "__weakref__"), key := Value.str (Str.ofString "__weakref__") 221, val := Value.ref 40 },
          { hash := PyData.keyHash P (Str.ofString "__doc__"), key := Value.str (Str.ofString "__doc__") 222, val := Value.none }]
        3 }) ::
  (nat_lit 39,
  { cls := Value.type "type",
    data :=
      Data.cls
        { name := Str.ofString "MintError", bases := [Value.type "Exception"], mro := [Value.ref 39, Value.type "Exception", Value.type "BaseException", Value.type "object"], ns := 38,
          qualname := Str.ofString "MintError", subclasses := [Value.ref 52, Value.ref 64] },
    slots :=
      #[some (Value.ref 15), none, some (Value.str (Str.ofString "MintError") 189), some (Value.str (Str.ofString "MintError") 197), some (Value.builtin "Exception.__new__"),
        some (Value.bool true)] }) ::
  (nat_lit 40,
  { cls := Value.type "getset_descriptor", data := Data.fields #[Value.str (Str.ofString "__weakref__") 220, Value.ref 39, Value.builtin "ExceptionGroup.__weakref__", Value.none] }) ::
  (nat_lit 43, { cls := Value.type "tuple", data := Data.seq #[Value.ref 39] }) ::
  (nat_lit 50, { cls := Value.type "tuple", data := Data.seq #[] }) ::
  (nat_lit 51,
  { cls := Value.type "dict",
    data :=
      Data.dict
        #[{ hash := PyData.keyHash P (Str.ofString "__module__"), key := Value.str (Str.ofString "__module__") 234, val := Value.str (Str.ofString "octetmint.basics") 187 },
          { hash := PyData.keyHash P (Str.ofString "__firstlineno__"), key := Value.str (Str.ofString "__firstlineno__") 238, val := Value.int 13 237 },
          { hash := PyData.keyHash P (Str.ofString "__static_attributes__"), key := Value.str (Str.ofString "__static_attributes__") 239, val := Value.ref 50 },
          { hash := PyData.keyHash P (Str.ofString "__doc__"), key := Value.str (Str.ofString "__doc__") 240, val := Value.none }]
        2 }) ::
  (nat_lit 52,
  { cls := Value.type "type",
    data :=
      Data.cls
        { name := Str.ofString "EncodeError", bases := [Value.ref 39], mro := [Value.ref 52, Value.ref 39, Value.type "Exception", Value.type "BaseException", Value.type "object"],
          ns := 51, qualname := Str.ofString "EncodeError" },
    slots :=
      #[some (Value.ref 43), none, some (Value.str (Str.ofString "EncodeError") 227), some (Value.str (Str.ofString "EncodeError") 235), some (Value.builtin "Exception.__new__"),
        some (Value.bool true)] }) ::
  (nat_lit 55, { cls := Value.type "tuple", data := Data.seq #[Value.ref 39] }) ::
  (nat_lit 62, { cls := Value.type "tuple", data := Data.seq #[] }) ::
  (nat_lit 63,
  { cls := Value.type "dict",
    data :=
      Data.dict
        #[{ hash := PyData.keyHash P (Str.ofString "__module__"), key := Value.str (Str.ofString "__module__") 250, val := Value.str (Str.ofString "octetmint.basics") 187 },
          { hash := PyData.keyHash P (Str.ofString "__firstlineno__"), key := Value.str (Str.ofString "__firstlineno__") 254, val := Value.int 15 253 },
          { hash := PyData.keyHash P (Str.ofString "__static_attributes__"), key := Value.str (Str.ofString "__static_attributes__") 255, val := Value.ref 62 },
          { hash := PyData.keyHash P (Str.ofString "__doc__"), key := Value.str (Str.ofString "__doc__") 256, val := Value.none }]
        2 }) ::
  (nat_lit 64,
  { cls := Value.type "type",
    data :=
      Data.cls
        { name := Str.ofString "SymbolError", bases := [Value.ref 39], mro := [Value.ref 64, Value.ref 39, Value.type "Exception", Value.type "BaseException", Value.type "object"],
          ns := 63, qualname := Str.ofString "SymbolError" },
    slots :=
      #[some (Value.ref 55), none, some (Value.str (Str.ofString "SymbolError") 243), some (Value.str (Str.ofString "SymbolError") 251), some (Value.builtin "Exception.__new__"),
        some (Value.bool true)] }) ::
  (nat_lit 67, { cls := Value.type "tuple", data := Data.seq #[] }) ::
  (nat_lit 69, { cls := Value.type "tuple", data := Data.seq #[Value.str (Str.ofString "size") 262] }) ::
  (nat_lit 70, { cls := Value.type "tuple", data := Data.seq #[] }) ::
  (nat_lit 72,
  { cls := Value.type "code",
    data :=
      Data.fields
        #[Value.str (Str.ofString "mask") 259, Value.str (Str.ofString "mask") 260, Value.str (Str.ofString "/claim/cut.py") 261, Value.int 17 0, Value.int 1 0, Value.int 0 0,
          Value.int 0 0, Value.int 3 0, Value.ref 67, Value.bool true, Value.int 181 0, Value.ref 68, Value.none, Value.ref 69, Value.ref 70, Value.ref 71,
          Value.int 263 0, Value.int 17 0, Value.str (Str.ofString "/claim/cut.py") 264] }) ::
  (nat_lit 73,
  { cls := Value.type "function",
    data :=
      Data.func
        { name := Str.ofString "mask", qualname := Str.ofString "mask", params := aP (nat_lit 4) (nat_lit 0), body := FuncBody.stmts (aB (nat_lit 4) (nat_lit 0)), scope := aS (nat_lit 4) (nat_lit 0),
          globals := 3, closure := [], defaults := Value.none, kwdefaults := Value.none, pyModule := Value.str (Str.ofString "octetmint.basics") 187, code := Value.ref 72 } }) ::
  (nat_lit 74, { cls := Value.type "tuple", data := Data.seq #[] }) ::
  (nat_lit 76, { cls := Value.type "tuple", data := Data.seq #[Value.str (Str.ofString "worth") 269, Value.str (Str.ofString "size") 270] }) ::
  (nat_lit 77, { cls := Value.type "tuple", data := Data.seq #[] }) ::
  (nat_lit 79,
  { cls := Value.type "code",
    data :=
      Data.fields
        #[Value.str (Str.ofString "wrap") 266, Value.str (Str.ofString "wrap") 267, Value.str (Str.ofString "/claim/cut.py") 268, Value.int 19 0, Value.int 2 0, Value.int 0 0,
          Value.int 0 0, Value.int 3 0, Value.ref 74, Value.bool true, Value.int 181 0, Value.ref 75, Value.none, Value.ref 76, Value.ref 77, Value.ref 78,
          Value.int 271 0, Value.int 19 0, Value.str (Str.ofString "/claim/cut.py") 272] }) ::
  (nat_lit 80,
  { cls := Value.type "function",
    data :=
      Data.func
        { name := Str.ofString "wrap", qualname := Str.ofString "wrap", params := aP (nat_lit 5) (nat_lit 0), body := FuncBody.stmts (aB (nat_lit 5) (nat_lit 0)), scope := aS (nat_lit 7) (nat_lit 0),
          globals := 3, closure := [], defaults := Value.none, kwdefaults := Value.none, pyModule := Value.str (Str.ofString "octetmint.basics") 187, code := Value.ref 79 } }) ::
  (nat_lit 81, { cls := Value.type "tuple", data := Data.seq #[] }) ::
  (nat_lit 83, { cls := Value.type "tuple", data := Data.seq #[Value.str (Str.ofString "worth") 277, Value.str (Str.ofString "size") 278, Value.str (Str.ofString "half") 279] }) ::
  (nat_lit 84, { cls := Value.type "tuple", data := Data.seq #[] }) ::
  (nat_lit 86,
  { cls := Value.type "code",
    data :=
      Data.fields
        #[Value.str (Str.ofString "fits_signed") 274, Value.str (Str.ofString "fits_signed") 275, Value.str (Str.ofString "/claim/cut.py") 276, Value.int 21 0, Value.int 2 0,
          Value.int 0 0, Value.int 0 0, Value.int 3 0, Value.ref 81, Value.bool true, Value.int 181 0, Value.ref 82, Value.none, Value.ref 83, Value.ref 84,
          Value.ref 85, Value.int 280 0, Value.int 21 0, Value.str (Str.ofString "/claim/cut.py") 281] }) ::
  (nat_lit 87,
  { cls := Value.type "function",
    data :=
      Data.func
        { name := Str.ofString "fits_signed", qualname := Str.ofString "fits_signed", params := aP (nat_lit 6) (nat_lit 0), body := FuncBody.stmts (aB (nat_lit 6) (nat_lit 0)),
          scope := aS (nat_lit 6) (nat_lit 0), globals := 3, closure := [], defaults := Value.none, kwdefaults := Value.none, pyModule := Value.str (Str.ofString "octetmint.basics") 187,
          code := Value.ref 86 } }) ::
  (nat_lit 88, { cls := Value.type "tuple", data := Data.seq #[] }) ::
  (nat_lit 90, { cls := Value.type "tuple", data := Data.seq #[Value.str (Str.ofString "worth") 286, Value.str (Str.ofString "size") 287] }) ::
  (nat_lit 91, { cls := Value.type "tuple", data := Data.seq #[] }) ::
  (nat_lit 93,
  { cls := Value.type "code",
    data :=
      Data.fields
        #[Value.str (Str.ofString "fits_either") 283, Value.str (Str.ofString "fits_either") 284, Value.str (Str.ofString "/claim/cut.py") 285, Value.int 24 0, Value.int 2 0,
          Value.int 0 0, Value.int 0 0, Value.int 3 0, Value.ref 88, Value.bool true, Value.int 181 0, Value.ref 89, Value.none, Value.ref 90, Value.ref 91,
          Value.ref 92, Value.int 288 0, Value.int 24 0, Value.str (Str.ofString "/claim/cut.py") 289] }) ::
  (nat_lit 94,
  { cls := Value.type "function",
    data :=
      Data.func
        { name := Str.ofString "fits_either", qualname := Str.ofString "fits_either", params := aP (nat_lit 7) (nat_lit 0), body := FuncBody.stmts (aB (nat_lit 7) (nat_lit 0)),
          scope := aS (nat_lit 7) (nat_lit 0), globals := 3, closure := [], defaults := Value.none, kwdefaults := Value.none, pyModule := Value.str (Str.ofString "octetmint.basics") 187,
          code := Value.ref 93 } }) ::
  (nat_lit 95, { cls := Value.type "tuple", data := Data.seq #[] }) ::
  (nat_lit 97,
  { cls := Value.type "tuple",
    data :=
      Data.seq
        #[Value.str (Str.ofString "worth") 294, Value.str (Str.ofString "width") 295, Value.str (Str.ofString "rest") 296, Value.str (Str.ofString "octets") 297,
          Value.str (Str.ofString "spot") 298] }) ::
  (nat_lit 98, { cls := Value.type "tuple", data := Data.seq #[] }) ::
  (nat_lit 100,
  { cls := Value.type "code",
    data :=
      Data.fields
        #[Value.str (Str.ofString "little") 291, Value.str (Str.ofString "little") 292, Value.str (Str.ofString "/claim/cut.py") 293, Value.int 26 0, Value.int 2 0,
          Value.int 0 0, Value.int 0 0, Value.int 3 0, Value.ref 95, Value.bool true, Value.int 181 0, Value.ref 96, Value.none, Value.ref 97, Value.ref 98,
          Value.ref 99, Value.int 299 0, Value.int 26 0, Value.str (Str.ofString "/claim/cut.py") 300] }) ::
  (nat_lit 101,
  { cls := Value.type "function",
    data :=
      Data.func
        { name := Str.ofString "little", qualname := Str.ofString "little", params := aP (nat_lit 8) (nat_lit 0), body := FuncBody.stmts (aB (nat_lit 8) (nat_lit 0)), scope := aS (nat_lit 8) (nat_lit 0),
          globals := 3, closure := [], defaults := Value.none, kwdefaults := Value.none, pyModule := Value.str (Str.ofString "octetmint.basics") 187, code := Value.ref 100 } }) ::
  (nat_lit 109, { cls := Value.type "tuple", data := Data.seq #[] }) ::
  (nat_lit 111,
  { cls := Value.type "tuple",
    data :=
      Data.seq
        #[Value.str (Str.ofString "self") 319, Value.str (Str.ofString "name") 320, Value.str (Str.ofString "section") 321, Value.str (Str.ofString "worth") 322,
          Value.str (Str.ofString "is_global") 323] }) ::
  (nat_lit 112, { cls := Value.type "tuple", data := Data.seq #[] }) ::
  (nat_lit 114,
  { cls := Value.type "code",
    data :=
      Data.fields
        #[Value.str (Str.ofString "__init__") 316, Value.str (Str.ofString "SymbolRow.__init__") 317, Value.str (Str.ofString "/claim/cut.py") 318, Value.int 36 0, Value.int 5 0,
          Value.int 0 0, Value.int 0 0, Value.int 3 0, Value.ref 109, Value.bool true, Value.int 181 0, Value.ref 110, Value.none, Value.ref 111, Value.ref 112,
          Value.ref 113, Value.int 324 0, Value.int 36 0, Value.str (Str.ofString "/claim/cut.py") 325] }) ::
  (nat_lit 115,
  { cls := Value.type "function",
    data :=
      Data.func
        { name := Str.ofString "__init__", qualname := Str.ofString "SymbolRow.__init__", params := aP (nat_lit 10) (nat_lit 1), body := FuncBody.stmts (aB (nat_lit 10) (nat_lit 1)),
          scope := aS (nat_lit 10) (nat_lit 1), globals := 3, closure := [], defaults := Value.none, kwdefaults := Value.none, pyModule := Value.str (Str.ofString "octetmint.assembler") 302,
          code := Value.ref 114 } }) ::
  (nat_lit 116, { cls := Value.type "tuple", data := Data.seq #[] }) ::
  (nat_lit 118, { cls := Value.type "tuple", data := Data.seq #[Value.str (Str.ofString "self") 330] }) ::
  (nat_lit 119, { cls := Value.type "tuple", data := Data.seq #[] }) ::
  (nat_lit 121,
  { cls := Value.type "code",
    data :=
      Data.fields
        #[Value.str (Str.ofString "told") 327, Value.str (Str.ofString "SymbolRow.told") 328, Value.str (Str.ofString "/claim/cut.py") 329, Value.int 42 0, Value.int 1 0,
          Value.int 0 0, Value.int 0 0, Value.int 3 0, Value.ref 116, Value.bool true, Value.int 181 0, Value.ref 117, Value.none, Value.ref 118, Value.ref 119,
          Value.ref 120, Value.int 331 0, Value.int 42 0, Value.str (Str.ofString "/claim/cut.py") 332] }) ::
  (nat_lit 122,
  { cls := Value.type "function",
    data :=
      Data.func
        { name := Str.ofString "told", qualname := Str.ofString "SymbolRow.told", params := aP (nat_lit 10) (nat_lit 2), body := FuncBody.stmts (aB (nat_lit 10) (nat_lit 2)), scope := aS (nat_lit 11) (nat_lit 2),
          globals := 3, closure := [], defaults := Value.none, kwdefaults := Value.none, pyModule := Value.str (Str.ofString "octetmint.assembler") 302, code := Value.ref 121 } }) ::
  (nat_lit 123,
  { cls := Value.type "tuple",
    data :=
      Data.seq #[Value.str (Str.ofString "is_global") 334, Value.str (Str.ofString "name") 335, Value.str (Str.ofString "section") 336, Value.str (Str.ofString "worth") 337] }) ::
  (nat_lit 124,
  { cls := Value.type "dict",
    data :=
      Data.dict
        #[{ hash := PyData.keyHash P (Str.ofString "__module__"), key := Value.str (Str.ofString "__module__") 311, val := Value.str (Str.ofString "octetmint.assembler") 302 },
          { hash := PyData.keyHash P (Str.ofString "__firstlineno__"), key := Value.str (Str.ofString "__firstlineno__") 315, val := Value.int 34 314 },
          { hash := PyData.keyHash P (Str.ofString "__init__"), key := Value.str (Str.ofString "__init__") 326, val := Value.ref 115 },
          { hash := PyData.keyHash P (Str.ofString "told"), key := Value.str (Str.ofString "told") 333, val := Value.ref 122 },
          { hash := PyData.keyHash P (Str.ofString "__static_attributes__"), key := Value.str (Str.ofString "__static_attributes__") 338, val := Value.ref 123 },
          { hash := PyData.keyHash P (Str.ofString "__dict__"), key := Value.str (Str.ofString "__dict__") 340, val := Value.ref 126 },
          { hash := PyData.keyHash P (Str.ofString "__weakref__"), key := Value.str (Str.ofString "__weakref__") 342, val := Value.ref 127 },
          { hash := PyData.keyHash P (Str.ofString "__doc__"), key := Value.str (Str.ofString "__doc__") 343, val := Value.none }]
        4 }) ::
  (nat_lit 125,
  { cls := Value.type "type",
    data := Data.cls { name := Str.ofString "SymbolRow", bases := [Value.type "object"], mro := [Value.ref 125, Value.type "object"], ns := 124, qualname := Str.ofString "SymbolRow" },
    slots := #[none, none, some (Value.str (Str.ofString "SymbolRow") 304), some (Value.str (Str.ofString "SymbolRow") 312), some (Value.builtin "object.__new__"), some (Value.bool true)] }) ::
  (nat_lit 126,
  { cls := Value.type "getset_descriptor",
    data := Data.fields #[Value.str (Str.ofString "__dict__") 339, Value.ref 125, Value.builtin "function.__dict__", Value.builtin "function.__dict__#set"] }) ::
  (nat_lit 127,
  { cls := Value.type "getset_descriptor", data := Data.fields #[Value.str (Str.ofString "__weakref__") 341, Value.ref 125, Value.builtin "ExceptionGroup.__weakref__", Value.none] }) ::
  (nat_lit 137, { cls := Value.type "tuple", data := Data.seq #[] }) ::
  (nat_lit 139,
  { cls := Value.type "tuple",
    data :=
      Data.seq
        #[Value.str (Str.ofString "self") 361, Value.str (Str.ofString "section") 362, Value.str (Str.ofString "at") 363, Value.str (Str.ofString "width") 364,
          Value.str (Str.ofString "name") 365, Value.str (Str.ofString "worth") 366, Value.str (Str.ofString "way") 367] }) ::
  (nat_lit 140, { cls := Value.type "tuple", data := Data.seq #[] }) ::
  (nat_lit 142,
  { cls := Value.type "code",
    data :=
      Data.fields
        #[Value.str (Str.ofString "__init__") 358, Value.str (Str.ofString "Relocation.__init__") 359, Value.str (Str.ofString "/claim/cut.py") 360, Value.int 46 0, Value.int 7 0,
          Value.int 0 0, Value.int 0 0, Value.int 3 0, Value.ref 137, Value.bool true, Value.int 181 0, Value.ref 138, Value.none, Value.ref 139, Value.ref 140,
          Value.ref 141, Value.int 368 0, Value.int 46 0, Value.str (Str.ofString "/claim/cut.py") 369] }) ::
  (nat_lit 143,
  { cls := Value.type "function",
    data :=
      Data.func
        { name := Str.ofString "__init__", qualname := Str.ofString "Relocation.__init__", params := aP (nat_lit 11) (nat_lit 1), body := FuncBody.stmts (aB (nat_lit 11) (nat_lit 1)),
          scope := aS (nat_lit 11) (nat_lit 1), globals := 3, closure := [], defaults := Value.none, kwdefaults := Value.none, pyModule := Value.str (Str.ofString "octetmint.assembler") 302,
          code := Value.ref 142 } }) ::
  (nat_lit 144, { cls := Value.type "tuple", data := Data.seq #[] }) ::
  (nat_lit 146, { cls := Value.type "tuple", data := Data.seq #[Value.str (Str.ofString "self") 374] }) ::
  (nat_lit 147, { cls := Value.type "tuple", data := Data.seq #[] }) ::
  (nat_lit 149,
  { cls := Value.type "code",
    data :=
      Data.fields
        #[Value.str (Str.ofString "told") 371, Value.str (Str.ofString "Relocation.told") 372, Value.str (Str.ofString "/claim/cut.py") 373, Value.int 54 0, Value.int 1 0,
          Value.int 0 0, Value.int 0 0, Value.int 3 0, Value.ref 144, Value.bool true, Value.int 181 0, Value.ref 145, Value.none, Value.ref 146, Value.ref 147,
          Value.ref 148, Value.int 375 0, Value.int 54 0, Value.str (Str.ofString "/claim/cut.py") 376] }) ::
  (nat_lit 150,
  { cls := Value.type "function",
    data :=
      Data.func
        { name := Str.ofString "told", qualname := Str.ofString "Relocation.told", params := aP (nat_lit 11) (nat_lit 2), body := FuncBody.stmts (aB (nat_lit 11) (nat_lit 2)),
          scope := aS (nat_lit 11) (nat_lit 2), globals := 3, closure := [], defaults := Value.none, kwdefaults := Value.none, pyModule := Value.str (Str.ofString "octetmint.assembler") 302,
          code := Value.ref 149 } }) ::
  (nat_lit 151,
  { cls := Value.type "tuple",
    data :=
      Data.seq
        #[Value.str (Str.ofString "at") 378, Value.str (Str.ofString "name") 379, Value.str (Str.ofString "section") 380, Value.str (Str.ofString "way") 381,
          Value.str (Str.ofString "width") 382, Value.str (Str.ofString "worth") 383] }) ::
  (nat_lit 152,
  { cls := Value.type "dict",
    data :=
      Data.dict
        #[{ hash := PyData.keyHash P (Str.ofString "__module__"), key := Value.str (Str.ofString "__module__") 353, val := Value.str (Str.ofString "octetmint.assembler") 302 },
          { hash := PyData.keyHash P (Str.ofString "__firstlineno__"), key := Value.str (Str.ofString "__firstlineno__") 357, val := Value.int 44 356 },
          { hash := PyData.keyHash P (Str.ofString "__init__"), key := Value.str (Str.ofString "__init__") 370, val := Value.ref 143 },
          { hash := PyData.keyHash P (Str.ofString "told"), key := Value.str (Str.ofString "told") 377, val := Value.ref 150 },
          { hash := PyData.keyHash P (Str.ofString "__static_attributes__"), key := Value.str (Str.ofString "__static_attributes__") 384, val := Value.ref 151 },
          { hash := PyData.keyHash P (Str.ofString "__dict__"), key := Value.str (Str.ofString "__dict__") 386, val := Value.ref 154 },
          { hash := PyData.keyHash P (Str.ofString "__weakref__"), key := Value.str (Str.ofString "__weakref__") 388, val := Value.ref 155 },
          { hash := PyData.keyHash P (Str.ofString "__doc__"), key := Value.str (Str.ofString "__doc__") 389, val := Value.none }]
        4 }) ::
  (nat_lit 153,
  { cls := Value.type "type",
    data := Data.cls { name := Str.ofString "Relocation", bases := [Value.type "object"], mro := [Value.ref 153, Value.type "object"], ns := 152, qualname := Str.ofString "Relocation" },
    slots := #[none, none, some (Value.str (Str.ofString "Relocation") 346), some (Value.str (Str.ofString "Relocation") 354), some (Value.builtin "object.__new__"), some (Value.bool true)] }) ::
  (nat_lit 154,
  { cls := Value.type "getset_descriptor",
    data := Data.fields #[Value.str (Str.ofString "__dict__") 385, Value.ref 153, Value.builtin "function.__dict__", Value.builtin "function.__dict__#set"] }) ::
  (nat_lit 155,
  { cls := Value.type "getset_descriptor", data := Data.fields #[Value.str (Str.ofString "__weakref__") 387, Value.ref 153, Value.builtin "ExceptionGroup.__weakref__", Value.none] }) ::
  (nat_lit 165, { cls := Value.type "tuple", data := Data.seq #[] }) ::
  (nat_lit 167,
  { cls := Value.type "tuple",
    data :=
      Data.seq
        #[Value.str (Str.ofString "self") 407, Value.str (Str.ofString "sections") 408, Value.str (Str.ofString "symbols") 409, Value.str (Str.ofString "relocations") 410,
          Value.str (Str.ofString "origin") 411] }) ::
  (nat_lit 168, { cls := Value.type "tuple", data := Data.seq #[] }) ::
  (nat_lit 170,
  { cls := Value.type "code",
    data :=
      Data.fields
        #[Value.str (Str.ofString "__init__") 404, Value.str (Str.ofString "Assembled.__init__") 405, Value.str (Str.ofString "/claim/cut.py") 406, Value.int 58 0, Value.int 5 0,
          Value.int 0 0, Value.int 0 0, Value.int 3 0, Value.ref 165, Value.bool true, Value.int 181 0, Value.ref 166, Value.none, Value.ref 167, Value.ref 168,
          Value.ref 169, Value.int 412 0, Value.int 58 0, Value.str (Str.ofString "/claim/cut.py") 413] }) ::
  (nat_lit 171,
  { cls := Value.type "function",
    data :=
      Data.func
        { name := Str.ofString "__init__", qualname := Str.ofString "Assembled.__init__", params := aP (nat_lit 12) (nat_lit 1), body := FuncBody.stmts (aB (nat_lit 12) (nat_lit 1)),
          scope := aS (nat_lit 12) (nat_lit 1), globals := 3, closure := [], defaults := Value.none, kwdefaults := Value.none, pyModule := Value.str (Str.ofString "octetmint.assembler") 302,
          code := Value.ref 170 } }) ::
  (nat_lit 172, { cls := Value.type "tuple", data := Data.seq #[] }) ::
  (nat_lit 175,
  { cls := Value.type "code",
    data :=
      Data.fields
        #[Value.str (Str.ofString "told") 415, Value.str (Str.ofString "Assembled.told") 416, Value.str (Str.ofString "/claim/cut.py") 417, Value.int 64 0, Value.int 1 0,
          Value.int 0 0, Value.int 0 0, Value.int 3 0, Value.ref 172, Value.bool true, Value.int 181 0, Value.ref 173, Value.none, Value.none, Value.none,
          Value.ref 174, Value.int 418 0, Value.int 64 0, Value.str (Str.ofString "/claim/cut.py") 419] }) ::
  (nat_lit 176,
  { cls := Value.type "function",
    data :=
      Data.func
        { name := Str.ofString "told", qualname := Str.ofString "Assembled.told", params := aP (nat_lit 12) (nat_lit 2), body := FuncBody.stmts (aB (nat_lit 12) (nat_lit 2)), scope := aS (nat_lit 12) (nat_lit 2),
          globals := 3, closure := [], defaults := Value.none, kwdefaults := Value.none, pyModule := Value.str (Str.ofString "octetmint.assembler") 302, code := Value.ref 175 } }) ::
  (nat_lit 177, { cls := Value.type "tuple", data := Data.seq #[] }) ::
  (nat_lit 179, { cls := Value.type "tuple", data := Data.seq #[Value.str (Str.ofString "self") 424, Value.str (Str.ofString "name") 425, Value.str (Str.ofString "symbol") 426] }) ::
  (nat_lit 180, { cls := Value.type "tuple", data := Data.seq #[] }) ::
  (nat_lit 182,
  { cls := Value.type "code",
    data :=
      Data.fields
        #[Value.str (Str.ofString "find") 421, Value.str (Str.ofString "Assembled.find") 422, Value.str (Str.ofString "/claim/cut.py") 423, Value.int 68 0, Value.int 2 0,
          Value.int 0 0, Value.int 0 0, Value.int 3 0, Value.ref 177, Value.bool true, Value.int 181 0, Value.ref 178, Value.none, Value.ref 179, Value.ref 180,
          Value.ref 181, Value.int 427 0, Value.int 68 0, Value.str (Str.ofString "/claim/cut.py") 428] }) ::
  (nat_lit 183,
  { cls := Value.type "function",
    data :=
      Data.func
        { name := Str.ofString "find", qualname := Str.ofString "Assembled.find", params := aP (nat_lit 12) (nat_lit 3), body := FuncBody.stmts (aB (nat_lit 12) (nat_lit 3)), scope := aS (nat_lit 12) (nat_lit 3),
          globals := 3, closure := [], defaults := Value.none, kwdefaults := Value.none, pyModule := Value.str (Str.ofString "octetmint.assembler") 302, code := Value.ref 182 } }) ::
  (nat_lit 184,
  { cls := Value.type "tuple",
    data :=
      Data.seq
        #[Value.str (Str.ofString "origin") 430, Value.str (Str.ofString "relocations") 431, Value.str (Str.ofString "sections") 432, Value.str (Str.ofString "symbols") 433] }) ::
  (nat_lit 185,
  { cls := Value.type "dict",
    data :=
      Data.dict
        #[{ hash := PyData.keyHash P (Str.ofString "__module__"), key := Value.str (Str.ofString "__module__") 399, val := Value.str (Str.ofString "octetmint.assembler") 302 },
          { hash := PyData.keyHash P (Str.ofString "__firstlineno__"), key := Value.str (Str.ofString "__firstlineno__") 403, val := Value.int 56 402 },
          { hash := PyData.keyHash P (Str.ofString "__init__"), key := Value.str (Str.ofString "__init__") 414, val := Value.ref 171 },
          { hash := PyData.keyHash P (Str.ofString "told"), key := Value.str (Str.ofString "told") 420, val := Value.ref 176 },
          { hash := PyData.keyHash P (Str.ofString "find"), key := Value.str (Str.ofString "find") 429, val := Value.ref 183 },
          { hash := PyData.keyHash P (Str.ofString "__static_attributes__"), key := Value.str (Str.ofString "__static_attributes__") 434, val := Value.ref 184 },
          { hash := PyData.keyHash P (Str.ofString "__dict__"), key := Value.str (Str.ofString "__dict__") 436, val := Value.ref 187 },
          { hash := PyData.keyHash P (Str.ofString "__weakref__"), key := Value.str (Str.ofString "__weakref__") 438, val := Value.ref 188 },
          { hash := PyData.keyHash P (Str.ofString "__doc__"), key := Value.str (Str.ofString "__doc__") 439, val := Value.none }]
        4 }) ::
  (nat_lit 186,
  { cls := Value.type "type",
    data := Data.cls { name := Str.ofString "Assembled", bases := [Value.type "object"], mro := [Value.ref 186, Value.type "object"], ns := 185, qualname := Str.ofString "Assembled" },
    slots := #[none, none, some (Value.str (Str.ofString "Assembled") 392), some (Value.str (Str.ofString "Assembled") 400), some (Value.builtin "object.__new__"), some (Value.bool true)] }) ::
  (nat_lit 187,
  { cls := Value.type "getset_descriptor",
    data := Data.fields #[Value.str (Str.ofString "__dict__") 435, Value.ref 186, Value.builtin "function.__dict__", Value.builtin "function.__dict__#set"] }) ::
  (nat_lit 188,
  { cls := Value.type "getset_descriptor", data := Data.fields #[Value.str (Str.ofString "__weakref__") 437, Value.ref 186, Value.builtin "ExceptionGroup.__weakref__", Value.none] }) ::
  (nat_lit 191, { cls := Value.type "tuple", data := Data.seq #[] }) ::
  (nat_lit 193,
  { cls := Value.type "tuple",
    data := Data.seq #[Value.str (Str.ofString "worth") 445, Value.str (Str.ofString "width") 446, Value.str (Str.ofString "way") 447, Value.str (Str.ofString "fits") 448] }) ::
  (nat_lit 194, { cls := Value.type "tuple", data := Data.seq #[] }) ::
  (nat_lit 196,
  { cls := Value.type "code",
    data :=
      Data.fields
        #[Value.str (Str.ofString "field") 442, Value.str (Str.ofString "field") 443, Value.str (Str.ofString "/claim/cut.py") 444, Value.int 73 0, Value.int 3 0,
          Value.int 0 0, Value.int 0 0, Value.int 3 0, Value.ref 191, Value.bool true, Value.int 181 0, Value.ref 192, Value.none, Value.ref 193, Value.ref 194,
          Value.ref 195, Value.int 449 0, Value.int 73 0, Value.str (Str.ofString "/claim/cut.py") 450] }) ::
  (nat_lit 197,
  { cls := Value.type "function",
    data :=
      Data.func
        { name := Str.ofString "field", qualname := Str.ofString "field", params := aP (nat_lit 13) (nat_lit 0), body := FuncBody.stmts (aB (nat_lit 13) (nat_lit 0)), scope := aS (nat_lit 13) (nat_lit 0),
          globals := 3, closure := [], defaults := Value.none, kwdefaults := Value.none, pyModule := Value.str (Str.ofString "octetmint.assembler") 302, code := Value.ref 196 } }) ::
  (nat_lit 198, { cls := Value.type "tuple", data := Data.seq #[] }) ::
  (nat_lit 200, { cls := Value.type "tuple", data := Data.seq #[Value.str (Str.ofString "octets") 455, Value.str (Str.ofString "at") 456, Value.str (Str.ofString "part") 457] }) ::
  (nat_lit 201, { cls := Value.type "tuple", data := Data.seq #[] }) ::
  (nat_lit 203,
  { cls := Value.type "code",
    data :=
      Data.fields
        #[Value.str (Str.ofString "put") 452, Value.str (Str.ofString "put") 453, Value.str (Str.ofString "/claim/cut.py") 454, Value.int 78 0, Value.int 3 0, Value.int 0 0,
          Value.int 0 0, Value.int 3 0, Value.ref 198, Value.bool true, Value.int 181 0, Value.ref 199, Value.none, Value.ref 200, Value.ref 201, Value.ref 202,
          Value.int 458 0, Value.int 78 0, Value.str (Str.ofString "/claim/cut.py") 459] }) ::
  (nat_lit 204,
  { cls := Value.type "function",
    data :=
      Data.func
        { name := Str.ofString "put", qualname := Str.ofString "put", params := aP (nat_lit 14) (nat_lit 0), body := FuncBody.stmts (aB (nat_lit 14) (nat_lit 0)), scope := aS (nat_lit 14) (nat_lit 0),
          globals := 3, closure := [], defaults := Value.none, kwdefaults := Value.none, pyModule := Value.str (Str.ofString "octetmint.assembler") 302, code := Value.ref 203 } }) ::
  (nat_lit 205, { cls := Value.type "tuple", data := Data.seq #[] }) ::
  (nat_lit 207,
  { cls := Value.type "tuple",
    data :=
      Data.seq #[Value.str (Str.ofString "assembled") 464, Value.str (Str.ofString "bases") 465, Value.str (Str.ofString "name") 466, Value.str (Str.ofString "symbol") 467] }) ::
  (nat_lit 208, { cls := Value.type "tuple", data := Data.seq #[] }) ::
  (nat_lit 210,
  { cls := Value.type "code",
    data :=
      Data.fields
        #[Value.str (Str.ofString "place_of") 461, Value.str (Str.ofString "place_of") 462, Value.str (Str.ofString "/claim/cut.py") 463, Value.int 80 0, Value.int 3 0,
          Value.int 0 0, Value.int 0 0, Value.int 3 0, Value.ref 205, Value.bool true, Value.int 181 0, Value.ref 206, Value.none, Value.ref 207, Value.ref 208,
          Value.ref 209, Value.int 468 0, Value.int 80 0, Value.str (Str.ofString "/claim/cut.py") 469] }) ::
  (nat_lit 211,
  { cls := Value.type "function",
    data :=
      Data.func
        { name := Str.ofString "place_of", qualname := Str.ofString "place_of", params := aP (nat_lit 15) (nat_lit 0), body := FuncBody.stmts (aB (nat_lit 15) (nat_lit 0)), scope := aS (nat_lit 15) (nat_lit 0),
          globals := 3, closure := [], defaults := Value.none, kwdefaults := Value.none, pyModule := Value.str (Str.ofString "octetmint.assembler") 302, code := Value.ref 210 } }) ::
  (nat_lit 212, { cls := Value.type "tuple", data := Data.seq #[] }) ::
  (nat_lit 214,
  { cls := Value.type "tuple",
    data :=
      Data.seq
        #[Value.str (Str.ofString "assembled") 474, Value.str (Str.ofString "bases") 475, Value.str (Str.ofString "found") 476, Value.str (Str.ofString "name") 477,
          Value.str (Str.ofString "octets") 478, Value.str (Str.ofString "one") 479, Value.str (Str.ofString "worth") 480] }) ::
  (nat_lit 215, { cls := Value.type "tuple", data := Data.seq #[] }) ::
  (nat_lit 217,
  { cls := Value.type "code",
    data :=
      Data.fields
        #[Value.str (Str.ofString "load") 471, Value.str (Str.ofString "load") 472, Value.str (Str.ofString "/claim/cut.py") 473, Value.int 89 0, Value.int 2 0, Value.int 0 0,
          Value.int 0 0, Value.int 3 0, Value.ref 212, Value.bool true, Value.int 181 0, Value.ref 213, Value.none, Value.ref 214, Value.ref 215, Value.ref 216,
          Value.int 481 0, Value.int 89 0, Value.str (Str.ofString "/claim/cut.py") 482] }) ::
  (nat_lit 218,
  { cls := Value.type "function",
    data :=
      Data.func
        { name := Str.ofString "load", qualname := Str.ofString "load", params := aP (nat_lit 16) (nat_lit 0), body := FuncBody.stmts (aB (nat_lit 16) (nat_lit 0)), scope := aS (nat_lit 16) (nat_lit 0),
          globals := 3, closure := [], defaults := Value.none, kwdefaults := Value.none, pyModule := Value.str (Str.ofString "octetmint.assembler") 302, code := Value.ref 217 } }) ::
  (nat_lit 219, { cls := Value.type "tuple", data := Data.seq #[] }) ::
  (nat_lit 221,
  { cls := Value.type "tuple",
    data :=
      Data.seq
        #[Value.str (Str.ofString "pen") 489, Value.str (Str.ofString "many") 490, Value.str (Str.ofString "at") 491, Value.str (Str.ofString "cell") 492,
          Value.str (Str.ofString "mixed") 493] }) ::
  (nat_lit 222, { cls := Value.type "tuple", data := Data.seq #[] }) ::
  (nat_lit 224,
  { cls := Value.type "code",
    data :=
      Data.fields
        #[Value.str (Str.ofString "_law_draw") 486, Value.str (Str.ofString "_law_draw") 487, Value.str (Str.ofString "/claim/cut.py") 488, Value.int 102 0, Value.int 2 0,
          Value.int 0 0, Value.int 0 0, Value.int 3 0, Value.ref 219, Value.bool true, Value.int 181 0, Value.ref 220, Value.none, Value.ref 221, Value.ref 222,
          Value.ref 223, Value.int 494 0, Value.int 102 0, Value.str (Str.ofString "/claim/cut.py") 495] }) ::
  (nat_lit 225,
  { cls := Value.type "function",
    data :=
      Data.func
        { name := Str.ofString "_law_draw", qualname := Str.ofString "_law_draw", params := aP (nat_lit 18) (nat_lit 0), body := FuncBody.stmts (aB (nat_lit 18) (nat_lit 0)), scope := aS (nat_lit 18) (nat_lit 0),
          globals := 3, closure := [], defaults := Value.none, kwdefaults := Value.none, pyModule := Value.str (Str.ofString "law_nn0048_01") 484, code := Value.ref 224 } }) ::
  (nat_lit 226, { cls := Value.type "tuple", data := Data.seq #[] }) ::
  (nat_lit 228, { cls := Value.type "tuple", data := Data.seq #[Value.str (Str.ofString "pen") 500, Value.str (Str.ofString "width") 501, Value.str (Str.ofString "ends") 502] }) ::
  (nat_lit 229, { cls := Value.type "tuple", data := Data.seq #[] }) ::
  (nat_lit 231,
  { cls := Value.type "code",
    data :=
      Data.fields
        #[Value.str (Str.ofString "_law_worth") 497, Value.str (Str.ofString "_law_worth") 498, Value.str (Str.ofString "/claim/cut.py") 499, Value.int 110 0, Value.int 2 0,
          Value.int 0 0, Value.int 0 0, Value.int 3 0, Value.ref 226, Value.bool true, Value.int 181 0, Value.ref 227, Value.none, Value.ref 228, Value.ref 229,
          Value.ref 230, Value.int 503 0, Value.int 110 0, Value.str (Str.ofString "/claim/cut.py") 504] }) ::
  (nat_lit 232,
  { cls := Value.type "function",
    data :=
      Data.func
        { name := Str.ofString "_law_worth", qualname := Str.ofString "_law_worth", params := aP (nat_lit 19) (nat_lit 0), body := FuncBody.stmts (aB (nat_lit 19) (nat_lit 0)),
          scope := aS (nat_lit 19) (nat_lit 0), globals := 3, closure := [], defaults := Value.none, kwdefaults := Value.none, pyModule := Value.str (Str.ofString "law_nn0048_01") 484,
          code := Value.ref 231 } }) ::
  (nat_lit 233, { cls := Value.type "tuple", data := Data.seq #[] }) ::
  (nat_lit 236,
  { cls := Value.type "code",
    data :=
      Data.fields
        #[Value.str (Str.ofString "_law_object") 506, Value.str (Str.ofString "_law_object") 507, Value.str (Str.ofString "/claim/cut.py") 508, Value.int 113 0, Value.int 1 0,
          Value.int 0 0, Value.int 0 0, Value.int 3 0, Value.ref 233, Value.bool true, Value.int 181 0, Value.ref 234, Value.none, Value.none, Value.none,
          Value.ref 235, Value.int 509 0, Value.int 113 0, Value.str (Str.ofString "/claim/cut.py") 510] }) ::
  (nat_lit 237,
  { cls := Value.type "function",
    data :=
      Data.func
        { name := Str.ofString "_law_object", qualname := Str.ofString "_law_object", params := aP (nat_lit 20) (nat_lit 0), body := FuncBody.stmts (aB (nat_lit 20) (nat_lit 0)),
          scope := aS (nat_lit 20) (nat_lit 0), globals := 3, closure := [], defaults := Value.none, kwdefaults := Value.none, pyModule := Value.str (Str.ofString "law_nn0048_01") 484,
          code := Value.ref 236 } }) ::
  (nat_lit 238, { cls := Value.type "tuple", data := Data.seq #[] }) ::
  (nat_lit 240,
  { cls := Value.type "tuple",
    data :=
      Data.seq
        #[Value.str (Str.ofString "sections") 515, Value.str (Str.ofString "symbols") 516, Value.str (Str.ofString "homes") 517, Value.str (Str.ofString "name") 518,
          Value.str (Str.ofString "symbol") 519] }) ::
  (nat_lit 241, { cls := Value.type "tuple", data := Data.seq #[] }) ::
  (nat_lit 243,
  { cls := Value.type "code",
    data :=
      Data.fields
        #[Value.str (Str.ofString "_law_place") 512, Value.str (Str.ofString "_law_place") 513, Value.str (Str.ofString "/claim/cut.py") 514, Value.int 133 0, Value.int 4 0,
          Value.int 0 0, Value.int 0 0, Value.int 3 0, Value.ref 238, Value.bool true, Value.int 181 0, Value.ref 239, Value.none, Value.ref 240, Value.ref 241,
          Value.ref 242, Value.int 520 0, Value.int 133 0, Value.str (Str.ofString "/claim/cut.py") 521] }) ::
  (nat_lit 244,
  { cls := Value.type "function",
    data :=
      Data.func
        { name := Str.ofString "_law_place", qualname := Str.ofString "_law_place", params := aP (nat_lit 21) (nat_lit 0), body := FuncBody.stmts (aB (nat_lit 21) (nat_lit 0)),
          scope := aS (nat_lit 21) (nat_lit 0), globals := 3, closure := [], defaults := Value.none, kwdefaults := Value.none, pyModule := Value.str (Str.ofString "law_nn0048_01") 484,
          code := Value.ref 243 } }) ::
  (nat_lit 245, { cls := Value.type "tuple", data := Data.seq #[] }) ::
  (nat_lit 247,
  { cls := Value.type "tuple",
    data :=
      Data.seq
        #[Value.str (Str.ofString "sections") 526, Value.str (Str.ofString "symbols") 527, Value.str (Str.ofString "rows") 528, Value.str (Str.ofString "homes") 529,
          Value.str (Str.ofString "found") 530, Value.str (Str.ofString "name") 531, Value.str (Str.ofString "octets") 532, Value.str (Str.ofString "row") 533,
          Value.str (Str.ofString "place") 534, Value.str (Str.ofString "worth") 535, Value.str (Str.ofString "bits") 536, Value.str (Str.ofString "beyond") 537,
          Value.str (Str.ofString "index") 538] }) ::
  (nat_lit 248, { cls := Value.type "tuple", data := Data.seq #[] }) ::
  (nat_lit 250,
  { cls := Value.type "code",
    data :=
      Data.fields
        #[Value.str (Str.ofString "_law_loaded") 523, Value.str (Str.ofString "_law_loaded") 524, Value.str (Str.ofString "/claim/cut.py") 525, Value.int 142 0, Value.int 4 0,
          Value.int 0 0, Value.int 0 0, Value.int 3 0, Value.ref 245, Value.bool true, Value.int 181 0, Value.ref 246, Value.none, Value.ref 247, Value.ref 248,
          Value.ref 249, Value.int 539 0, Value.int 142 0, Value.str (Str.ofString "/claim/cut.py") 540] }) ::
  (nat_lit 251,
  { cls := Value.type "function",
    data :=
      Data.func
        { name := Str.ofString "_law_loaded", qualname := Str.ofString "_law_loaded", params := aP (nat_lit 22) (nat_lit 0), body := FuncBody.stmts (aB (nat_lit 22) (nat_lit 0)),
          scope := aS (nat_lit 22) (nat_lit 0), globals := 3, closure := [], defaults := Value.none, kwdefaults := Value.none, pyModule := Value.str (Str.ofString "law_nn0048_01") 484,
          code := Value.ref 250 } }) ::
  (nat_lit 252, { cls := Value.type "tuple", data := Data.seq #[] }) ::
  (nat_lit 255,
  { cls := Value.type "code",
    data :=
      Data.fields
        #[Value.str (Str.ofString "law") 542, Value.str (Str.ofString "law") 543, Value.str (Str.ofString "/claim/cut.py") 544, Value.int 161 0, Value.int 1 0, Value.int 0 0,
          Value.int 0 0, Value.int 3 0, Value.ref 252, Value.bool true, Value.int 181 0, Value.ref 253, Value.none, Value.none, Value.none, Value.ref 254,
          Value.int 545 0, Value.int 161 0, Value.str (Str.ofString "/claim/cut.py") 546] }) ::
  (nat_lit 256,
  { cls := Value.type "function",
    data :=
      Data.func
        { name := Str.ofString "law", qualname := Str.ofString "law", params := aP (nat_lit 23) (nat_lit 0), body := FuncBody.stmts (aB (nat_lit 23) (nat_lit 0)), scope := aS (nat_lit 23) (nat_lit 0),
          globals := 3, closure := [], defaults := Value.none, kwdefaults := Value.none, pyModule := Value.str (Str.ofString "law_nn0048_01") 484, code := Value.ref 255 } }) ::
  []

noncomputable def hd.addrs : List Addr := [2, 3, 15, 22, 23, 25, 26, 28, 29, 30, 32, 33, 35, 36, 37, 38, 39, 40, 43, 50, 51, 52, 55, 62, 63, 64, 67, 69, 70, 72,   73, 74, 76, 77, 79, 80, 81, 83, 84, 86, 87, 88, 90, 91, 93, 94, 95, 97, 98, 100, 101, 109, 111, 112, 114, 115, 116,   118, 119, 121, 122, 123, 124, 125, 126, 127, 137, 139, 140, 142, 143, 144, 146, 147, 149, 150, 151, 152, 153, 154,   155, 165, 167, 168, 170, 171, 172, 175, 176, 177, 179, 180, 182, 183, 184, 185, 186, 187, 188, 191, 193, 194, 196,   197, 198, 200, 201, 203, 204, 205, 207, 208, 210, 211, 212, 214, 215, 217, 218, 219, 221, 222, 224, 225, 226, 228,   229, 231, 232, 233, 236, 237, 238, 240, 241, 243, 244, 245, 247, 248, 250, 251, 252, 255, 256]
theorem hd.keys : ∀ P, hd.addrs = (hd.heap_39 P).map (·.1) := fun _ => by kernel_rfl
noncomputable def hd.hook : Hook := kHook hd.heap_39 hd.addrs hd.keys
theorem and_of {a b : Bool} (x : a = true) (y : b = true) : (a && b) = true := by rw [x, y]; rfl
theorem law_said : OpenLaw.wellSaid PySem.Challenge.rw_nn0048_01 = true := by
  unfold OpenLaw.wellSaid
  repeat' (with_reducible refine and_of ?_ ?_)
  all_goals try (unfold OpenRow.wellSaid; repeat' (with_reducible refine and_of ?_ ?_))
  all_goals try (unfold OpenRow.partSaid; repeat' (with_reducible refine and_of ?_ ?_))
  all_goals try (unfold looksOpen; repeat' (with_reducible refine and_of ?_ ?_))
  all_goals ((try rw [PySem.W.Fast.te8377067652309620493]); (try rw [PySem.W.Fast.te8326940854005059898]); (try rw [PySem.W.Fast.te5923862056798008813]); (try rw [PySem.W.Fast.te3471404346716756564]); (try rw [PySem.W.Fast.te17691160309236699985]); (try rw [PySem.W.Fast.te13343964577679436407]); (try rw [PySem.W.Fast.te17119622794617984870]); (try rw [PySem.W.Fast.te17868728402115742887]); (try rw [PySem.W.Fast.te8179353310426384613]); (try rw [PySem.W.Fast.te797321630700447069]); (try rw [PySem.W.Fast.te9572597257264208301]); (try rw [PySem.W.Fast.te16286561074155671207]); (try rw [PySem.W.Fast.te6984425678791042302]); (try rw [PySem.W.Fast.te10792542408131684335]); (try rw [PySem.W.Fast.named_eq]))
  all_goals decide +kernel
noncomputable abbrev hd.prog : Program := RowW.prog (OpenRow.toRowW (OpenLaw.row PySem.Challenge.rw_nn0048_01))
noncomputable def hd.env : Env := { scope := hd.prog.main.scope, locals := mainNs, globals := mainNs, cells := [], code := Value.ref 13, frame := some 14 }
noncomputable def hd.body : List Stmt := behindTheImports hd.prog
noncomputable def hd.code : Code := .body hd.body hd.env
def mergeO : Nat → List (Nat × Obj) → List (Nat × Obj) → List Obj
  | 0, _, _ => []
  | _ + 1, [], r => r.map (·.2)
  | _ + 1, l, [] => l.map (·.2)
  | n + 1, (a, x) :: l, (b, y) :: r => bif Nat.blt a b then x :: mergeO n l ((b, y) :: r) else y :: mergeO n ((a, x) :: l) r
def updO (c : List (Nat × Obj)) (l : List Obj) : List Obj := c.foldr (fun p l => l.set p.1 p.2) l
noncomputable def hd.more : Params → List (Nat × Obj) := fun P =>
  (nat_lit 0, { cls := Value.type "dict", data := Data.dict #[{ hash := PyData.keyHash P (Str.ofString "__name__"), key := Value.str (Str.ofString "__name__") 1, val := Value.str (Str.ofString "builtins") 160 }, { hash := PyData.keyHash P (Str.ofString "__doc__"), key := Value.str (Str.ofString "__doc__") 2, val := Value.builtin "builtins.__doc__:str#opaque" }, { hash := PyData.keyHash P (Str.ofString "__package__"), key := Value.str (Str.ofString "__package__") 3, val := Value.builtin "builtins.__package__:str#opaque" }, { hash := PyData.keyHash P (Str.ofString "__loader__"), key := Value.str (Str.ofString "__loader__") 4, val := Value.builtin "builtins.__loader__:shared#opaque" }, { hash := PyData.keyHash P (Str.ofString "__spec__"), key := Value.str (Str.ofString "__spec__") 5, val := Value.builtin "builtins.__spec__#opaque" }, { hash := PyData.keyHash P (Str.ofString "__build_class__"), key := Value.str (Str.ofString "__build_class__") 6, val := Value.builtin "__build_class__" }, { hash := PyData.keyHash P (Str.ofString "__import__"), key := Value.str (Str.ofString "__import__") 7, val := Value.builtin "__import__" }, { hash := PyData.keyHash P (Str.ofString "abs"), key := Value.str (Str.ofString "abs") 8, val := Value.builtin "abs" }, { hash := PyData.keyHash P (Str.ofString "all"), key := Value.str (Str.ofString "all") 9, val := Value.builtin "all" }, { hash := PyData.keyHash P (Str.ofString "any"), key := Value.str (Str.ofString "any") 10, val := Value.builtin "any" }, { hash := PyData.keyHash P (Str.ofString "ascii"), key := Value.str (Str.ofString "ascii") 11, val := Value.builtin "ascii" }, { hash := PyData.keyHash P (Str.ofString "bin"), key := Value.str (Str.ofString "bin") 12, val := Value.builtin "bin" }, { hash := PyData.keyHash P (Str.ofString "breakpoint"), key := Value.str (Str.ofString "breakpoint") 13, val := Value.builtin "breakpoint" }, { hash := PyData.keyHash P (Str.ofString "callable"), key := Value.str (Str.ofString "callable") 14, val := Value.builtin "callable" }, { hash := PyData.keyHash P (Str.ofString "chr"), key := Value.str (Str.ofString "chr") 15, val := Value.builtin "chr" }, { hash := PyData.keyHash P (Str.ofString "compile"), key := Value.str (Str.ofString "compile") 16, val := Value.builtin "compile" }, { hash := PyData.keyHash P (Str.ofString "delattr"), key := Value.str (Str.ofString "delattr") 17, val := Value.builtin "delattr" }, { hash := PyData.keyHash P (Str.ofString "dir"), key := Value.str (Str.ofString "dir") 18, val := Value.builtin "dir" }, { hash := PyData.keyHash P (Str.ofString "divmod"), key := Value.str (Str.ofString "divmod") 19, val := Value.builtin "divmod" }, { hash := PyData.keyHash P (Str.ofString "eval"), key := Value.str (Str.ofString "eval") 20, val := Value.builtin "eval" }, { hash := PyData.keyHash P (Str.ofString "exec"), key := Value.str (Str.ofString "exec") 21, val := Value.builtin "exec" }, { hash := PyData.keyHash P (Str.ofString "format"), key := Value.str (Str.ofString "format") 22, val := Value.builtin "format" }, { hash := PyData.keyHash P (Str.ofString "getattr"), key := Value.str (Str.ofString "getattr") 23, val := Value.builtin "getattr" }, { hash := PyData.keyHash P (Str.ofString "globals"), key := Value.str (Str.ofString "globals") 24, val := Value.builtin "globals" }, { hash := PyData.keyHash P (Str.ofString "hasattr"), key := Value.str (Str.ofString "hasattr") 25, val := Value.builtin "hasattr" }, { hash := PyData.keyHash P (Str.ofString "hash"), key := Value.str (Str.ofString "hash") 26, val := Value.builtin "hash" }, { hash := PyData.keyHash P (Str.ofString "hex"), key := Value.str (Str.ofString "hex") 27, val := Value.builtin "hex" }, { hash := PyData.keyHash P (Str.ofString "id"), key := Value.str (Str.ofString "id") 28, val := Value.builtin "id" }, { hash := PyData.keyHash P (Str.ofString "input"), key := Value.str (Str.ofString "input") 29, val := Value.builtin "input" }, { hash := PyData.keyHash P (Str.ofString "isinstance"), key := Value.str (Str.ofString "isinstance") 30, val := Value.builtin "isinstance" }, { hash := PyData.keyHash P (Str.ofString "issubclass"), key := Value.str (Str.ofString "issubclass") 31, val := Value.builtin "issubclass" }, { hash := PyData.keyHash P (Str.ofString "iter"), key := Value.str (Str.ofString "iter") 32, val := Value.builtin "iter" }, { hash := PyData.keyHash P (Str.ofString "aiter"), key := Value.str (Str.ofString "aiter") 33, val := Value.builtin "aiter" }, { hash := PyData.keyHash P (Str.ofString "len"), key := Value.str (Str.ofString "len") 34, val := Value.builtin "len" }, { hash := PyData.keyHash P (Str.ofString "locals"), key := Value.str (Str.ofString "locals") 35, val := Value.builtin "locals" }, { hash := PyData.keyHash P (Str.ofString "max"), key := Value.str (Str.ofString "max") 36, val := Value.builtin "max" }, { hash := PyData.keyHash P (Str.ofString "min"), key := Value.str (Str.ofString "min") 37, val := Value.builtin "min" }, { hash := PyData.keyHash P (Str.ofString "next"), key := Value.str (Str.ofString "next") 38, val := Value.builtin "next" }, { hash := PyData.keyHash P (Str.ofString "anext"), key := Value.str (Str.ofString "anext") 39, val := Value.builtin "anext" }, { hash := PyData.keyHash P (Str.ofString "oct"), key := Value.str (Str.ofString "oct") 40, val := Value.builtin "oct" }, { hash := PyData.keyHash P (Str.ofString "ord"), key := Value.str (Str.ofString "ord") 41, val := Value.builtin "ord" }, { hash := PyData.keyHash P (Str.ofString "pow"), key := Value.str (Str.ofString "pow") 42, val := Value.builtin "pow" }, { hash := PyData.keyHash P (Str.ofString "print"), key := Value.str (Str.ofString "print") 43, val := Value.builtin "print" }, { hash := PyData.keyHash P (Str.ofString "repr"), key := Value.str (Str.ofString "repr") 44, val := Value.builtin "repr" }, { hash := PyData.keyHash P (Str.ofString "round"), key := Value.str (Str.ofString "round") 45, val := Value.builtin "round" }, { hash := PyData.keyHash P (Str.ofString "setattr"), key := Value.str (Str.ofString "setattr") 46, val := Value.builtin "setattr" }, { hash := PyData.keyHash P (Str.ofString "sorted"), key := Value.str (Str.ofString "sorted") 47, val := Value.builtin "sorted" }, { hash := PyData.keyHash P (Str.ofString "sum"), key := Value.str (Str.ofString "sum") 48, val := Value.builtin "sum" }, { hash := PyData.keyHash P (Str.ofString "vars"), key := Value.str (Str.ofString "vars") 49, val := Value.builtin "vars" }, { hash := PyData.keyHash P (Str.ofString "None"), key := Value.str (Str.ofString "None") 50, val := Value.none }, { hash := PyData.keyHash P (Str.ofString "Ellipsis"), key := Value.str (Str.ofString "Ellipsis") 51, val := Value.ellipsis }, { hash := PyData.keyHash P (Str.ofString "NotImplemented"), key := Value.str (Str.ofString "NotImplemented") 52, val := Value.notImplemented }, { hash := PyData.keyHash P (Str.ofString "False"), key := Value.str (Str.ofString "False") 53, val := Value.bool false }, { hash := PyData.keyHash P (Str.ofString "True"), key := Value.str (Str.ofString "True") 54, val := Value.bool true }, { hash := PyData.keyHash P (Str.ofString "bool"), key := Value.str (Str.ofString "bool") 55, val := Value.type "bool" }, { hash := PyData.keyHash P (Str.ofString "memoryview"), key := Value.str (Str.ofString "memoryview") 56, val := Value.type "memoryview" }, { hash := PyData.keyHash P (Str.ofString "bytearray"), key := Value.str (Str.ofString "bytearray") 57, val := Value.type "bytearray" }, { hash := PyData.keyHash P (Str.ofString "bytes"), key := Value.str (Str.ofString "bytes") 58, val := Value.type "bytes" }, { hash := PyData.keyHash P (Str.ofString "classmethod"), key := Value.str (Str.ofString "classmethod") 59, val := Value.type "classmethod" }, { hash := PyData.keyHash P (Str.ofString "complex"), key := Value.str (Str.ofString "complex") 60, val := Value.type "complex" }, { hash := PyData.keyHash P (Str.ofString "dict"), key := Value.str (Str.ofString "dict") 61, val := Value.type "dict" }, { hash := PyData.keyHash P (Str.ofString "enumerate"), key := Value.str (Str.ofString "enumerate") 62, val := Value.type "enumerate" }, { hash := PyData.keyHash P (Str.ofString "filter"), key := Value.str (Str.ofString "filter") 63, val := Value.type "filter" }, { hash := PyData.keyHash P (Str.ofString "float"), key := Value.str (Str.ofString "float") 64, val := Value.type "float" }, { hash := PyData.keyHash P (Str.ofString "frozenset"), key := Value.str (Str.ofString "frozenset") 65, val := Value.type "frozenset" }, { hash := PyData.keyHash P (Str.ofString "property"), key := Value.str (Str.ofString "property") 66, val := Value.type "property" }, { hash := PyData.keyHash P (Str.ofString "int"), key := Value.str (Str.ofString "int") 67, val := Value.type "int" }, { hash := PyData.keyHash P (Str.ofString "list"), key := Value.str (Str.ofString "list") 68, val := Value.type "list" }, { hash := PyData.keyHash P (Str.ofString "map"), key := Value.str (Str.ofString "map") 69, val := Value.type "map" }, { hash := PyData.keyHash P (Str.ofString "object"), key := Value.str (Str.ofString "object") 70, val := Value.type "object" }, { hash := PyData.keyHash P (Str.ofString "range"), key := Value.str (Str.ofString "range") 71, val := Value.type "range" }, { hash := PyData.keyHash P (Str.ofString "reversed"), key := Value.str (Str.ofString "reversed") 72, val := Value.type "reversed" }, { hash := PyData.keyHash P (Str.ofString "set"), key := Value.str (Str.ofString "set") 73, val := Value.type "set" }, { hash := PyData.keyHash P (Str.ofString "slice"), key := Value.str (Str.ofString "slice") 74, val := Value.type "slice" }, { hash := PyData.keyHash P (Str.ofString "staticmethod"), key := Value.str (Str.ofString "staticmethod") 75, val := Value.type "staticmethod" }, { hash := PyData.keyHash P (Str.ofString "str"), key := Value.str (Str.ofString "str") 76, val := Value.type "str" }, { hash := PyData.keyHash P (Str.ofString "super"), key := Value.str (Str.ofString "super") 77, val := Value.type "super" }, { hash := PyData.keyHash P (Str.ofString "tuple"), key := Value.str (Str.ofString "tuple") 78, val := Value.type "tuple" }, { hash := PyData.keyHash P (Str.ofString "type"), key := Value.str (Str.ofString "type") 79, val := Value.type "type" }, { hash := PyData.keyHash P (Str.ofString "zip"), key := Value.str (Str.ofString "zip") 80, val := Value.type "zip" }, { hash := PyData.keyHash P (Str.ofString "__debug__"), key := Value.str (Str.ofString "__debug__") 81, val := Value.bool true }, { hash := PyData.keyHash P (Str.ofString "BaseException"), key := Value.str (Str.ofString "BaseException") 82, val := Value.type "BaseException" }, { hash := PyData.keyHash P (Str.ofString "BaseExceptionGroup"), key := Value.str (Str.ofString "BaseExceptionGroup") 83, val := Value.type "BaseExceptionGroup" }, { hash := PyData.keyHash P (Str.ofString "Exception"), key := Value.str (Str.ofString "Exception") 84, val := Value.type "Exception" }, { hash := PyData.keyHash P (Str.ofString "GeneratorExit"), key := Value.str (Str.ofString "GeneratorExit") 85, val := Value.type "GeneratorExit" }, { hash := PyData.keyHash P (Str.ofString "KeyboardInterrupt"), key := Value.str (Str.ofString "KeyboardInterrupt") 86, val := Value.type "KeyboardInterrupt" }, { hash := PyData.keyHash P (Str.ofString "SystemExit"), key := Value.str (Str.ofString "SystemExit") 87, val := Value.type "SystemExit" }, { hash := PyData.keyHash P (Str.ofString "ArithmeticError"), key := Value.str (Str.ofString "ArithmeticError") 88, val := Value.type "ArithmeticError" }, { hash := PyData.keyHash P (Str.ofString "AssertionError"), key := Value.str (Str.ofString "AssertionError") 89, val := Value.type "AssertionError" }, { hash := PyData.keyHash P (Str.ofString "AttributeError"), key := Value.str (Str.ofString "AttributeError") 90, val := Value.type "AttributeError" }, { hash := PyData.keyHash P (Str.ofString "BufferError"), key := Value.str (Str.ofString "BufferError") 91, val := Value.type "BufferError" }, { hash := PyData.keyHash P (Str.ofString "EOFError"), key := Value.str (Str.ofString "EOFError") 92, val := Value.type "EOFError" }, { hash := PyData.keyHash P (Str.ofString "ImportError"), key := Value.str (Str.ofString "ImportError") 93, val := Value.type "ImportError" }, { hash := PyData.keyHash P (Str.ofString "LookupError"), key := Value.str (Str.ofString "LookupError") 94, val := Value.type "LookupError" }, { hash := PyData.keyHash P (Str.ofString "MemoryError"), key := Value.str (Str.ofString "MemoryError") 95, val := Value.type "MemoryError" }, { hash := PyData.keyHash P (Str.ofString "NameError"), key := Value.str (Str.ofString "NameError") 96, val := Value.type "NameError" }, { hash := PyData.keyHash P (Str.ofString "OSError"), key := Value.str (Str.ofString "OSError") 97, val := Value.type "OSError" }, { hash := PyData.keyHash P (Str.ofString "ReferenceError"), key := Value.str (Str.ofString "ReferenceError") 98, val := Value.type "ReferenceError" }, { hash := PyData.keyHash P (Str.ofString "RuntimeError"), key := Value.str (Str.ofString "RuntimeError") 99, val := Value.type "RuntimeError" }, { hash := PyData.keyHash P (Str.ofString "StopAsyncIteration"), key := Value.str (Str.ofString "StopAsyncIteration") 100, val := Value.type "StopAsyncIteration" }, { hash := PyData.keyHash P (Str.ofString "StopIteration"), key := Value.str (Str.ofString "StopIteration") 101, val := Value.type "StopIteration" }, { hash := PyData.keyHash P (Str.ofString "SyntaxError"), key := Value.str (Str.ofString "SyntaxError") 102, val := Value.type "SyntaxError" }, { hash := PyData.keyHash P (Str.ofString "SystemError"), key := Value.str (Str.ofString "SystemError") 103, val := Value.type "SystemError" }, { hash := PyData.keyHash P (Str.ofString "TypeError"), key := Value.str (Str.ofString "TypeError") 104, val := Value.type "TypeError" }, { hash := PyData.keyHash P (Str.ofString "ValueError"), key := Value.str (Str.ofString "ValueError") 105, val := Value.type "ValueError" }, { hash := PyData.keyHash P (Str.ofString "Warning"), key := Value.str (Str.ofString "Warning") 106, val := Value.type "Warning" }, { hash := PyData.keyHash P (Str.ofString "FloatingPointError"), key := Value.str (Str.ofString "FloatingPointError") 107, val := Value.type "FloatingPointError" }, { hash := PyData.keyHash P (Str.ofString "OverflowError"), key := Value.str (Str.ofString "OverflowError") 108, val := Value.type "OverflowError" }, { hash := PyData.keyHash P (Str.ofString "ZeroDivisionError"), key := Value.str (Str.ofString "ZeroDivisionError") 109, val := Value.type "ZeroDivisionError" }, { hash := PyData.keyHash P (Str.ofString "BytesWarning"), key := Value.str (Str.ofString "BytesWarning") 110, val := Value.type "BytesWarning" }, { hash := PyData.keyHash P (Str.ofString "DeprecationWarning"), key := Value.str (Str.ofString "DeprecationWarning") 111, val := Value.type "DeprecationWarning" }, { hash := PyData.keyHash P (Str.ofString "EncodingWarning"), key := Value.str (Str.ofString "EncodingWarning") 112, val := Value.type "EncodingWarning" }, { hash := PyData.keyHash P (Str.ofString "FutureWarning"), key := Value.str (Str.ofString "FutureWarning") 113, val := Value.type "FutureWarning" }, { hash := PyData.keyHash P (Str.ofString "ImportWarning"), key := Value.str (Str.ofString "ImportWarning") 114, val := Value.type "ImportWarning" }, { hash := PyData.keyHash P (Str.ofString "PendingDeprecationWarning"), key := Value.str (Str.ofString "PendingDeprecationWarning") 115, val := Value.type "PendingDeprecationWarning" }, { hash := PyData.keyHash P (Str.ofString "ResourceWarning"), key := Value.str (Str.ofString "ResourceWarning") 116, val := Value.type "ResourceWarning" }, { hash := PyData.keyHash P (Str.ofString "RuntimeWarning"), key := Value.str (Str.ofString "RuntimeWarning") 117, val := Value.type "RuntimeWarning" }, { hash := PyData.keyHash P (Str.ofString "SyntaxWarning"), key := Value.str (Str.ofString "SyntaxWarning") 118, val := Value.type "SyntaxWarning" }, { hash := PyData.keyHash P (Str.ofString "UnicodeWarning"), key := Value.str (Str.ofString "UnicodeWarning") 119, val := Value.type "UnicodeWarning" }, { hash := PyData.keyHash P (Str.ofString "UserWarning"), key := Value.str (Str.ofString "UserWarning") 120, val := Value.type "UserWarning" }, { hash := PyData.keyHash P (Str.ofString "BlockingIOError"), key := Value.str (Str.ofString "BlockingIOError") 121, val := Value.type "BlockingIOError" }, { hash := PyData.keyHash P (Str.ofString "ChildProcessError"), key := Value.str (Str.ofString "ChildProcessError") 122, val := Value.type "ChildProcessError" }, { hash := PyData.keyHash P (Str.ofString "ConnectionError"), key := Value.str (Str.ofString "ConnectionError") 123, val := Value.type "ConnectionError" }, { hash := PyData.keyHash P (Str.ofString "FileExistsError"), key := Value.str (Str.ofString "FileExistsError") 124, val := Value.type "FileExistsError" }, { hash := PyData.keyHash P (Str.ofString "FileNotFoundError"), key := Value.str (Str.ofString "FileNotFoundError") 125, val := Value.type "FileNotFoundError" }, { hash := PyData.keyHash P (Str.ofString "InterruptedError"), key := Value.str (Str.ofString "InterruptedError") 126, val := Value.type "InterruptedError" }, { hash := PyData.keyHash P (Str.ofString "IsADirectoryError"), key := Value.str (Str.ofString "IsADirectoryError") 127, val := Value.type "IsADirectoryError" }, { hash := PyData.keyHash P (Str.ofString "NotADirectoryError"), key := Value.str (Str.ofString "NotADirectoryError") 128, val := Value.type "NotADirectoryError" }, { hash := PyData.keyHash P (Str.ofString "PermissionError"), key := Value.str (Str.ofString "PermissionError") 129, val := Value.type "PermissionError" }, { hash := PyData.keyHash P (Str.ofString "ProcessLookupError"), key := Value.str (Str.ofString "ProcessLookupError") 130, val := Value.type "ProcessLookupError" }, { hash := PyData.keyHash P (Str.ofString "TimeoutError"), key := Value.str (Str.ofString "TimeoutError") 131, val := Value.type "TimeoutError" }, { hash := PyData.keyHash P (Str.ofString "IndentationError"), key := Value.str (Str.ofString "IndentationError") 132, val := Value.type "IndentationError" }, { hash := PyData.keyHash P (Str.ofString "_IncompleteInputError"), key := Value.str (Str.ofString "_IncompleteInputError") 133, val := Value.type "_IncompleteInputError" }, { hash := PyData.keyHash P (Str.ofString "IndexError"), key := Value.str (Str.ofString "IndexError") 134, val := Value.type "IndexError" }, { hash := PyData.keyHash P (Str.ofString "KeyError"), key := Value.str (Str.ofString "KeyError") 135, val := Value.type "KeyError" }, { hash := PyData.keyHash P (Str.ofString "ModuleNotFoundError"), key := Value.str (Str.ofString "ModuleNotFoundError") 136, val := Value.type "ModuleNotFoundError" }, { hash := PyData.keyHash P (Str.ofString "NotImplementedError"), key := Value.str (Str.ofString "NotImplementedError") 137, val := Value.type "NotImplementedError" }, { hash := PyData.keyHash P (Str.ofString "PythonFinalizationError"), key := Value.str (Str.ofString "PythonFinalizationError") 138, val := Value.type "PythonFinalizationError" }, { hash := PyData.keyHash P (Str.ofString "RecursionError"), key := Value.str (Str.ofString "RecursionError") 139, val := Value.type "RecursionError" }, { hash := PyData.keyHash P (Str.ofString "UnboundLocalError"), key := Value.str (Str.ofString "UnboundLocalError") 140, val := Value.type "UnboundLocalError" }, { hash := PyData.keyHash P (Str.ofString "UnicodeError"), key := Value.str (Str.ofString "UnicodeError") 141, val := Value.type "UnicodeError" }, { hash := PyData.keyHash P (Str.ofString "BrokenPipeError"), key := Value.str (Str.ofString "BrokenPipeError") 142, val := Value.type "BrokenPipeError" }, { hash := PyData.keyHash P (Str.ofString "ConnectionAbortedError"), key := Value.str (Str.ofString "ConnectionAbortedError") 143, val := Value.type "ConnectionAbortedError" }, { hash := PyData.keyHash P (Str.ofString "ConnectionRefusedError"), key := Value.str (Str.ofString "ConnectionRefusedError") 144, val := Value.type "ConnectionRefusedError" }, { hash := PyData.keyHash P (Str.ofString "ConnectionResetError"), key := Value.str (Str.ofString "ConnectionResetError") 145, val := Value.type "ConnectionResetError" }, { hash := PyData.keyHash P (Str.ofString "TabError"), key := Value.str (Str.ofString "TabError") 146, val := Value.type "TabError" }, { hash := PyData.keyHash P (Str.ofString "UnicodeDecodeError"), key := Value.str (Str.ofString "UnicodeDecodeError") 147, val := Value.type "UnicodeDecodeError" }, { hash := PyData.keyHash P (Str.ofString "UnicodeEncodeError"), key := Value.str (Str.ofString "UnicodeEncodeError") 148, val := Value.type "UnicodeEncodeError" }, { hash := PyData.keyHash P (Str.ofString "UnicodeTranslateError"), key := Value.str (Str.ofString "UnicodeTranslateError") 149, val := Value.type "UnicodeTranslateError" }, { hash := PyData.keyHash P (Str.ofString "ExceptionGroup"), key := Value.str (Str.ofString "ExceptionGroup") 150, val := Value.type "ExceptionGroup" }, { hash := PyData.keyHash P (Str.ofString "EnvironmentError"), key := Value.str (Str.ofString "EnvironmentError") 151, val := Value.type "OSError" }, { hash := PyData.keyHash P (Str.ofString "IOError"), key := Value.str (Str.ofString "IOError") 152, val := Value.type "OSError" }, { hash := PyData.keyHash P (Str.ofString "open"), key := Value.str (Str.ofString "open") 153, val := Value.builtin "open" }, { hash := PyData.keyHash P (Str.ofString "quit"), key := Value.str (Str.ofString "quit") 154, val := Value.builtin "builtins.quit#opaque" }, { hash := PyData.keyHash P (Str.ofString "exit"), key := Value.str (Str.ofString "exit") 155, val := Value.builtin "builtins.exit#opaque" }, { hash := PyData.keyHash P (Str.ofString "copyright"), key := Value.str (Str.ofString "copyright") 156, val := Value.builtin "builtins.copyright#opaque" }, { hash := PyData.keyHash P (Str.ofString "credits"), key := Value.str (Str.ofString "credits") 157, val := Value.builtin "builtins.credits#opaque" }, { hash := PyData.keyHash P (Str.ofString "license"), key := Value.str (Str.ofString "license") 158, val := Value.builtin "builtins.license#opaque" }, { hash := PyData.keyHash P (Str.ofString "help"), key := Value.str (Str.ofString "help") 159, val := Value.builtin "builtins.help#opaque" }] 159 }) ::
  (nat_lit 1, { cls := Value.type "dict", data := Data.dict #[{ hash := PyData.keyHash P (Str.ofString "builtins"), key := Value.str (Str.ofString "builtins") 162, val := Value.ref 4 }, { hash := PyData.keyHash P (Str.ofString "__main__"), key := Value.str (Str.ofString "__main__") 163, val := Value.ref 5 }] 2 }) ::
  (nat_lit 4, { cls := Value.type "module", dict := some 0 }) ::
  (nat_lit 5, { cls := Value.type "module", dict := some 3 }) ::
  (nat_lit 6, { cls := Value.type "dict", data := Data.dict #[] }) ::
  (nat_lit 7, { cls := Value.type "tuple", data := Data.seq #[] }) ::
  (nat_lit 8, { cls := Value.none, data := Data.fields #[] }) ::
  (nat_lit 9, { cls := Value.type "code", data := Data.fields #[Value.str (Str.ofString "<module>") 176, Value.str (Str.ofString "<module>") 177, Value.str (Str.ofString "/claim/cut.py") 178, Value.int 1 0, Value.int 0 0, Value.int 0 0, Value.int 0 0, Value.int 0 0, Value.ref 7, Value.bool false, Value.int 175 0, Value.ref 8, Value.none, Value.none, Value.none, Value.none, Value.int 179 0, Value.int 1 0, Value.str (Str.ofString "/claim/cut.py") 180] }) ::
  (nat_lit 10, { cls := Value.type "frame", slots := #[some (Value.ref 9), some (Value.ref 3), some (Value.ref 3), none, some (Value.str (Str.ofString "__main__") 164), none, some (Value.ref 0)] }) ::
  (nat_lit 11, { cls := Value.type "tuple", data := Data.seq #[] }) ::
  (nat_lit 12, { cls := Value.none, data := Data.fields #[Value.int 2 0, Value.int 0 0, Value.ref 20, Value.int 13 0, Value.int 0 0, Value.ref 48, Value.int 15 0, Value.int 0 0, Value.ref 60, Value.int 17 0, Value.int 0 0, Value.ref 72, Value.int 19 0, Value.int 0 0, Value.ref 79, Value.int 21 0, Value.int 0 0, Value.ref 86, Value.int 24 0, Value.int 0 0, Value.ref 93, Value.int 26 0, Value.int 0 0, Value.ref 100, Value.int 34 0, Value.int 0 0, Value.ref 107, Value.int 44 0, Value.int 0 0, Value.ref 135, Value.int 56 0, Value.int 0 0, Value.ref 163, Value.int 73 0, Value.int 0 0, Value.ref 196, Value.int 78 0, Value.int 0 0, Value.ref 203, Value.int 80 0, Value.int 0 0, Value.ref 210, Value.int 89 0, Value.int 0 0, Value.ref 217, Value.int 102 0, Value.int 0 0, Value.ref 224, Value.int 110 0, Value.int 0 0, Value.ref 231, Value.int 113 0, Value.int 0 0, Value.ref 236, Value.int 133 0, Value.int 0 0, Value.ref 243, Value.int 142 0, Value.int 0 0, Value.ref 250, Value.int 161 0, Value.int 0 0, Value.ref 255] }) ::
  (nat_lit 13, { cls := Value.type "code", data := Data.fields #[Value.str (Str.ofString "<module>") 182, Value.str (Str.ofString "<module>") 183, Value.str (Str.ofString "/claim/cut.py") 184, Value.int 1 0, Value.int 0 0, Value.int 0 0, Value.int 0 0, Value.int 0 0, Value.ref 11, Value.bool false, Value.int 181 0, Value.ref 12, Value.none, Value.none, Value.none, Value.none, Value.int 185 0, Value.int 1 0, Value.str (Str.ofString "/claim/cut.py") 186] }) ::
  (nat_lit 14, { cls := Value.type "frame", slots := #[some (Value.ref 13), some (Value.ref 3), some (Value.ref 3), none, some (Value.str (Str.ofString "__main__") 164), none, some (Value.ref 0)] }) ::
  (nat_lit 16, { cls := Value.type "builtin_function_or_method", data := Data.fields #[Value.builtin "type.__prepare__", Value.type "type"] }) ::
  (nat_lit 17, { cls := Value.type "dict", data := Data.dict #[{ hash := PyData.keyHash P (Str.ofString "__module__"), key := Value.str (Str.ofString "__module__") 196, val := Value.str (Str.ofString "octetmint.basics") 187 }, { hash := PyData.keyHash P (Str.ofString "__qualname__"), key := Value.str (Str.ofString "__qualname__") 198, val := Value.str (Str.ofString "MintError") 197 }, { hash := PyData.keyHash P (Str.ofString "__firstlineno__"), key := Value.str (Str.ofString "__firstlineno__") 200, val := Value.int 2 199 }, { hash := PyData.keyHash P (Str.ofString "__init__"), key := Value.str (Str.ofString "__init__") 209, val := Value.ref 29 }, { hash := PyData.keyHash P (Str.ofString "told"), key := Value.str (Str.ofString "told") 216, val := Value.ref 36 }, { hash := PyData.keyHash P (Str.ofString "__static_attributes__"), key := Value.str (Str.ofString "__static_attributes__") 219, val := Value.ref 37 }] 6 }) ::
  (nat_lit 18, { cls := Value.type "tuple", data := Data.seq #[] }) ::
  (nat_lit 19, { cls := Value.none, data := Data.fields #[Value.int 4 0, Value.int 4 0, Value.ref 28, Value.int 9 0, Value.int 4 0, Value.ref 35] }) ::
  (nat_lit 20, { cls := Value.type "code", data := Data.fields #[Value.str (Str.ofString "MintError") 191, Value.str (Str.ofString "MintError") 192, Value.str (Str.ofString "/claim/cut.py") 193, Value.int 2 0, Value.int 0 0, Value.int 0 0, Value.int 0 0, Value.int 0 0, Value.ref 18, Value.bool false, Value.int 181 0, Value.ref 19, Value.none, Value.none, Value.none, Value.none, Value.int 194 0, Value.int 2 0, Value.str (Str.ofString "/claim/cut.py") 195] }) ::
  (nat_lit 21, { cls := Value.type "frame", slots := #[some (Value.ref 20), some (Value.ref 3), some (Value.ref 17), none, some (Value.str (Str.ofString "octetmint.basics") 187), none, some (Value.ref 0)] }) ::
  (nat_lit 24, { cls := Value.none, data := Data.fields #[] }) ::
  (nat_lit 27, { cls := Value.none, data := Data.func { name := Str.ofString "__init__", qualname := Str.ofString "MintError.__init__", params := aP (nat_lit 1) (nat_lit 1), body := FuncBody.stmts (aB (nat_lit 1) (nat_lit 1)), scope := aS (nat_lit 1) (nat_lit 1), globals := 0, closure := [], defaults := Value.none, kwdefaults := Value.none } }) ::
  (nat_lit 31, { cls := Value.none, data := Data.fields #[] }) ::
  (nat_lit 34, { cls := Value.none, data := Data.func { name := Str.ofString "told", qualname := Str.ofString "MintError.told", params := aP (nat_lit 1) (nat_lit 2), body := FuncBody.stmts (aB (nat_lit 1) (nat_lit 2)), scope := aS (nat_lit 11) (nat_lit 2), globals := 0, closure := [], defaults := Value.none, kwdefaults := Value.none } }) ::
  (nat_lit 41, { cls := Value.type "super", data := Data.fields #[Value.ref 39, Value.ref 39, Value.ref 39] }) ::
  (nat_lit 42, { cls := Value.type "builtin_function_or_method", data := Data.fields #[Value.builtin "object.__init_subclass__", Value.ref 39] }) ::
  (nat_lit 44, { cls := Value.type "builtin_function_or_method", data := Data.fields #[Value.builtin "type.__prepare__", Value.type "type"] }) ::
  (nat_lit 45, { cls := Value.type "dict", data := Data.dict #[{ hash := PyData.keyHash P (Str.ofString "__module__"), key := Value.str (Str.ofString "__module__") 234, val := Value.str (Str.ofString "octetmint.basics") 187 }, { hash := PyData.keyHash P (Str.ofString "__qualname__"), key := Value.str (Str.ofString "__qualname__") 236, val := Value.str (Str.ofString "EncodeError") 235 }, { hash := PyData.keyHash P (Str.ofString "__firstlineno__"), key := Value.str (Str.ofString "__firstlineno__") 238, val := Value.int 13 237 }, { hash := PyData.keyHash P (Str.ofString "__static_attributes__"), key := Value.str (Str.ofString "__static_attributes__") 239, val := Value.ref 50 }] 4 }) ::
  (nat_lit 46, { cls := Value.type "tuple", data := Data.seq #[] }) ::
  (nat_lit 47, { cls := Value.none, data := Data.fields #[] }) ::
  (nat_lit 48, { cls := Value.type "code", data := Data.fields #[Value.str (Str.ofString "EncodeError") 229, Value.str (Str.ofString "EncodeError") 230, Value.str (Str.ofString "/claim/cut.py") 231, Value.int 13 0, Value.int 0 0, Value.int 0 0, Value.int 0 0, Value.int 0 0, Value.ref 46, Value.bool false, Value.int 181 0, Value.ref 47, Value.none, Value.none, Value.none, Value.none, Value.int 232 0, Value.int 13 0, Value.str (Str.ofString "/claim/cut.py") 233] }) ::
  (nat_lit 49, { cls := Value.type "frame", slots := #[some (Value.ref 48), some (Value.ref 3), some (Value.ref 45), none, some (Value.str (Str.ofString "octetmint.basics") 187), none, some (Value.ref 0)] }) ::
  (nat_lit 53, { cls := Value.type "super", data := Data.fields #[Value.ref 52, Value.ref 52, Value.ref 52] }) ::
  (nat_lit 54, { cls := Value.type "builtin_function_or_method", data := Data.fields #[Value.builtin "object.__init_subclass__", Value.ref 52] }) ::
  (nat_lit 56, { cls := Value.type "builtin_function_or_method", data := Data.fields #[Value.builtin "type.__prepare__", Value.type "type"] }) ::
  (nat_lit 57, { cls := Value.type "dict", data := Data.dict #[{ hash := PyData.keyHash P (Str.ofString "__module__"), key := Value.str (Str.ofString "__module__") 250, val := Value.str (Str.ofString "octetmint.basics") 187 }, { hash := PyData.keyHash P (Str.ofString "__qualname__"), key := Value.str (Str.ofString "__qualname__") 252, val := Value.str (Str.ofString "SymbolError") 251 }, { hash := PyData.keyHash P (Str.ofString "__firstlineno__"), key := Value.str (Str.ofString "__firstlineno__") 254, val := Value.int 15 253 }, { hash := PyData.keyHash P (Str.ofString "__static_attributes__"), key := Value.str (Str.ofString "__static_attributes__") 255, val := Value.ref 62 }] 4 }) ::
  (nat_lit 58, { cls := Value.type "tuple", data := Data.seq #[] }) ::
  (nat_lit 59, { cls := Value.none, data := Data.fields #[] }) ::
  (nat_lit 60, { cls := Value.type "code", data := Data.fields #[Value.str (Str.ofString "SymbolError") 245, Value.str (Str.ofString "SymbolError") 246, Value.str (Str.ofString "/claim/cut.py") 247, Value.int 15 0, Value.int 0 0, Value.int 0 0, Value.int 0 0, Value.int 0 0, Value.ref 58, Value.bool false, Value.int 181 0, Value.ref 59, Value.none, Value.none, Value.none, Value.none, Value.int 248 0, Value.int 15 0, Value.str (Str.ofString "/claim/cut.py") 249] }) ::
  (nat_lit 61, { cls := Value.type "frame", slots := #[some (Value.ref 60), some (Value.ref 3), some (Value.ref 57), none, some (Value.str (Str.ofString "octetmint.basics") 187), none, some (Value.ref 0)] }) ::
  (nat_lit 65, { cls := Value.type "super", data := Data.fields #[Value.ref 64, Value.ref 64, Value.ref 64] }) ::
  (nat_lit 66, { cls := Value.type "builtin_function_or_method", data := Data.fields #[Value.builtin "object.__init_subclass__", Value.ref 64] }) ::
  (nat_lit 68, { cls := Value.none, data := Data.fields #[] }) ::
  (nat_lit 71, { cls := Value.none, data := Data.func { name := Str.ofString "mask", qualname := Str.ofString "mask", params := aP (nat_lit 4) (nat_lit 0), body := FuncBody.stmts (aB (nat_lit 4) (nat_lit 0)), scope := aS (nat_lit 4) (nat_lit 0), globals := 0, closure := [], defaults := Value.none, kwdefaults := Value.none } }) ::
  (nat_lit 75, { cls := Value.none, data := Data.fields #[] }) ::
  (nat_lit 78, { cls := Value.none, data := Data.func { name := Str.ofString "wrap", qualname := Str.ofString "wrap", params := aP (nat_lit 5) (nat_lit 0), body := FuncBody.stmts (aB (nat_lit 5) (nat_lit 0)), scope := aS (nat_lit 7) (nat_lit 0), globals := 0, closure := [], defaults := Value.none, kwdefaults := Value.none } }) ::
  (nat_lit 82, { cls := Value.none, data := Data.fields #[] }) ::
  (nat_lit 85, { cls := Value.none, data := Data.func { name := Str.ofString "fits_signed", qualname := Str.ofString "fits_signed", params := aP (nat_lit 6) (nat_lit 0), body := FuncBody.stmts (aB (nat_lit 6) (nat_lit 0)), scope := aS (nat_lit 6) (nat_lit 0), globals := 0, closure := [], defaults := Value.none, kwdefaults := Value.none } }) ::
  (nat_lit 89, { cls := Value.none, data := Data.fields #[] }) ::
  (nat_lit 92, { cls := Value.none, data := Data.func { name := Str.ofString "fits_either", qualname := Str.ofString "fits_either", params := aP (nat_lit 7) (nat_lit 0), body := FuncBody.stmts (aB (nat_lit 7) (nat_lit 0)), scope := aS (nat_lit 7) (nat_lit 0), globals := 0, closure := [], defaults := Value.none, kwdefaults := Value.none } }) ::
  (nat_lit 96, { cls := Value.none, data := Data.fields #[] }) ::
  (nat_lit 99, { cls := Value.none, data := Data.func { name := Str.ofString "little", qualname := Str.ofString "little", params := aP (nat_lit 8) (nat_lit 0), body := FuncBody.stmts (aB (nat_lit 8) (nat_lit 0)), scope := aS (nat_lit 8) (nat_lit 0), globals := 0, closure := [], defaults := Value.none, kwdefaults := Value.none } }) ::
  (nat_lit 102, { cls := Value.type "tuple", data := Data.seq #[] }) ::
  (nat_lit 103, { cls := Value.type "builtin_function_or_method", data := Data.fields #[Value.builtin "type.__prepare__", Value.type "type"] }) ::
  (nat_lit 104, { cls := Value.type "dict", data := Data.dict #[{ hash := PyData.keyHash P (Str.ofString "__module__"), key := Value.str (Str.ofString "__module__") 311, val := Value.str (Str.ofString "octetmint.assembler") 302 }, { hash := PyData.keyHash P (Str.ofString "__qualname__"), key := Value.str (Str.ofString "__qualname__") 313, val := Value.str (Str.ofString "SymbolRow") 312 }, { hash := PyData.keyHash P (Str.ofString "__firstlineno__"), key := Value.str (Str.ofString "__firstlineno__") 315, val := Value.int 34 314 }, { hash := PyData.keyHash P (Str.ofString "__init__"), key := Value.str (Str.ofString "__init__") 326, val := Value.ref 115 }, { hash := PyData.keyHash P (Str.ofString "told"), key := Value.str (Str.ofString "told") 333, val := Value.ref 122 }, { hash := PyData.keyHash P (Str.ofString "__static_attributes__"), key := Value.str (Str.ofString "__static_attributes__") 338, val := Value.ref 123 }] 6 }) ::
  (nat_lit 105, { cls := Value.type "tuple", data := Data.seq #[] }) ::
  (nat_lit 106, { cls := Value.none, data := Data.fields #[Value.int 36 0, Value.int 4 0, Value.ref 114, Value.int 42 0, Value.int 4 0, Value.ref 121] }) ::
  (nat_lit 107, { cls := Value.type "code", data := Data.fields #[Value.str (Str.ofString "SymbolRow") 306, Value.str (Str.ofString "SymbolRow") 307, Value.str (Str.ofString "/claim/cut.py") 308, Value.int 34 0, Value.int 0 0, Value.int 0 0, Value.int 0 0, Value.int 0 0, Value.ref 105, Value.bool false, Value.int 181 0, Value.ref 106, Value.none, Value.none, Value.none, Value.none, Value.int 309 0, Value.int 34 0, Value.str (Str.ofString "/claim/cut.py") 310] }) ::
  (nat_lit 108, { cls := Value.type "frame", slots := #[some (Value.ref 107), some (Value.ref 3), some (Value.ref 104), none, some (Value.str (Str.ofString "octetmint.assembler") 302), none, some (Value.ref 0)] }) ::
  (nat_lit 110, { cls := Value.none, data := Data.fields #[] }) ::
  (nat_lit 113, { cls := Value.none, data := Data.func { name := Str.ofString "__init__", qualname := Str.ofString "SymbolRow.__init__", params := aP (nat_lit 10) (nat_lit 1), body := FuncBody.stmts (aB (nat_lit 10) (nat_lit 1)), scope := aS (nat_lit 10) (nat_lit 1), globals := 0, closure := [], defaults := Value.none, kwdefaults := Value.none } }) ::
  (nat_lit 117, { cls := Value.none, data := Data.fields #[] }) ::
  (nat_lit 120, { cls := Value.none, data := Data.func { name := Str.ofString "told", qualname := Str.ofString "SymbolRow.told", params := aP (nat_lit 10) (nat_lit 2), body := FuncBody.stmts (aB (nat_lit 10) (nat_lit 2)), scope := aS (nat_lit 11) (nat_lit 2), globals := 0, closure := [], defaults := Value.none, kwdefaults := Value.none } }) ::
  (nat_lit 128, { cls := Value.type "super", data := Data.fields #[Value.ref 125, Value.ref 125, Value.ref 125] }) ::
  (nat_lit 129, { cls := Value.type "builtin_function_or_method", data := Data.fields #[Value.builtin "object.__init_subclass__", Value.ref 125] }) ::
  (nat_lit 130, { cls := Value.type "tuple", data := Data.seq #[] }) ::
  (nat_lit 131, { cls := Value.type "builtin_function_or_method", data := Data.fields #[Value.builtin "type.__prepare__", Value.type "type"] }) ::
  (nat_lit 132, { cls := Value.type "dict", data := Data.dict #[{ hash := PyData.keyHash P (Str.ofString "__module__"), key := Value.str (Str.ofString "__module__") 353, val := Value.str (Str.ofString "octetmint.assembler") 302 }, { hash := PyData.keyHash P (Str.ofString "__qualname__"), key := Value.str (Str.ofString "__qualname__") 355, val := Value.str (Str.ofString "Relocation") 354 }, { hash := PyData.keyHash P (Str.ofString "__firstlineno__"), key := Value.str (Str.ofString "__firstlineno__") 357, val := Value.int 44 356 }, { hash := PyData.keyHash P (Str.ofString "__init__"), key := Value.str (Str.ofString "__init__") 370, val := Value.ref 143 }, { hash := PyData.keyHash P (Str.ofString "told"), key := Value.str (Str.ofString "told") 377, val := Value.ref 150 }, { hash := PyData.keyHash P (Str.ofString "__static_attributes__"), key := Value.str (Str.ofString "__static_attributes__") 384, val := Value.ref 151 }] 6 }) ::
  (nat_lit 133, { cls := Value.type "tuple", data := Data.seq #[] }) ::
  (nat_lit 134, { cls := Value.none, data := Data.fields #[Value.int 46 0, Value.int 4 0, Value.ref 142, Value.int 54 0, Value.int 4 0, Value.ref 149] }) ::
  (nat_lit 135, { cls := Value.type "code", data := Data.fields #[Value.str (Str.ofString "Relocation") 348, Value.str (Str.ofString "Relocation") 349, Value.str (Str.ofString "/claim/cut.py") 350, Value.int 44 0, Value.int 0 0, Value.int 0 0, Value.int 0 0, Value.int 0 0, Value.ref 133, Value.bool false, Value.int 181 0, Value.ref 134, Value.none, Value.none, Value.none, Value.none, Value.int 351 0, Value.int 44 0, Value.str (Str.ofString "/claim/cut.py") 352] }) ::
  (nat_lit 136, { cls := Value.type "frame", slots := #[some (Value.ref 135), some (Value.ref 3), some (Value.ref 132), none, some (Value.str (Str.ofString "octetmint.assembler") 302), none, some (Value.ref 0)] }) ::
  (nat_lit 138, { cls := Value.none, data := Data.fields #[] }) ::
  (nat_lit 141, { cls := Value.none, data := Data.func { name := Str.ofString "__init__", qualname := Str.ofString "Relocation.__init__", params := aP (nat_lit 11) (nat_lit 1), body := FuncBody.stmts (aB (nat_lit 11) (nat_lit 1)), scope := aS (nat_lit 11) (nat_lit 1), globals := 0, closure := [], defaults := Value.none, kwdefaults := Value.none } }) ::
  (nat_lit 145, { cls := Value.none, data := Data.fields #[] }) ::
  (nat_lit 148, { cls := Value.none, data := Data.func { name := Str.ofString "told", qualname := Str.ofString "Relocation.told", params := aP (nat_lit 11) (nat_lit 2), body := FuncBody.stmts (aB (nat_lit 11) (nat_lit 2)), scope := aS (nat_lit 11) (nat_lit 2), globals := 0, closure := [], defaults := Value.none, kwdefaults := Value.none } }) ::
  (nat_lit 156, { cls := Value.type "super", data := Data.fields #[Value.ref 153, Value.ref 153, Value.ref 153] }) ::
  (nat_lit 157, { cls := Value.type "builtin_function_or_method", data := Data.fields #[Value.builtin "object.__init_subclass__", Value.ref 153] }) ::
  (nat_lit 158, { cls := Value.type "tuple", data := Data.seq #[] }) ::
  (nat_lit 159, { cls := Value.type "builtin_function_or_method", data := Data.fields #[Value.builtin "type.__prepare__", Value.type "type"] }) ::
  (nat_lit 160, { cls := Value.type "dict", data := Data.dict #[{ hash := PyData.keyHash P (Str.ofString "__module__"), key := Value.str (Str.ofString "__module__") 399, val := Value.str (Str.ofString "octetmint.assembler") 302 }, { hash := PyData.keyHash P (Str.ofString "__qualname__"), key := Value.str (Str.ofString "__qualname__") 401, val := Value.str (Str.ofString "Assembled") 400 }, { hash := PyData.keyHash P (Str.ofString "__firstlineno__"), key := Value.str (Str.ofString "__firstlineno__") 403, val := Value.int 56 402 }, { hash := PyData.keyHash P (Str.ofString "__init__"), key := Value.str (Str.ofString "__init__") 414, val := Value.ref 171 }, { hash := PyData.keyHash P (Str.ofString "told"), key := Value.str (Str.ofString "told") 420, val := Value.ref 176 }, { hash := PyData.keyHash P (Str.ofString "find"), key := Value.str (Str.ofString "find") 429, val := Value.ref 183 }, { hash := PyData.keyHash P (Str.ofString "__static_attributes__"), key := Value.str (Str.ofString "__static_attributes__") 434, val := Value.ref 184 }] 7 }) ::
  (nat_lit 161, { cls := Value.type "tuple", data := Data.seq #[] }) ::
  (nat_lit 162, { cls := Value.none, data := Data.fields #[Value.int 58 0, Value.int 4 0, Value.ref 170, Value.int 64 0, Value.int 4 0, Value.ref 175, Value.int 68 0, Value.int 4 0, Value.ref 182] }) ::
  (nat_lit 163, { cls := Value.type "code", data := Data.fields #[Value.str (Str.ofString "Assembled") 394, Value.str (Str.ofString "Assembled") 395, Value.str (Str.ofString "/claim/cut.py") 396, Value.int 56 0, Value.int 0 0, Value.int 0 0, Value.int 0 0, Value.int 0 0, Value.ref 161, Value.bool false, Value.int 181 0, Value.ref 162, Value.none, Value.none, Value.none, Value.none, Value.int 397 0, Value.int 56 0, Value.str (Str.ofString "/claim/cut.py") 398] }) ::
  (nat_lit 164, { cls := Value.type "frame", slots := #[some (Value.ref 163), some (Value.ref 3), some (Value.ref 160), none, some (Value.str (Str.ofString "octetmint.assembler") 302), none, some (Value.ref 0)] }) ::
  (nat_lit 166, { cls := Value.none, data := Data.fields #[] }) ::
  (nat_lit 169, { cls := Value.none, data := Data.func { name := Str.ofString "__init__", qualname := Str.ofString "Assembled.__init__", params := aP (nat_lit 12) (nat_lit 1), body := FuncBody.stmts (aB (nat_lit 12) (nat_lit 1)), scope := aS (nat_lit 12) (nat_lit 1), globals := 0, closure := [], defaults := Value.none, kwdefaults := Value.none } }) ::
  (nat_lit 173, { cls := Value.none, data := Data.fields #[] }) ::
  (nat_lit 174, { cls := Value.none, data := Data.func { name := Str.ofString "told", qualname := Str.ofString "Assembled.told", params := aP (nat_lit 12) (nat_lit 2), body := FuncBody.stmts (aB (nat_lit 12) (nat_lit 2)), scope := aS (nat_lit 12) (nat_lit 2), globals := 0, closure := [], defaults := Value.none, kwdefaults := Value.none } }) ::
  (nat_lit 178, { cls := Value.none, data := Data.fields #[] }) ::
  (nat_lit 181, { cls := Value.none, data := Data.func { name := Str.ofString "find", qualname := Str.ofString "Assembled.find", params := aP (nat_lit 12) (nat_lit 3), body := FuncBody.stmts (aB (nat_lit 12) (nat_lit 3)), scope := aS (nat_lit 12) (nat_lit 3), globals := 0, closure := [], defaults := Value.none, kwdefaults := Value.none } }) ::
  (nat_lit 189, { cls := Value.type "super", data := Data.fields #[Value.ref 186, Value.ref 186, Value.ref 186] }) ::
  (nat_lit 190, { cls := Value.type "builtin_function_or_method", data := Data.fields #[Value.builtin "object.__init_subclass__", Value.ref 186] }) ::
  (nat_lit 192, { cls := Value.none, data := Data.fields #[] }) ::
  (nat_lit 195, { cls := Value.none, data := Data.func { name := Str.ofString "field", qualname := Str.ofString "field", params := aP (nat_lit 13) (nat_lit 0), body := FuncBody.stmts (aB (nat_lit 13) (nat_lit 0)), scope := aS (nat_lit 13) (nat_lit 0), globals := 0, closure := [], defaults := Value.none, kwdefaults := Value.none } }) ::
  (nat_lit 199, { cls := Value.none, data := Data.fields #[] }) ::
  (nat_lit 202, { cls := Value.none, data := Data.func { name := Str.ofString "put", qualname := Str.ofString "put", params := aP (nat_lit 14) (nat_lit 0), body := FuncBody.stmts (aB (nat_lit 14) (nat_lit 0)), scope := aS (nat_lit 14) (nat_lit 0), globals := 0, closure := [], defaults := Value.none, kwdefaults := Value.none } }) ::
  (nat_lit 206, { cls := Value.none, data := Data.fields #[] }) ::
  (nat_lit 209, { cls := Value.none, data := Data.func { name := Str.ofString "place_of", qualname := Str.ofString "place_of", params := aP (nat_lit 15) (nat_lit 0), body := FuncBody.stmts (aB (nat_lit 15) (nat_lit 0)), scope := aS (nat_lit 15) (nat_lit 0), globals := 0, closure := [], defaults := Value.none, kwdefaults := Value.none } }) ::
  (nat_lit 213, { cls := Value.none, data := Data.fields #[] }) ::
  (nat_lit 216, { cls := Value.none, data := Data.func { name := Str.ofString "load", qualname := Str.ofString "load", params := aP (nat_lit 16) (nat_lit 0), body := FuncBody.stmts (aB (nat_lit 16) (nat_lit 0)), scope := aS (nat_lit 16) (nat_lit 0), globals := 0, closure := [], defaults := Value.none, kwdefaults := Value.none } }) ::
  (nat_lit 220, { cls := Value.none, data := Data.fields #[] }) ::
  (nat_lit 223, { cls := Value.none, data := Data.func { name := Str.ofString "_law_draw", qualname := Str.ofString "_law_draw", params := aP (nat_lit 18) (nat_lit 0), body := FuncBody.stmts (aB (nat_lit 18) (nat_lit 0)), scope := aS (nat_lit 18) (nat_lit 0), globals := 0, closure := [], defaults := Value.none, kwdefaults := Value.none } }) ::
  (nat_lit 227, { cls := Value.none, data := Data.fields #[] }) ::
  (nat_lit 230, { cls := Value.none, data := Data.func { name := Str.ofString "_law_worth", qualname := Str.ofString "_law_worth", params := aP (nat_lit 19) (nat_lit 0), body := FuncBody.stmts (aB (nat_lit 19) (nat_lit 0)), scope := aS (nat_lit 19) (nat_lit 0), globals := 0, closure := [], defaults := Value.none, kwdefaults := Value.none } }) ::
  (nat_lit 234, { cls := Value.none, data := Data.fields #[] }) ::
  (nat_lit 235, { cls := Value.none, data := Data.func { name := Str.ofString "_law_object", qualname := Str.ofString "_law_object", params := aP (nat_lit 20) (nat_lit 0), body := FuncBody.stmts (aB (nat_lit 20) (nat_lit 0)), scope := aS (nat_lit 20) (nat_lit 0), globals := 0, closure := [], defaults := Value.none, kwdefaults := Value.none } }) ::
  (nat_lit 239, { cls := Value.none, data := Data.fields #[] }) ::
  (nat_lit 242, { cls := Value.none, data := Data.func { name := Str.ofString "_law_place", qualname := Str.ofString "_law_place", params := aP (nat_lit 21) (nat_lit 0), body := FuncBody.stmts (aB (nat_lit 21) (nat_lit 0)), scope := aS (nat_lit 21) (nat_lit 0), globals := 0, closure := [], defaults := Value.none, kwdefaults := Value.none } }) ::
  (nat_lit 246, { cls := Value.none, data := Data.fields #[] }) ::
  (nat_lit 249, { cls := Value.none, data := Data.func { name := Str.ofString "_law_loaded", qualname := Str.ofString "_law_loaded", params := aP (nat_lit 22) (nat_lit 0), body := FuncBody.stmts (aB (nat_lit 22) (nat_lit 0)), scope := aS (nat_lit 22) (nat_lit 0), globals := 0, closure := [], defaults := Value.none, kwdefaults := Value.none } }) ::
  (nat_lit 253, { cls := Value.none, data := Data.fields #[] }) ::
  (nat_lit 254, { cls := Value.none, data := Data.func { name := Str.ofString "law", qualname := Str.ofString "law", params := aP (nat_lit 23) (nat_lit 0), body := FuncBody.stmts (aB (nat_lit 23) (nat_lit 0)), scope := aS (nat_lit 23) (nat_lit 0), globals := 0, closure := [], defaults := Value.none, kwdefaults := Value.none } }) ::
  []
noncomputable def hd.fin (P : Params) : List Obj := mergeO 300 (hd.heap_39 P) (hd.more P)
noncomputable def hd.h0 (P : Params) : Heap := ⟨Array.mk (updO (
  (nat_lit 2, { cls := Value.none, data := Data.dict #[] }) ::
  (nat_lit 3, { cls := Value.type "dict", data := Data.dict #[{ hash := PyData.keyHash P (Str.ofString "__name__"), key := Value.str (Str.ofString "__name__") 165, val := Value.str (Str.ofString "__main__") 164 }, { hash := PyData.keyHash P (Str.ofString "__doc__"), key := Value.str (Str.ofString "__doc__") 166, val := Value.none }, { hash := PyData.keyHash P (Str.ofString "__package__"), key := Value.str (Str.ofString "__package__") 167, val := Value.none }, { hash := PyData.keyHash P (Str.ofString "__loader__"), key := Value.str (Str.ofString "__loader__") 168, val := Value.builtin "__main__.__loader__#opaque" }, { hash := PyData.keyHash P (Str.ofString "__spec__"), key := Value.str (Str.ofString "__spec__") 169, val := Value.none }, { hash := PyData.keyHash P (Str.ofString "__annotations__"), key := Value.str (Str.ofString "__annotations__") 170, val := Value.ref 6 }, { hash := PyData.keyHash P (Str.ofString "__builtins__"), key := Value.str (Str.ofString "__builtins__") 171, val := Value.ref 4 }, { hash := PyData.keyHash P (Str.ofString "__file__"), key := Value.str (Str.ofString "__file__") 173, val := Value.str (Str.ofString "/claim/cut.py") 172 }, { hash := PyData.keyHash P (Str.ofString "__cached__"), key := Value.str (Str.ofString "__cached__") 174, val := Value.none }] 9 }) ::
  (nat_lit 12, { cls := Value.none, data := Data.fields #[] }) ::
  []) ((hd.fin P).take 15)), {}⟩
noncomputable def hd.h1 (P : Params) : Heap := ⟨Array.mk (updO (
  (nat_lit 3, { cls := Value.type "dict", data := Data.dict #[{ hash := PyData.keyHash P (Str.ofString "__name__"), key := Value.str (Str.ofString "__name__") 165, val := Value.str (Str.ofString "octetmint.basics") 187 }, { hash := PyData.keyHash P (Str.ofString "__doc__"), key := Value.str (Str.ofString "__doc__") 166, val := Value.none }, { hash := PyData.keyHash P (Str.ofString "__package__"), key := Value.str (Str.ofString "__package__") 167, val := Value.none }, { hash := PyData.keyHash P (Str.ofString "__loader__"), key := Value.str (Str.ofString "__loader__") 168, val := Value.builtin "__main__.__loader__#opaque" }, { hash := PyData.keyHash P (Str.ofString "__spec__"), key := Value.str (Str.ofString "__spec__") 169, val := Value.none }, { hash := PyData.keyHash P (Str.ofString "__annotations__"), key := Value.str (Str.ofString "__annotations__") 170, val := Value.ref 6 }, { hash := PyData.keyHash P (Str.ofString "__builtins__"), key := Value.str (Str.ofString "__builtins__") 171, val := Value.ref 4 }, { hash := PyData.keyHash P (Str.ofString "__file__"), key := Value.str (Str.ofString "__file__") 173, val := Value.str (Str.ofString "/claim/cut.py") 172 }, { hash := PyData.keyHash P (Str.ofString "__cached__"), key := Value.str (Str.ofString "__cached__") 174, val := Value.none }, { hash := PyData.keyHash P (Str.ofString "MintError"), key := Value.str (Str.ofString "MintError") 226, val := Value.ref 39 }] 10 }) ::
  (nat_lit 12, { cls := Value.none, data := Data.fields #[Value.int 2 0, Value.int 0 0, Value.ref 20] }) ::
  (nat_lit 39, { cls := Value.type "type", data := Data.cls { name := Str.ofString "MintError", bases := [Value.type "Exception"], mro := [Value.ref 39, Value.type "Exception", Value.type "BaseException", Value.type "object"], ns := 38, qualname := Str.ofString "MintError" }, slots := #[some (Value.ref 15), none, some (Value.str (Str.ofString "MintError") 189), some (Value.str (Str.ofString "MintError") 197), some (Value.builtin "Exception.__new__"), some (Value.bool true)] }) ::
  []) ((hd.fin P).take 43)), {}⟩
noncomputable def hd.h2 (P : Params) : Heap := ⟨Array.mk (updO (
  (nat_lit 3, { cls := Value.type "dict", data := Data.dict #[{ hash := PyData.keyHash P (Str.ofString "__name__"), key := Value.str (Str.ofString "__name__") 165, val := Value.str (Str.ofString "octetmint.basics") 187 }, { hash := PyData.keyHash P (Str.ofString "__doc__"), key := Value.str (Str.ofString "__doc__") 166, val := Value.none }, { hash := PyData.keyHash P (Str.ofString "__package__"), key := Value.str (Str.ofString "__package__") 167, val := Value.none }, { hash := PyData.keyHash P (Str.ofString "__loader__"), key := Value.str (Str.ofString "__loader__") 168, val := Value.builtin "__main__.__loader__#opaque" }, { hash := PyData.keyHash P (Str.ofString "__spec__"), key := Value.str (Str.ofString "__spec__") 169, val := Value.none }, { hash := PyData.keyHash P (Str.ofString "__annotations__"), key := Value.str (Str.ofString "__annotations__") 170, val := Value.ref 6 }, { hash := PyData.keyHash P (Str.ofString "__builtins__"), key := Value.str (Str.ofString "__builtins__") 171, val := Value.ref 4 }, { hash := PyData.keyHash P (Str.ofString "__file__"), key := Value.str (Str.ofString "__file__") 173, val := Value.str (Str.ofString "/claim/cut.py") 172 }, { hash := PyData.keyHash P (Str.ofString "__cached__"), key := Value.str (Str.ofString "__cached__") 174, val := Value.none }, { hash := PyData.keyHash P (Str.ofString "MintError"), key := Value.str (Str.ofString "MintError") 226, val := Value.ref 39 }, { hash := PyData.keyHash P (Str.ofString "EncodeError"), key := Value.str (Str.ofString "EncodeError") 242, val := Value.ref 52 }, { hash := PyData.keyHash P (Str.ofString "SymbolError"), key := Value.str (Str.ofString "SymbolError") 258, val := Value.ref 64 }] 12 }) ::
  (nat_lit 12, { cls := Value.none, data := Data.fields #[Value.int 2 0, Value.int 0 0, Value.ref 20, Value.int 13 0, Value.int 0 0, Value.ref 48, Value.int 15 0, Value.int 0 0, Value.ref 60] }) ::
  []) ((hd.fin P).take 67)), {}⟩
noncomputable def hd.h3 (P : Params) : Heap := ⟨Array.mk (updO (
  (nat_lit 3, { cls := Value.type "dict", data := Data.dict #[{ hash := PyData.keyHash P (Str.ofString "__name__"), key := Value.str (Str.ofString "__name__") 165, val := Value.str (Str.ofString "octetmint.assembler") 302 }, { hash := PyData.keyHash P (Str.ofString "__doc__"), key := Value.str (Str.ofString "__doc__") 166, val := Value.none }, { hash := PyData.keyHash P (Str.ofString "__package__"), key := Value.str (Str.ofString "__package__") 167, val := Value.none }, { hash := PyData.keyHash P (Str.ofString "__loader__"), key := Value.str (Str.ofString "__loader__") 168, val := Value.builtin "__main__.__loader__#opaque" }, { hash := PyData.keyHash P (Str.ofString "__spec__"), key := Value.str (Str.ofString "__spec__") 169, val := Value.none }, { hash := PyData.keyHash P (Str.ofString "__annotations__"), key := Value.str (Str.ofString "__annotations__") 170, val := Value.ref 6 }, { hash := PyData.keyHash P (Str.ofString "__builtins__"), key := Value.str (Str.ofString "__builtins__") 171, val := Value.ref 4 }, { hash := PyData.keyHash P (Str.ofString "__file__"), key := Value.str (Str.ofString "__file__") 173, val := Value.str (Str.ofString "/claim/cut.py") 172 }, { hash := PyData.keyHash P (Str.ofString "__cached__"), key := Value.str (Str.ofString "__cached__") 174, val := Value.none }, { hash := PyData.keyHash P (Str.ofString "MintError"), key := Value.str (Str.ofString "MintError") 226, val := Value.ref 39 }, { hash := PyData.keyHash P (Str.ofString "EncodeError"), key := Value.str (Str.ofString "EncodeError") 242, val := Value.ref 52 }, { hash := PyData.keyHash P (Str.ofString "SymbolError"), key := Value.str (Str.ofString "SymbolError") 258, val := Value.ref 64 }, { hash := PyData.keyHash P (Str.ofString "mask"), key := Value.str (Str.ofString "mask") 265, val := Value.ref 73 }, { hash := PyData.keyHash P (Str.ofString "wrap"), key := Value.str (Str.ofString "wrap") 273, val := Value.ref 80 }, { hash := PyData.keyHash P (Str.ofString "fits_signed"), key := Value.str (Str.ofString "fits_signed") 282, val := Value.ref 87 }, { hash := PyData.keyHash P (Str.ofString "fits_either"), key := Value.str (Str.ofString "fits_either") 290, val := Value.ref 94 }, { hash := PyData.keyHash P (Str.ofString "little"), key := Value.str (Str.ofString "little") 301, val := Value.ref 101 }, { hash := PyData.keyHash P (Str.ofString "SymbolRow"), key := Value.str (Str.ofString "SymbolRow") 345, val := Value.ref 125 }] 18 }) ::
  (nat_lit 12, { cls := Value.none, data := Data.fields #[Value.int 2 0, Value.int 0 0, Value.ref 20, Value.int 13 0, Value.int 0 0, Value.ref 48, Value.int 15 0, Value.int 0 0, Value.ref 60, Value.int 17 0, Value.int 0 0, Value.ref 72, Value.int 19 0, Value.int 0 0, Value.ref 79, Value.int 21 0, Value.int 0 0, Value.ref 86, Value.int 24 0, Value.int 0 0, Value.ref 93, Value.int 26 0, Value.int 0 0, Value.ref 100, Value.int 34 0, Value.int 0 0, Value.ref 107] }) ::
  []) ((hd.fin P).take 130)), {}⟩
noncomputable def hd.h4 (P : Params) : Heap := ⟨Array.mk (updO (
  (nat_lit 3, { cls := Value.type "dict", data := Data.dict #[{ hash := PyData.keyHash P (Str.ofString "__name__"), key := Value.str (Str.ofString "__name__") 165, val := Value.str (Str.ofString "octetmint.assembler") 302 }, { hash := PyData.keyHash P (Str.ofString "__doc__"), key := Value.str (Str.ofString "__doc__") 166, val := Value.none }, { hash := PyData.keyHash P (Str.ofString "__package__"), key := Value.str (Str.ofString "__package__") 167, val := Value.none }, { hash := PyData.keyHash P (Str.ofString "__loader__"), key := Value.str (Str.ofString "__loader__") 168, val := Value.builtin "__main__.__loader__#opaque" }, { hash := PyData.keyHash P (Str.ofString "__spec__"), key := Value.str (Str.ofString "__spec__") 169, val := Value.none }, { hash := PyData.keyHash P (Str.ofString "__annotations__"), key := Value.str (Str.ofString "__annotations__") 170, val := Value.ref 6 }, { hash := PyData.keyHash P (Str.ofString "__builtins__"), key := Value.str (Str.ofString "__builtins__") 171, val := Value.ref 4 }, { hash := PyData.keyHash P (Str.ofString "__file__"), key := Value.str (Str.ofString "__file__") 173, val := Value.str (Str.ofString "/claim/cut.py") 172 }, { hash := PyData.keyHash P (Str.ofString "__cached__"), key := Value.str (Str.ofString "__cached__") 174, val := Value.none }, { hash := PyData.keyHash P (Str.ofString "MintError"), key := Value.str (Str.ofString "MintError") 226, val := Value.ref 39 }, { hash := PyData.keyHash P (Str.ofString "EncodeError"), key := Value.str (Str.ofString "EncodeError") 242, val := Value.ref 52 }, { hash := PyData.keyHash P (Str.ofString "SymbolError"), key := Value.str (Str.ofString "SymbolError") 258, val := Value.ref 64 }, { hash := PyData.keyHash P (Str.ofString "mask"), key := Value.str (Str.ofString "mask") 265, val := Value.ref 73 }, { hash := PyData.keyHash P (Str.ofString "wrap"), key := Value.str (Str.ofString "wrap") 273, val := Value.ref 80 }, { hash := PyData.keyHash P (Str.ofString "fits_signed"), key := Value.str (Str.ofString "fits_signed") 282, val := Value.ref 87 }, { hash := PyData.keyHash P (Str.ofString "fits_either"), key := Value.str (Str.ofString "fits_either") 290, val := Value.ref 94 }, { hash := PyData.keyHash P (Str.ofString "little"), key := Value.str (Str.ofString "little") 301, val := Value.ref 101 }, { hash := PyData.keyHash P (Str.ofString "SymbolRow"), key := Value.str (Str.ofString "SymbolRow") 345, val := Value.ref 125 }, { hash := PyData.keyHash P (Str.ofString "Relocation"), key := Value.str (Str.ofString "Relocation") 391, val := Value.ref 153 }] 19 }) ::
  (nat_lit 12, { cls := Value.none, data := Data.fields #[Value.int 2 0, Value.int 0 0, Value.ref 20, Value.int 13 0, Value.int 0 0, Value.ref 48, Value.int 15 0, Value.int 0 0, Value.ref 60, Value.int 17 0, Value.int 0 0, Value.ref 72, Value.int 19 0, Value.int 0 0, Value.ref 79, Value.int 21 0, Value.int 0 0, Value.ref 86, Value.int 24 0, Value.int 0 0, Value.ref 93, Value.int 26 0, Value.int 0 0, Value.ref 100, Value.int 34 0, Value.int 0 0, Value.ref 107, Value.int 44 0, Value.int 0 0, Value.ref 135] }) ::
  []) ((hd.fin P).take 158)), {}⟩
noncomputable def hd.h5 (P : Params) : Heap := ⟨Array.mk (updO (
  (nat_lit 3, { cls := Value.type "dict", data := Data.dict #[{ hash := PyData.keyHash P (Str.ofString "__name__"), key := Value.str (Str.ofString "__name__") 165, val := Value.str (Str.ofString "octetmint.assembler") 302 }, { hash := PyData.keyHash P (Str.ofString "__doc__"), key := Value.str (Str.ofString "__doc__") 166, val := Value.none }, { hash := PyData.keyHash P (Str.ofString "__package__"), key := Value.str (Str.ofString "__package__") 167, val := Value.none }, { hash := PyData.keyHash P (Str.ofString "__loader__"), key := Value.str (Str.ofString "__loader__") 168, val := Value.builtin "__main__.__loader__#opaque" }, { hash := PyData.keyHash P (Str.ofString "__spec__"), key := Value.str (Str.ofString "__spec__") 169, val := Value.none }, { hash := PyData.keyHash P (Str.ofString "__annotations__"), key := Value.str (Str.ofString "__annotations__") 170, val := Value.ref 6 }, { hash := PyData.keyHash P (Str.ofString "__builtins__"), key := Value.str (Str.ofString "__builtins__") 171, val := Value.ref 4 }, { hash := PyData.keyHash P (Str.ofString "__file__"), key := Value.str (Str.ofString "__file__") 173, val := Value.str (Str.ofString "/claim/cut.py") 172 }, { hash := PyData.keyHash P (Str.ofString "__cached__"), key := Value.str (Str.ofString "__cached__") 174, val := Value.none }, { hash := PyData.keyHash P (Str.ofString "MintError"), key := Value.str (Str.ofString "MintError") 226, val := Value.ref 39 }, { hash := PyData.keyHash P (Str.ofString "EncodeError"), key := Value.str (Str.ofString "EncodeError") 242, val := Value.ref 52 }, { hash := PyData.keyHash P (Str.ofString "SymbolError"), key := Value.str (Str.ofString "SymbolError") 258, val := Value.ref 64 }, { hash := PyData.keyHash P (Str.ofString "mask"), key := Value.str (Str.ofString "mask") 265, val := Value.ref 73 }, { hash := PyData.keyHash P (Str.ofString "wrap"), key := Value.str (Str.ofString "wrap") 273, val := Value.ref 80 }, { hash := PyData.keyHash P (Str.ofString "fits_signed"), key := Value.str (Str.ofString "fits_signed") 282, val := Value.ref 87 }, { hash := PyData.keyHash P (Str.ofString "fits_either"), key := Value.str (Str.ofString "fits_either") 290, val := Value.ref 94 }, { hash := PyData.keyHash P (Str.ofString "little"), key := Value.str (Str.ofString "little") 301, val := Value.ref 101 }, { hash := PyData.keyHash P (Str.ofString "SymbolRow"), key := Value.str (Str.ofString "SymbolRow") 345, val := Value.ref 125 }, { hash := PyData.keyHash P (Str.ofString "Relocation"), key := Value.str (Str.ofString "Relocation") 391, val := Value.ref 153 }, { hash := PyData.keyHash P (Str.ofString "Assembled"), key := Value.str (Str.ofString "Assembled") 441, val := Value.ref 186 }] 20 }) ::
  (nat_lit 12, { cls := Value.none, data := Data.fields #[Value.int 2 0, Value.int 0 0, Value.ref 20, Value.int 13 0, Value.int 0 0, Value.ref 48, Value.int 15 0, Value.int 0 0, Value.ref 60, Value.int 17 0, Value.int 0 0, Value.ref 72, Value.int 19 0, Value.int 0 0, Value.ref 79, Value.int 21 0, Value.int 0 0, Value.ref 86, Value.int 24 0, Value.int 0 0, Value.ref 93, Value.int 26 0, Value.int 0 0, Value.ref 100, Value.int 34 0, Value.int 0 0, Value.ref 107, Value.int 44 0, Value.int 0 0, Value.ref 135, Value.int 56 0, Value.int 0 0, Value.ref 163] }) ::
  []) ((hd.fin P).take 191)), {}⟩
noncomputable def hd.h6 (P : Params) : Heap := ⟨Array.mk (hd.fin P), {}⟩
theorem hd.boot : ∀ w : World, (fencedOpening treeTable hd.prog w 4124).map (fun s => (s.heap, s.gens, s.drawn, s.toks)) = some (boot_heap w.params, Array.mk [], boot_drawn, boot_toks) :=
  boot_open (by kernel_rfl) (by decide) (fun s => by rfl)
theorem hd.run0 (w : World) (os : OsState) : topGo treeTable hd.prog w 11 (some (.ref 6)) 12 ⟨boot_heap w.params, Array.mk [], boot_drawn, boot_toks, os⟩ (topStub hd.prog) = some (⟨hd.h0 w.params, Array.mk [], {}, 187, os⟩, ⟨denote treeTable hd.code, hd.code, { line := 0, col := 0, endLine := 0, endCol := 0 }, [topFrame { line := 0, col := 0, endLine := 0, endCol := 0 }]⟩) := by kernel_rfl
theorem hd.runB (w : World) (os : OsState) : segRun treeTable hd.prog w 11 (some (.ref 6)) 1 9 ⟨hd.h0 w.params, Array.mk [], {}, 187, os⟩ (blockOf hd.body hd.env hd.code { line := 0, col := 0, endLine := 0, endCol := 0 } [topFrame { line := 0, col := 0, endLine := 0, endCol := 0 }]) = some (.next, ⟨hd.h0 w.params, Array.mk [], {}, 187, os⟩, hd.code, { line := 0, col := 0, endLine := 0, endCol := 0 }) := by kernel_rfl
theorem hd.run1 (w : World) (os : OsState) : segRun treeTable hd.prog w 11 (some (.ref 6)) 1 599 ⟨hd.h0 w.params, Array.mk [], {}, 187, os⟩ (piecesOf (hd.body.take 2) hd.env hd.code { line := 0, col := 0, endLine := 0, endCol := 0 } [topFrame { line := 0, col := 0, endLine := 0, endCol := 0 }]) = some (.next, ⟨hd.h1 w.params, Array.mk [], {}, 227, os⟩, hd.code, { line := 2, col := 0, endLine := 12, endCol := 29 }) := by
  (try rw [PySem.W.Fast.te14374325043358763698]); (try rw [PySem.W.Fast.te14364793385576792824])
  kernel_rfl
theorem hd.run2 (w : World) (os : OsState) : segRun treeTable hd.prog w 11 (some (.ref 6)) 1 599 ⟨hd.h1 w.params, Array.mk [], {}, 227, os⟩ (piecesOf ((hd.body.drop 2).take 2) hd.env hd.code { line := 2, col := 0, endLine := 12, endCol := 29 } [topFrame { line := 0, col := 0, endLine := 0, endCol := 0 }]) = some (.next, ⟨hd.h2 w.params, Array.mk [], {}, 259, os⟩, hd.code, { line := 15, col := 0, endLine := 16, endCol := 8 }) := by
  (try rw [PySem.W.Fast.te14374325043358763698]); (try rw [PySem.W.Fast.te14364793385576792824])
  kernel_rfl
theorem hd.run3 (w : World) (os : OsState) : segRun treeTable hd.prog w 11 (some (.ref 6)) 1 599 ⟨hd.h2 w.params, Array.mk [], {}, 259, os⟩ (piecesOf (((hd.body.drop 2).drop 2).take 7) hd.env hd.code { line := 15, col := 0, endLine := 16, endCol := 8 } [topFrame { line := 0, col := 0, endLine := 0, endCol := 0 }]) = some (.next, ⟨hd.h3 w.params, Array.mk [], {}, 346, os⟩, hd.code, { line := 34, col := 0, endLine := 43, endCol := 68 }) := by
  (try rw [PySem.W.Fast.te14374325043358763698]); (try rw [PySem.W.Fast.te14364793385576792824])
  kernel_rfl
theorem hd.run4 (w : World) (os : OsState) : segRun treeTable hd.prog w 11 (some (.ref 6)) 1 599 ⟨hd.h3 w.params, Array.mk [], {}, 346, os⟩ (piecesOf ((((hd.body.drop 2).drop 2).drop 7).take 1) hd.env hd.code { line := 34, col := 0, endLine := 43, endCol := 68 } [topFrame { line := 0, col := 0, endLine := 0, endCol := 0 }]) = some (.next, ⟨hd.h4 w.params, Array.mk [], {}, 392, os⟩, hd.code, { line := 44, col := 0, endLine := 55, endCol := 83 }) := by
  (try rw [PySem.W.Fast.te14374325043358763698]); (try rw [PySem.W.Fast.te14364793385576792824])
  kernel_rfl
theorem hd.run5 (w : World) (os : OsState) : segRun treeTable hd.prog w 11 (some (.ref 6)) 1 599 ⟨hd.h4 w.params, Array.mk [], {}, 392, os⟩ (piecesOf (((((hd.body.drop 2).drop 2).drop 7).drop 1).take 1) hd.env hd.code { line := 44, col := 0, endLine := 55, endCol := 83 } [topFrame { line := 0, col := 0, endLine := 0, endCol := 0 }]) = some (.next, ⟨hd.h5 w.params, Array.mk [], {}, 442, os⟩, hd.code, { line := 56, col := 0, endLine := 72, endCol := 19 }) := by
  (try rw [PySem.W.Fast.te14374325043358763698]); (try rw [PySem.W.Fast.te14364793385576792824])
  kernel_rfl
theorem hd.run6 (w : World) (os : OsState) : segRun treeTable hd.prog w 11 (some (.ref 6)) 1 599 ⟨hd.h5 w.params, Array.mk [], {}, 442, os⟩ (piecesOf ((((((hd.body.drop 2).drop 2).drop 7).drop 1).drop 1)) hd.env hd.code { line := 56, col := 0, endLine := 72, endCol := 19 } [topFrame { line := 0, col := 0, endLine := 0, endCol := 0 }]) = some (.next, ⟨hd.h6 w.params, Array.mk [], {}, 548, os⟩, hd.code, { line := 161, col := 0, endLine := 179, endCol := 84 }) := by
  (try rw [PySem.W.Fast.te14374325043358763698]); (try rw [PySem.W.Fast.te14364793385576792824])
  kernel_rfl
theorem hd.runF (w : World) (os : OsState) : topRun treeTable hd.prog w 11 (some (.ref 6)) 9 ⟨hd.h6 w.params, Array.mk [], {}, 548, os⟩ ⟨doneF .next, hd.code, { line := 161, col := 0, endLine := 179, endCol := 84 }, [topFrame { line := 0, col := 0, endLine := 0, endCol := 0 }]⟩ = some ⟨hd.h6 w.params, Array.mk [], {}, 548, os⟩ := by kernel_rfl
theorem split_at {tb : String → Option Builtin} {p : Program} {w : World} {n₀ N : Nat} {ann : Option Value} {s : Shared} {env : Env} {c : Code} {pos : Pos} {B : List Frame} {r : Option Shared} {l : List Stmt} (k : Nat)
    (h : topRun tb p w n₀ ann N s (restOf (l.take k ++ l.drop k) env c pos B) = r) : topRun tb p w n₀ ann N s (restOf l env c pos B) = r := by rwa [List.take_append_drop] at h
theorem split_end {tb : String → Option Builtin} {p : Program} {w : World} {n₀ N : Nat} {ann : Option Value} {s : Shared} {env : Env} {c : Code} {pos : Pos} {B : List Frame} {r : Option Shared} {l : List Stmt}
    (h : topRun tb p w n₀ ann N s (restOf (l ++ []) env c pos B) = r) : topRun tb p w n₀ ann N s (restOf l env c pos B) = r := by rwa [List.append_nil] at h
theorem hd.run (w : World) (os : OsState) : topRun treeTable hd.prog w 11 (some (.ref 6)) (12 + (9 + (599 + (599 + (599 + (599 + (599 + (599 + 9)))))))) ⟨boot_heap w.params, Array.mk [], boot_drawn, boot_toks, os⟩ (topStub hd.prog) = some ⟨hd.h6 w.params, Array.mk [], {}, 548, os⟩ :=
  go_top (hd.run0 w os) (piece_block (hd.runB w os) (split_at 2 (piece_app (hd.run1 w os) (split_at 2 (piece_app (hd.run2 w os) (split_at 7 (piece_app (hd.run3 w os) (split_at 1 (piece_app (hd.run4 w os) (split_at 1 (piece_app (hd.run5 w os) (split_end (piece_app (hd.run6 w os) (piece_nil (hd.runF w os)))))))))))))))
theorem hd.size (w : World) : ((boot_heap w.params).isNs mainGlobals && (Array.mk [] : Array GenState).size == 0, (boot_heap w.params).objs.size, (boot_heap w.params).nsMap mainGlobals "__annotations__") = (true, 11, some (.ref 6)) := by kernel_rfl
theorem hd.look1 (w : World) (os : OsState) : (staticsOk (importedModules hd.prog.main.body) (boot_heap w.params) (hd.h6 w.params) && namesBound hd.prog (hd.h6 w.params) && gensDone ⟨hd.h6 w.params, Array.mk [], {}, 548, os⟩ && laidKept (boot_heap w.params) (hd.h6 w.params)) = true := by kernel_rfl
theorem hd.look2 (w : World) (os : OsState) : openSeen hd.view_39 [Str.ofString "MintError"] (importedModules hd.prog.main.body) (fun s => xlAt hd.view_39 [] s && recOk (RowW.records (OpenRow.toRowW (OpenLaw.row PySem.Challenge.rw_nn0048_01))) s) true ⟨hd.h6 w.params, Array.mk [], {}, 548, os⟩ = openGood hd.view_39 [Str.ofString "MintError"] := by kernel_rfl
theorem hd.look3 (w : World) (os : OsState) : hd.hook.obs ⟨hd.h6 w.params, Array.mk [], {}, 548, os⟩ = hd.hook.val w := by kernel_rfl
theorem hd.left : LeftO hd.prog hd.view_39 [Str.ofString "MintError"] (fun s => xlAt hd.view_39 [] s && recOk (RowW.records (OpenRow.toRowW (OpenLaw.row PySem.Challenge.rw_nn0048_01))) s) hd.hook.obs hd.hook.val 4124 :=
  LeftO.of_pieces hd.boot hd.size hd.run (by decide) fun w => funext fun os => by rw [hd.look1 w os, hd.look2 w os, hd.look3 w os]
theorem room_lt {dp k j n : Nat} (h : dp + k < n) (e : 1 + j ≤ k) : dp + 1 + j < n := by omega
theorem units_lt {un k j n : Nat} (h : un + 30 * k + 300 < n) (e : j + 1 ≤ k) : un + 3 + 30 * j + 300 < n := by omega
structure Tk where
  n : Nat
theorem fresh_s {M : Model} {A : Around} {α : Type} {c : Sem α} {Q : α → Shared → Prop} {E : Value → Shared → Prop} {h : Heap} {g : Array GenState} {d : Drawn} {t : Nat} {o : OsState} (s : Shared) (hg : g = s.gens) (hd : d = s.drawn) (ho : o = s.os) (k : ∀ tk : Tk, wpAny M A c Q E ⟨h, s.gens, s.drawn, tk.n, s.os⟩) : wpAny M A c Q E ⟨h, g, d, t, o⟩ := by
  subst hg hd ho
  exact k ⟨t⟩
theorem hd.fill : PySem.Challenge.rw_nn0048_01 = PySem.Challenge.rw_nn0048_01 ∧ hd.heap_39 = hd.heap_39 := by
  k_fill
  exact ⟨rfl, rfl⟩
def Hold {G : Prop} (_ : G) : Prop := True
theorem out_of {G : Prop} {p : G} (_ : Hold p) : G := p
local macro_rules | `(tactic| k_all) => `(tactic| assumption)
local macro_rules | `(tactic| k_mem) => `(tactic| first | exact List.Mem.head _ | (refine' List.Mem.tail _ ?_; k_mem) | assumption)
local macro_rules | `(tactic| news_mem) => `(tactic| k_mem)
local macro_rules | `(tactic| units_room) => `(tactic| ktr_units)
local macro_rules | `(tactic| k_room) => `(tactic| ktr_room)
local macro_rules | `(tactic| k_units) => `(tactic| ktr_units)
local macro_rules | `(tactic| walk_at "M steps") => `(tactic| ((try ((show let Q' := _; let E' := _; wpAny _ _ _ Q' E' _); intro Q' E')); repeat' (first | (k_unfold; (try dsimp only)) | ((fail_if_success (with_reducible show wpAny _ _ (pyIter _) _ _ _)); walk1) | (dsimp only; (fail_if_success (with_reducible show wpAny _ _ (pyIter _) _ _ _)); walk1) | (leave1; walk_say "STEP leave1"; try dsimp only) | fail "no step")))
local macro_rules | `(tactic| walk_at "M size") => `(tactic| first | size_fits | ((try simp only [sizeLine_eq, List.size_toArray, List.length_append, List.length_cons, List.length_nil, Array.size_push]); omega))
local macro_rules | `(tactic| walk_at "call builtin:list.append") => `(tactic| (k_here; (with_reducible show wpAny _ _ (call (Value.builtin _) [Value.ref _, _]) _ _ _); k_dflt (refine' append_K ?k1 ?k2 ?k3 ?_ ?z; (case k1 => k_asm); (case k2 => k_asm); (case k3 => k_upd); (case z => walk_at "M size"); k_whole); intro h' F' N'; (try k_sweep)))
local macro_rules | `(tactic| walk_at "M bytes") => `(tactic| (k_here; (with_reducible show wpAny _ _ (call (Value.type "bytes") [Value.ref _]) _ _ _); k_dflt (refine' KBa.make_K ?kbaF ?kbaN rfl ?kbal ?kbai ?kbar ?kban ?_; (case kbaF => k_asm); (case kbaN => k_asm); (case kbal => exact News.isList (by k_asm) (by k_mem)); (case kbai => assumption); (case kbar => assumption); (case kban => assumption)); intro h' t' tk' F' N' _))
local macro_rules | `(tactic| walk_at "execs cons") => `(tactic| (rename Shared => s0'; refine fresh_s s0' rfl rfl rfl ?_; intro tk0'; (with_reducible refine wpAny_execs_cons ?_)))
local macro_rules | `(tactic| walk_at "M here") => `(tactic| exact .mk rfl rfl (by k_asm) (by k_asm) (by k_asm) (by k_asm) (by k_asm) rfl (by ktr_room) (by ktr_units))
local macro_rules | `(tactic| walk_at "M lt") => `(tactic| with_reducible first | assumption | exact And.left (by assumption) | exact And.left (And.right (by assumption)) | exact And.left (And.right (And.right (by assumption))) | exact And.left (And.right (And.right (And.right (by assumption)))) | exact And.left (And.right (And.right (And.right (And.right (by assumption))))) | exact And.left (And.right (And.right (And.right (And.right (And.right (by assumption)))))) | exact And.left (And.right (And.right (And.right (And.right (And.right (And.right (by assumption))))))) | exact And.left (And.right (And.right (And.right (And.right (And.right (And.right (And.right (by assumption)))))))) | exact And.left (And.right (And.right (And.right (And.right (And.right (And.right (And.right (And.right (by assumption))))))))) | exact And.left (And.right (And.right (And.right (And.right (And.right (And.right (And.right (And.right (And.right (by assumption)))))))))) | exact And.left (And.right (And.right (And.right (And.right (And.right (And.right (And.right (And.right (And.right (And.right (by assumption))))))))))))
local macro_rules | `(tactic| k_ne) => `(tactic| (refine neN ?_; (try dsimp only); first | (refine Nat.ne_of_gt ?_; walk_at "M lt") | (refine Nat.ne_of_lt ?_; walk_at "M lt") | omega))
local macro_rules | `(tactic| ktr_room) => `(tactic| exact room_lt (by with_reducible assumption) (by decide))
local macro_rules | `(tactic| ktr_units) => `(tactic| exact units_lt (by with_reducible assumption) (by decide))
local macro_rules | `(tactic| k_in) => `(tactic| exact Frag.In.keeps (by k_asm) (Fr.keep (by k_asm)))
/-! part Base -/
section
theorem atBase : True := by
  w_top off
  exact trivial
/-- where a call stands: the caller's frames, the frozen heap, the ledger, and room left -/
inductive Here (k : Nat) (w : World) (A : Around) (base : Heap) (l : List Env) (h₀ : Heap) (L : Addr) (m : Str → Option Value) (h : Heap) (news : List (Addr × Obj)) : Prop
  | mk {mean : ExcName → Option Value} {mg mb : Str → Option Value} {dp un : Nat} {gd : Option (List Code)} {cn : Str} {cs : Scope} {a : Addr} {ccd : Value} {cl : List (Str × Addr)} {outer : List Env} {A₀ : Around}
      (e : A = ktrTop dp un gd cn cs L a ccd cl outer) (el : l = envX cn cs L a ccd cl :: outer)
      (B : Below A₀ base outer h₀) (F : Fr h₀ L h m) (X : (hd.heap_39 w.params).In h₀) (N : News h₀ L h news)
      (T : Top hd.view_39 (looseW hd.view_39 [Str.ofString "MintError"]) mean mg mb h₀) (hk : cs.kind = .function)
      (hd : dp + k < recursionLimit) (hu : un + 30 * k + 300 < cLine) : Here k w A base l h₀ L m h news
section
variable {prog : Program} {w : World} {A : Around} {E : Value → Shared → Prop} {s : Shared} {a b : Int} {t u : Tok} {Q : Value → Shared → Prop}
theorem mod_gen (hb : 0 < b) (h : ∀ r, 0 ≤ r → r < b → Q (.int r s.toks) { s with toks := s.toks + 1 }) : wpAny (model prog w) A (binaryOp .Mod (.int a t) (.int b u)) Q E s :=
  mod_int' (by omega) (h _ (Int.fmod_nonneg_of_pos a hb) (Int.fmod_lt_of_pos a hb))
theorem pow2_gen {n : Int} (h0 : 0 ≤ n) (h1 : n ≤ 64) (h : ∀ r : Int, 1 ≤ r → r ≤ 18446744073709551616 → Q (.int r s.toks) { s with toks := s.toks + 1 }) : wpAny (model prog w) A (binaryOp .Pow (.int 2 t) (.int n u)) Q E s :=
  pow_int_small h0 (by omega) (by decide) (h _ (Int.pow_pos (by decide)) (by
    have e : n.toNat ≤ 64 := by omega
    calc (2 : Int) ^ n.toNat ≤ 2 ^ 64 := by exact_mod_cast Nat.pow_le_pow_right (by decide) e
      _ = _ := by decide))
end

end
/-! part Draw -/
section
theorem atDraw : True := by
  w_top off
  exact trivial
section
local macro_rules | `(tactic| walk_at "binaryOp Mod int int") => `(tactic| (k_here; (with_reducible refine mod_gen ?kb ?_); (case kb => first | decide | assumption | exact (‹decide (_ = []) = false → _› (by assumption))); intro r' hr1' hr2'))
local macro_rules | `(tactic| walk_at "binaryOp Pow int int") => `(tactic| (k_here; (with_reducible refine pow_int_small ?k1 ?k2 ?k3 ?_); (case k1 => decide); (case k2 => decide); (case k3 => omega)))
set_option maxHeartbeats 8000000 in
theorem draw_ok {w : World} {A : Around} {base h₀ : Heap} {l : List Env} {L : Addr} {m : Str → Option Value} {s : Shared} {Q E : Value → Shared → Prop} {rest : List (Addr × Obj)} {pen cells : Addr} {pn cap : Nat} {vs : List Value} {ns : List Int} {t : Tok} {at' : Int} {many : Int} {tm : Tok}
    (H : Here 2 w A base l h₀ L m s.heap ((pen, listOf #[.ref cells, .int at' t] pn) :: rest))
    (hr : ∀ p ∈ rest, p.1 ≠ pen) (hc : (cells, listOf vs.toArray cap) ∈ rest) (hi : IntsAre vs ns) (hl : ns.length ≤ 50)
    (ha : 0 ≤ at') (hb : at' < 2 ^ 20) (hm : 0 < many)
    (ret : ∀ v t1 t2 h' tk', 0 ≤ v → v < many → Fr h₀ L h' m → News h₀ L h' ((pen, listOf #[.ref cells, .int (at' + 1) t1] pn) :: rest) → Q (.int v t2) { s with heap := h', toks := tk' }) :
    wpAny (model PySem.Challenge.pw_nn0048_01 w) A (call (.ref 225) [.ref pen, .int many tm]) Q E s := out_of (by exact trivial : Hold (by
  obtain ⟨e, el, B, F, X, N, T, hk, hd, hu⟩ := H
  subst e el
  have hne : decide (ns = []) = false → 0 < (ns.length : Int) := by cases ns <;> simp
  refine wpAny_call ?_
  k_dflt ktr_enter
  k_steps
  all_goals exact ret _ _ _ _ _ (by assumption) (by assumption) (by assumption) (cb_drop (by assumption) fun p hp => List.mem_cons_of_mem _ hp)))
end
theorem upd_mem {d : Addr} {o o' : Obj} {l l' : List (Addr × Obj)} (U : Upd d o o' l l') : ∀ p ∈ l', p = (d, o') ∨ (p ∈ l ∧ p.1 ≠ d) := out_of (by exact trivial : Hold (by
  induction U with
  | head h => intro p hp; rcases List.mem_cons.mp hp with rfl | hp; exact .inl rfl; exact .inr ⟨.tail _ hp, h p hp⟩
  | tail h _ ih =>
    intro p hp
    rcases List.mem_cons.mp hp with rfl | hp
    · exact .inr ⟨.head _, h⟩
    · exact (ih p hp).imp_right fun q => ⟨.tail _ q.1, q.2⟩))
theorem draw_u {w : World} {A : Around} {base h₀ : Heap} {l : List Env} {L : Addr} {m : Str → Option Value} {s : Shared} {Q E : Value → Shared → Prop} {news : List (Addr × Obj)} {news' : Tok → List (Addr × Obj)} {pen cells : Addr} {pn cap : Nat} {vs : List Value} {ns : List Int} {t : Tok} {at' : Int} {many : Int} {tm : Tok}
    (H : Here 2 w A base l h₀ L m s.heap news)
    (U : ∀ t1, Upd pen (listOf #[.ref cells, .int at' t] pn) (listOf #[.ref cells, .int (at' + 1) t1] pn) news (news' t1)) (hc : (cells, listOf vs.toArray cap) ∈ news) (hi : IntsAre vs ns) (hl : ns.length ≤ 50)
    (ha : 0 ≤ at') (hb : at' < 2 ^ 20) (hm : 0 < many)
    (ret : ∀ v t1 t2 h' tk', 0 ≤ v → v < many → Fr h₀ L h' m → News h₀ L h' (news' t1) → Q (.int v t2) { s with heap := h', toks := tk' }) :
    wpAny (model PySem.Challenge.pw_nn0048_01 w) A (call (.ref 225) [.ref pen, .int many tm]) Q E s := out_of (by exact trivial : Hold (by
  obtain ⟨pre, post, rfl, -, h1, h2⟩ := (U t).split
  obtain ⟨e, el, B, F, X, N, T, hk, hd, hu⟩ := H
  have hne : cells ≠ pen := by
    intro q
    subst q
    have e1 := (N _ hc).1
    have e2 := (N (cells, _) (List.mem_append_right pre (List.Mem.head post))).1
    rw [e1] at e2
    have e3 := congrArg Obj.data (Option.some.inj e2)
    have e4 : vs = [.ref cells, .int at' t] := by
      have e5 := (Data.seq.inj e3).1
      have := congrArg Array.toList e5; simpa using this
    subst e4
    nomatch hi
  refine draw_ok (cells := cells) (cap := cap) (vs := vs) (pn := pn) (t := t) (at' := at') (rest := pre ++ post) (.mk e el B F X (fun p hp => N p ?_) T hk hd hu) (fun p hp => (List.mem_append.mp hp).elim (h1 p) (h2 p)) ?_ hi hl ha hb hm
    fun v t1 t2 h' tk' a1 a2 F' N' => ret v t1 t2 h' tk' a1 a2 F' fun p hp => N' p ?_
  · rcases List.mem_cons.mp hp with rfl | hp
    · exact List.mem_append_right _ (.head _)
    · exact (List.mem_append.mp hp).elim (fun x => List.mem_append_left _ x) fun x => List.mem_append_right _ (.tail _ x)
  · rcases List.mem_append.mp hc with hc | hc
    · exact List.mem_append_left _ hc
    · rcases List.mem_cons.mp hc with hc | hc
      · exact absurd (congrArg Prod.fst hc) hne
      · exact List.mem_append_right _ hc
  · rcases upd_mem (U t1) p hp with rfl | ⟨q, r⟩
    · exact .head _
    · refine .tail _ ?_
      rcases List.mem_append.mp q with q | q
      · exact List.mem_append_left _ q
      · rcases List.mem_cons.mp q with q | q
        · exact absurd (congrArg Prod.fst q) r
        · exact List.mem_append_right _ q))

end
/-! part Worth -/
section
theorem atWorth : True := by
  w_top off
  exact trivial
local macro_rules | `(tactic| walk_at "pad 0") => `(tactic| skip)
/-- the ledger with the pen brought to the front -/
theorem news_front {h₀ h : Heap} {L : Addr} {p : Addr × Obj} {a b : List (Addr × Obj)} (N : News h₀ L h (a ++ p :: b)) : News h₀ L h (p :: (a ++ b)) := fun q hq => N q (by
  rcases List.mem_cons.mp hq with rfl | hq
  · exact List.mem_append_right _ (.head _)
  · exact (List.mem_append.mp hq).elim (fun x => List.mem_append_left _ x) fun x => List.mem_append_right _ (.tail _ x))
theorem worth_fin {a b c d e v : Int} {n : Nat} (a1 : 1 ≤ a) (a2 : a ≤ 18446744073709551616) (b1 : 1 ≤ b) (b2 : b ≤ 18446744073709551616) (c1 : 1 ≤ c) (c2 : c ≤ 18446744073709551616) (d1 : 1 ≤ d) (d2 : d ≤ 18446744073709551616) (e1 : 1 ≤ e) (e2 : e ≤ 18446744073709551616) (v0 : 0 ≤ v) (v1 : v < 9) :
    -2 ^ 70 < [0, a, -b, c, d, -e].getD n 0 + v - 4 ∧ [0, a, -b, c, d, -e].getD n 0 + v - 4 < 2 ^ 70 := by
  rcases n with _ | _ | _ | _ | _ | _ | n <;> simp <;> omega
section
local macro_rules | `(tactic| walk_at "call ref") => `(tactic| (k_here; (with_reducible show wpAny _ _ (call (Value.ref 225) [Value.ref _, Value.int _ _]) _ _ _); k_dflt (refine' draw_u ?kH ?k9 ?k10 ?k11 ?k12 ?k13 ?k14 ?k15 ?_; (case kH => walk_at "M here"); (case k9 => intro t1; k_upd); (case k10 => k_mem); (case k11 => k_asm); (case k12 => omega); (case k13 => omega); (case k14 => omega); (case k15 => omega); k_whole); intro v' t1' t2' h' tk' hv1' hv2' F' N'))
local macro_rules | `(tactic| walk_at "binaryOp Pow int int") => `(tactic| (k_here; (with_reducible refine pow2_gen ?k1 ?k2 ?_); (case k1 => omega); (case k2 => omega); intro r' hr1' hr2'))
set_option maxHeartbeats 8000000 in
theorem worth_ok {w : World} {A : Around} {base h₀ : Heap} {l : List Env} {L : Addr} {m : Str → Option Value} {s : Shared} {Q E : Value → Shared → Prop} {rest : List (Addr × Obj)} {pen cells : Addr} {pn cap : Nat} {vs : List Value} {ns : List Int} {t : Tok} {at' : Int} {width : Int} {tm : Tok}
    (H : Here 4 w A base l h₀ L m s.heap ((pen, listOf #[.ref cells, .int at' t] pn) :: rest))
    (hr : ∀ p ∈ rest, p.1 ≠ pen) (hc : (cells, listOf vs.toArray cap) ∈ rest) (hi : IntsAre vs ns) (hl : ns.length ≤ 50)
    (ha : 0 ≤ at') (hb : at' < 2 ^ 20 - 1) (hw1 : 0 < width) (hw2 : width ≤ 8)
    (ret : ∀ (v : Int) t1 t2 h' tk', -2 ^ 70 < v → v < 2 ^ 70 → Fr h₀ L h' m → News h₀ L h' ((pen, listOf #[.ref cells, .int (at' + 1 + 1) t1] pn) :: rest) → Q (.int v t2) { s with heap := h', toks := tk' }) :
    wpAny (model PySem.Challenge.pw_nn0048_01 w) A (call (.ref 232) [.ref pen, .int width tm]) Q E s := out_of (by exact trivial : Hold (by
  obtain ⟨e, el, B, F, X, N, T, hk, hd, hu⟩ := H
  subst e el
  refine wpAny_call ?_
  k_dflt ktr_enter
  k_steps
  refine ret _ _ _ _ _ (worth_fin ?a1 ?a2 ?b1 ?b2 ?c1 ?c2 ?d1 ?d2 ?e1 ?e2 ?v0 ?v1).1 (worth_fin ?a1 ?a2 ?b1 ?b2 ?c1 ?c2 ?d1 ?d2 ?e1 ?e2 ?v0 ?v1).2 (by assumption) (cb_drop (by assumption) fun p hp => List.mem_cons_of_mem _ hp)
  all_goals assumption))
end

end
/-! part Loops -/
section
theorem atLoops : True := by
  w_top off
  exact trivial
/-- the addresses of a and b are apart -/
def Off (a b : List (Addr × Obj)) : Prop := ∀ p ∈ a, ∀ q ∈ b, p.1 ≠ q.1
def TurnEnd (h₀ : Heap) (L : Addr) (own : List (Addr × Obj)) (J : (Str → Option Value) → List (Addr × Obj) → Prop) (s₁ s₂ : Shared) : Prop :=
  ∃ h' tk m' news', s₂ = { s₁ with heap := h', toks := tk } ∧ Fr h₀ L h' m' ∧ News h₀ L h' (news' ++ own) ∧ Off news' own ∧ J m' news'
def TurnPost (h₀ : Heap) (L : Addr) (own : List (Addr × Obj)) (J : (Str → Option Value) → List (Addr × Obj) → Prop) (s₁ : Shared) (Q : Flow → Shared → Prop) (f : Flow) (s₂ : Shared) : Prop :=
  match f with
  | .ret v => Q (.ret v) s₂
  | .brk => Q .next s₂
  | _ => TurnEnd h₀ L own J s₁ s₂
theorem sub_own {wr : List Addr} {own : List (Addr × Obj)} : ∀ p ∈ own.filter (fun p => decide (p.1 ∈ wr)), p.1 ∈ wr := fun p hp => of_decide_eq_true (List.mem_filter.mp hp).2
section
variable {prog : Program} {w : World} {A : Around} {E : Value → Shared → Prop} {s s₂ : Shared} {env : Env} {h₀ : Heap} {x : Str} {body : List Stmt} {Q : Flow → Shared → Prop} {m₀ : Str → Option Value} {news : List (Addr × Obj)}

theorem loop_own {I : Addr} {fp wr : List Addr} {n : Nat} {P : Nat → Value → Prop} {St : Nat → Heap → Prop} (W : Walks prog w A I fp wr n P St) (fix : List (Addr × Obj))
    (J : Nat → (Str → Option Value) → List (Addr × Obj) → Prop) (hlive : ∀ i h, St i h → ∀ b ∈ wr, ∃ o, h.get? b = some o)
    (hLf : env.locals ∉ fp) (hwr : ∀ b ∈ wr, h₀.get? b = none) (hfix : ∀ b ∈ fp, b ∈ wr ∨ ∃ o, (b, o) ∈ fix) (hJ : ∀ i m n, J i m n → ∀ p ∈ fix, p ∈ n)
    (hnw : ∀ p ∈ news, p.1 ∉ wr) (hst : St 0 s₂.heap) (F : Fr h₀ env.locals s₂.heap m₀) (N : News h₀ env.locals s₂.heap news) (h0 : J 0 m₀ news)
    (turn : ∀ i v m₁ news₁ h tk own, i < n → P i v → J i m₁ news₁ → Off news₁ own → Fr h₀ env.locals h (fun y => if y = x then some v else m₁ y) → News h₀ env.locals h (news₁ ++ own) →
      wpAny (model prog w) A (execs body env) (TurnPost h₀ env.locals own (J (i + 1)) { s₂ with heap := h, toks := tk } Q) E { s₂ with heap := h, toks := tk })
    (done : ∀ m₁ news₁ h tk, J n m₁ news₁ → Fr h₀ env.locals h m₁ → News h₀ env.locals h news₁ → Q .next { s₂ with heap := h, toks := tk }) :
    LoopAtV prog w A h₀ env x body Q E (.ref I) s₂ := out_of (by exact trivial : Hold (by
  refine ⟨I, fp, wr, n, P, St, m₀, news, J, rfl, W, hLf, hwr, hnw, hst, F, N, h0, ?_, fun h' tk m' news' F' N' _ hj => done m' news' h' tk hj F' N'⟩
  rintro i v m₁ news₁ s₁ own ⟨hh, tk, rfl⟩ hi hP hJ₁ hoff hsub hget hall hst₁ F₁ N₁
  have o1 : Off news₁ (own.filter fun p => decide (p.1 ∈ wr)) := fun p hp q hq e => hoff p hp (e ▸ sub_own q hq)
  have N₂ : News h₀ env.locals hh (news₁ ++ own.filter fun p => decide (p.1 ∈ wr)) := fun p hp => N₁ p ((List.mem_append.mp hp).elim (fun h => List.mem_append_right _ h) fun h => List.mem_append_left _ (List.mem_filter.mp h).1)
  refine wpAny_mono (turn i v m₁ news₁ hh tk _ hi hP hJ₁ o1 F₁ N₂) (fun f s₃ p => ?_) fun _ _ e => e
  have fin : TurnEnd h₀ env.locals (own.filter fun p => decide (p.1 ∈ wr)) (J (i + 1)) { s₂ with heap := hh, toks := tk } s₃ → LoopStepU h₀ env.locals wr own (J (i + 1)) { s₂ with heap := hh, toks := tk } .next s₃ := by
    rintro ⟨h', tk', m', news', rfl, F', N', off', hj⟩
    refine LoopStepU.intro (news₂ := news') F' (fun p hp => ?_) (fun p hp hb => ?_) hj
    · rcases List.mem_append.mp hp with hp | hp
      · rcases hfix p.1 (hsub p hp) with hw | ⟨o, ho⟩
        · exact N' p (List.mem_append_right _ (List.mem_filter.mpr ⟨hp, decide_eq_true hw⟩))
        · have e1 := (N₁ (p.1, o) (List.mem_append_right _ (hJ _ _ _ hJ₁ _ ho))).1
          have e2 := hget p hp
          rw [e1] at e2
          have e3 : p = (p.1, o) := Prod.ext rfl (Option.some.inj e2).symm
          rw [e3]
          exact N' _ (List.mem_append_left _ (hJ _ _ _ hj _ ho))
      · exact N' p (List.mem_append_left _ hp)
    · obtain ⟨o, ho⟩ := hlive _ _ hst₁ _ hb
      exact off' p hp (p.1, o) (List.mem_filter.mpr ⟨hall _ (W.sub _ hb) (hwr _ hb) o ho, decide_eq_true hb⟩) rfl
  cases f with
  | ret v => exact .ret p
  | brk => exact .brk p
  | next => exact .next (fin p)
  | cont => exact .cont (fin p)))

theorem forList {l : Addr} {items : Array Value} {c : Nat} {L : Addr} (eL : env.locals = L) (J : Nat → (Str → Option Value) → List (Addr × Obj) → Prop) (hh : A.handled = none) (F : Fr h₀ L s.heap m₀) (N : News h₀ L s.heap news) (hl : (l, W.listOf items c) ∈ news)
    (hJ : ∀ i m n, J i m n → (l, W.listOf items c) ∈ n) (h0 : J 0 m₀ news)
    (turn : ∀ i v m₁ news₁ h tk own, items[i]? = some v → J i m₁ news₁ → Off news₁ own → Fr h₀ L h (fun y => if y = x then some v else m₁ y) → News h₀ L h (news₁ ++ own) →
      wpAny (model prog w) A (execs body env) (TurnPost h₀ L own (J (i + 1)) { s with heap := h, toks := tk } Q) E { s with heap := h, toks := tk })
    (done : ∀ m₁ news₁ h tk, J items.size m₁ news₁ → Fr h₀ L h m₁ → News h₀ L h news₁ → Q .next { s with heap := h, toks := tk }) :
    wpAny (model prog w) A (pyIter (.ref l)) (fun it s₂ => LoopAtV prog w A h₀ env x body Q E it s₂) E s := out_of (by exact trivial : Hold (by
  subst eL
  have hg := N _ hl
  have hls : s.heap.IsList l items := ⟨_, hg.1, rfl, c, rfl⟩
  have hne : l ≠ s.heap.objs.size := Nat.ne_of_lt (Heap.lt_size hg.1)
  refine wpAny_pyIter_list hls ?_
  refine loop_own (s₂ := { s with heap := s.heap.push { cls := .type "list_iterator", data := .fields #[.ref l, .int 0 0] } }) (Walks.list hh s.heap.objs.size l hne items) [(l, W.listOf items c)] J (fun i h st b hb => ?_) (fun hm => ?_) (fun b hb => ?_) (fun b hb => ?_) (fun i m n hj p hp => ?_) (fun p hp hb => ?_) ⟨⟨_, Heap.get?_push_size _ rfl, rfl, rfl⟩, hls.at fun o e => Heap.get?_push_of_some _ e⟩
    (F.push _) (fun p hp => ⟨Heap.get?_push_of_some _ (N p hp).1, (N p hp).2⟩) h0 (fun i v m₁ news₁ h tk own _ hP hj => turn i v m₁ news₁ h tk own hP hj) done
  · rw [List.mem_singleton.mp hb]; obtain ⟨⟨o, ho, _⟩, _⟩ := st; exact ⟨o, ho⟩
  · rcases List.mem_cons.mp hm with e | hm
    · exact absurd F.ns.lt (e ▸ Nat.lt_irrefl _)
    · exact hg.2.1 (List.mem_singleton.mp hm).symm
  · rw [List.mem_singleton.mp hb]; exact next_is_new F
  · rcases List.mem_cons.mp hb with e | hb
    · exact .inl (by rw [e]; exact .head _)
    · exact .inr ⟨_, by rw [List.mem_singleton.mp hb]; exact .head _⟩
  · rw [List.mem_singleton.mp hp]; exact hJ _ _ _ hj
  · exact absurd (Heap.lt_size (N p hp).1) ((List.mem_singleton.mp hb) ▸ Nat.lt_irrefl _)))

theorem forRange {r : Addr} {a b c : Int} {t u v : Tok} {n : Nat} {L : Addr} (eL : env.locals = L) (J : Nat → (Str → Option Value) → List (Addr × Obj) → Prop) (hh : A.handled = none) (F : Fr h₀ L s.heap m₀) (N : News h₀ L s.heap news)
    (hr : IsRange s.heap r a b c t u v) (hsmall : Builtin.Range.small a b c = true) (hn : Builtin.Range.rangeSize a b c = n) (h0 : J 0 m₀ news)
    (turn : ∀ (i : Nat) t m₁ news₁ h tk own, i < n → J i m₁ news₁ → Off news₁ own → Fr h₀ L h (fun y => if y = x then some (.int (a + i * c) t) else m₁ y) → News h₀ L h (news₁ ++ own) →
      wpAny (model prog w) A (execs body env) (TurnPost h₀ L own (J (i + 1)) { s with heap := h, toks := tk } Q) E { s with heap := h, toks := tk })
    (done : ∀ m₁ news₁ h tk, J n m₁ news₁ → Fr h₀ L h m₁ → News h₀ L h news₁ → Q .next { s with heap := h, toks := tk }) :
    wpAny (model prog w) A (pyIter (.ref r)) (fun it s₂ => LoopAtV prog w A h₀ env x body Q E it s₂) E s := out_of (by exact trivial : Hold (by
  subst eL
  refine wpAny_pyIter_range hr hsmall ?_
  have hst : IsRangeIter (s.heap.push { cls := .type "range_iterator", data := .fields #[rawInt a, rawInt (Builtin.Range.rangeSize a b c), rawInt c] }) s.heap.objs.size (a + (0 : Nat) * c) ((n : Int) - (0 : Nat)) c := by
    have := Heap.get?_push_size s.heap (o := { cls := .type "range_iterator", data := .fields #[rawInt a, rawInt (Builtin.Range.rangeSize a b c), rawInt c] }) rfl
    rw [hn] at this ⊢
    simpa [IsRangeIter, rawInt] using this
  refine loop_own (s₂ := { s with heap := s.heap.push { cls := .type "range_iterator", data := .fields #[rawInt a, rawInt (Builtin.Range.rangeSize a b c), rawInt c] } }) (Walks.range hh s.heap.objs.size a c n) [] J (fun i h st b hb => ?_) (fun hm => ?_) (fun b hb => ?_) (fun b hb => .inl hb) (fun i m n hj p hp => nomatch hp) (fun p hp hb => ?_) hst
    (F.push _) (fun p hp => ⟨Heap.get?_push_of_some _ (N p hp).1, (N p hp).2⟩) h0 (fun i v m₁ news₁ h tk own hi hP hj ho F' N' => ?_) done
  · rw [List.mem_singleton.mp hb]; exact ⟨_, st⟩
  · exact absurd F.ns.lt ((List.mem_singleton.mp hm) ▸ Nat.lt_irrefl _)
  · rw [List.mem_singleton.mp hb]; exact next_is_new F
  · exact absurd (Heap.lt_size (N p hp).1) ((List.mem_singleton.mp hb) ▸ Nat.lt_irrefl _)
  · obtain ⟨t', rfl⟩ := hP
    exact turn i t' m₁ news₁ h tk own hi hj ho F' N'))

theorem forDict {d : Addr} {o : Obj} {kvs : List (Str × Value)} {L : Addr} (eL : env.locals = L) (J : Nat → (Str → Option Value) → List (Addr × Obj) → Prop) (hh : A.handled = none) (F : Fr h₀ L s.heap m₀) (N : News h₀ L s.heap news) (hl : (d, o) ∈ news) (hd : o.IsDictOf (PySem.strKind prog w) kvs) (lo : (d == sysModules) = false)
    (hJ : ∀ i m n, J i m n → (d, o) ∈ n) (h0 : J 0 m₀ news)
    (turn : ∀ i k v t m₁ news₁ h tk own, kvs[i]? = some (k, v) → J i m₁ news₁ → Off news₁ own → Fr h₀ L h (fun y => if y = x then some (.str k t) else m₁ y) → News h₀ L h (news₁ ++ own) →
      wpAny (model prog w) A (execs body env) (TurnPost h₀ L own (J (i + 1)) { s with heap := h, toks := tk } Q) E { s with heap := h, toks := tk })
    (done : ∀ m₁ news₁ h tk, J kvs.length m₁ news₁ → Fr h₀ L h m₁ → News h₀ L h news₁ → Q .next { s with heap := h, toks := tk }) :
    wpAny (model prog w) A (pyIter (.ref d)) (fun it s₂ => LoopAtV prog w A h₀ env x body Q E it s₂) E s := out_of (by exact trivial : Hold (by
  subst eL
  have hg := N _ hl
  obtain ⟨ep, ha⟩ := KdkAt.of hd
  have hD := ha.dictAt hg.1
  have hne : d ≠ s.heap.objs.size := Nat.ne_of_lt (Heap.lt_size hg.1)
  refine wpAny_pyIter_dict lo hD ?_
  refine loop_own (s₂ := { s with heap := s.heap.push { cls := .type "dict_keyiterator", data := .fields #[.ref d, .int 0 0, .int kvs.length 0, .int ep 0] } }) (Walks.dictKeys (knd := PySem.strKind prog w) hh s.heap.objs.size d hne kvs ep) [(d, o)] J (fun i h st b hb => ?_) (fun hm => ?_) (fun b hb => ?_) (fun b hb => ?_) (fun i m n hj p hp => ?_) (fun p hp hb => ?_) ⟨⟨_, Heap.get?_push_size _ rfl, rfl, rfl⟩, hD.at' fun o e => Heap.get?_push_of_some _ e⟩
    (F.push _) (fun p hp => ⟨Heap.get?_push_of_some _ (N p hp).1, (N p hp).2⟩) h0 (fun i v m₁ news₁ h tk own _ hP hj hoff F' N' => ?_) done
  · rw [List.mem_singleton.mp hb]; obtain ⟨⟨o, ho, _⟩, _⟩ := st; exact ⟨o, ho⟩
  · rcases List.mem_cons.mp hm with e | hm
    · exact absurd F.ns.lt (e ▸ Nat.lt_irrefl _)
    · exact hg.2.1 (List.mem_singleton.mp hm).symm
  · rw [List.mem_singleton.mp hb]; exact next_is_new F
  · rcases List.mem_cons.mp hb with e | hb
    · exact .inl (by rw [e]; exact .head _)
    · exact .inr ⟨_, by rw [List.mem_singleton.mp hb]; exact .head _⟩
  · rw [List.mem_singleton.mp hp]; exact hJ _ _ _ hj
  · exact absurd (Heap.lt_size (N p hp).1) ((List.mem_singleton.mp hb) ▸ Nat.lt_irrefl _)
  · obtain ⟨k, x', hx, hk⟩ := hP
    obtain ⟨t, rfl⟩ := PySem.Value.isStrOf_shape hk
    exact turn i k x' t m₁ news₁ h tk own hx hj hoff F' N'))
end

end
/-! part Comps -/
section
theorem atComps : True := by
  w_top off
  exact trivial
def CompEnd (h₀ : Heap) (L : Addr) (m : Str → Option Value) (own : List (Addr × Obj)) (J : Value → List (Addr × Obj) → Prop) (s₁ : Shared) (y : Value) (s₂ : Shared) : Prop :=
  ∃ h' tk news', s₂ = { s₁ with heap := h', toks := tk } ∧ Fr h₀ L h' m ∧ News h₀ L h' (news' ++ own) ∧ Off news' own ∧ J y news'
/-- what the block's own names hold, as long as its own objects stand -/
def NsOwn (own : List (Addr × Obj)) (C : Addr) (mc : Str → Option Value) : Prop := ∀ h' : Heap, (∀ p ∈ own, h'.get? p.1 = some p.2) → h'.Ns C mc
section
variable {prog : Program} {w : World} {A : Around} {E : Value → Shared → Prop} {env : Env} {h₀ : Heap} {L : Addr} {m : Str → Option Value} {news : List (Addr × Obj)}

theorem comp_loop_own {R : Result → Shared → Prop} {s : Shared} {elt iter : Expr} {x : Str} {px : Pos} {scope : Scope} {pos : Pos} {I D : Addr} {fp wr : List Addr} {n : Nat} {P : Nat → Value → Prop} {St : Nat → Heap → Prop} {cenv : Env} {mc : Str → Option Value}
    (W : Walks prog w A I fp wr n P St) (hsz : n ≤ sizeLine) (fix : List (Addr × Obj)) (J : Nat → List Value → List (Addr × Obj) → Prop) (hlive : ∀ i h, St i h → ∀ b ∈ wr, ∃ o, h.get? b = some o)
    (hx : cenv.kindOf x = some .local) (hp : (cenv.scope.kind == .class || (cenv.scope.kind == .module && cenv.locals != cenv.globals)) = false)
    (hDC : D ≠ cenv.locals) (hDf : D ∉ fp) (hCf : cenv.locals ∉ fp) (hLf : L ∉ fp) (hCL : cenv.locals ≠ L) (hDL : D ≠ L) (hC0 : h₀.get? cenv.locals = none) (hD0 : h₀.get? D = none)
    (hwr : ∀ b ∈ wr, h₀.get? b = none) (hfix : ∀ b ∈ fp, b ∈ wr ∨ ∃ o, (b, o) ∈ fix) (hJ : ∀ i ys n, J i ys n → ∀ p ∈ fix, p ∈ n)
    (hnw : ∀ p ∈ news, p.1 ∉ wr ∧ p.1 ≠ cenv.locals ∧ p.1 ≠ D)
    (hst : St 0 s.heap) (hacc : s.heap.PlainList D #[]) (hns : s.heap.Ns cenv.locals mc) (F : Fr h₀ L s.heap m) (N : News h₀ L s.heap news) (h0 : J 0 [] news)
    (turn : ∀ i v ys news₁ h tk own mc' E', i < n → P i v → J i ys news₁ → Off news₁ own → NsOwn own cenv.locals mc' → mc' x = some v → Fr h₀ L h m → News h₀ L h (news₁ ++ own) →
      wpAny (model prog w) A (eval elt cenv) (CompEnd h₀ L m own (fun y => J (i + 1) (ys ++ [y])) { s with heap := h, toks := tk }) E' { s with heap := h, toks := tk })
    (hR : ∀ h' tk mc' ys news₁ c, J n ys news₁ → ys.length = n → h'.Ns cenv.locals mc' → Fr h₀ L h' m → News h₀ L h' ((D, PySem.W.listOf ys.toArray c) :: news₁) → (∀ p ∈ news₁, p.1 ≠ D ∧ p.1 ≠ cenv.locals) → R (.ok .next) { s with heap := h', toks := tk }) :
    codeAny (model prog w) A (.compLoop (.ListComp elt [⟨.Name x px, iter, [], 0⟩] scope pos) 0 (.ref I) (.ref D) cenv) R s := out_of (by exact trivial : Hold (by
  have hCw : cenv.locals ∉ wr := fun h => hCf (W.sub _ h)
  have hDw : D ∉ wr := fun h => hDf (W.sub _ h)
  have hLw : L ∉ wr := fun h => hLf (W.sub _ h)
  refine codeAny_compLoop_tests
    (fun k s' => ∃ h' tk mc' ys news' i, s' = { s with heap := h', toks := tk } ∧ St i h' ∧ h'.PlainList D ys.toArray ∧ h'.Ns cenv.locals mc' ∧ Fr h₀ L h' m ∧ News h₀ L h' news' ∧ (∀ p ∈ news', p.1 ∉ wr ∧ p.1 ≠ cenv.locals ∧ p.1 ≠ D) ∧
      J i ys news' ∧ ys.length = i ∧ i ≤ n ∧ k = n + 1 - i) ?_ (n + 1)
    ⟨s.heap, s.toks, mc, [], news, 0, rfl, hst, hacc, hns, F, N, hnw, h0, rfl, Nat.zero_le _, rfl⟩
  rintro k s' ⟨H, tk, mc', ys, news', i, rfl, hst', hacc', hns', F', N', hoff, hj, hlen, hi, rfl⟩
  have base : ∀ b o, h₀.get? b = some o → b ∉ wr ∧ b ≠ cenv.locals ∧ b ≠ D := fun b o e => ⟨fun hb => (by rw [hwr b hb] at e; cases e), fun q => (by rw [q, hC0] at e; cases e), fun q => (by rw [q, hD0] at e; cases e)⟩
  by_cases hlt : i < n
  · refine W.item i _ _ _ hlt hst' fun v h₁ tk₁ hPv hst₁ hk₁ => ?_
    refine wpAny_assign_Name (wpAny_storeName_local hx (hns'.at' fun o e => hk₁ _ o hCw e) (fun h₂ hn₂ hs₂ => ?_) hp)
    have up₂ : ∀ b o, b ≠ cenv.locals → b ∉ wr → H.get? b = some o → h₂.get? b = some o := fun b o hbC hbf e => hs₂.extBut b o hbC (hk₁ b o hbf e)
    have hst₂ : St (i + 1) h₂ := W.frame _ _ _ hst₁ fun b hb o e => hs₂.extBut b o (fun h => hCf (h ▸ hb)) e
    have F₂ : Fr h₀ L h₂ m := ⟨F'.ns.at' fun o e => up₂ _ o (Ne.symm hCL) hLw e, fun b o e => up₂ b o (base b o e).2.1 (base b o e).1 (F'.keep b o e), F'.above⟩
    have N₂ : News h₀ L h₂ news' := fun p hp => ⟨up₂ _ _ (hoff p hp).2.1 (hoff p hp).1 (N' p hp).1, (N' p hp).2⟩
    obtain ⟨nD, hD₂⟩ := hacc'.at fun o e => up₂ D o hDC hDw e
    obtain ⟨oC, esC, epC, hoC, hdC, hkC, hfC⟩ := id hn₂
    let own : List (Addr × Obj) := (cenv.locals, oC) :: (D, PySem.W.listOf ys.toArray nD) :: ownOf h₀ wr h₂
    have Nown : News h₀ L h₂ own := fun p hp => by
      rcases List.mem_cons.mp hp with rfl | hp
      · exact ⟨hoC, hCL, hC0⟩
      · rcases List.mem_cons.mp hp with rfl | hp
        · exact ⟨hD₂, hDL, hD0⟩
        · exact news_ownOf hLw p hp
    have offO : Off news' own := fun p hp q hq e => by
      rcases List.mem_cons.mp hq with rfl | hq
      · exact (hoff p hp).2.1 e
      · rcases List.mem_cons.mp hq with rfl | hq
        · exact (hoff p hp).2.2 e
        · exact (hoff p hp).1 (e ▸ ownOf_sub q hq)
    have nsO : NsOwn own cenv.locals (fun y => if y = x then some v else mc' y) := fun h' hh => ⟨oC, esC, epC, hh _ (.head _), hdC, hkC, hfC⟩
    refine wpAny_pure ?_
    simp only [if_true]
    refine wpAny_mono (turn i v ys news' h₂ _ own _ _ hlt hPv hj offO nsO (by simp) F₂ (fun p hp => (List.mem_append.mp hp).elim (N₂ p) (Nown p))) (fun y s₄ h₄ => ?_) fun _ _ e => e
    obtain ⟨h₃, tk₃, news₃, rfl, F₃, N₃, off₃, hj₃⟩ := h₄
    have hD₃ : h₃.PlainList D ys.toArray := ⟨nD, (N₃ (D, _) (List.mem_append_right _ (.tail _ (.head _)))).1⟩
    have hst₃ : St (i + 1) h₃ := W.frame _ _ _ hst₂ fun b hb o e => by
      cases hn : h₀.get? b with
      | some o₀ =>
        have : o₀ = o := by have := F₂.keep b o₀ hn; rw [e] at this; exact (Option.some.inj this).symm
        exact this ▸ F₃.keep b o₀ hn
      | none =>
        rcases hfix b hb with hw | ⟨o', ho'⟩
        · exact (N₃ (b, o) (List.mem_append_right _ (.tail _ (.tail _ (mem_ownOf hw hn e))))).1
        · have e1 := (N₂ _ (hJ _ _ _ hj _ ho')).1
          rw [e] at e1
          cases e1
          exact (N₃ _ (List.mem_append_left _ (hJ _ _ _ hj₃ _ ho'))).1
    have hns₃ : h₃.Ns cenv.locals (fun y => if y = x then some v else mc' y) := nsO h₃ fun p hp => (N₃ p (List.mem_append_right _ hp)).1
    refine wpAny_list_append_plain (hsz := by simp; omega) hD₃ fun h₅ hl₅ hs₅ => ?_
    refine ⟨n + 1 - (i + 1), by omega, h₅, tk₃, _, ys ++ [y], news₃, i + 1, rfl, W.frame _ _ h₅ hst₃ fun b hb o e => hs₅.extBut b o (fun h => hDf (h ▸ hb)) e, by simpa using hl₅, hns₃.sameBut hs₅ (Ne.symm hDC),
      ⟨F₃.ns.sameBut hs₅ (Ne.symm hDL), fun b o e => hs₅.extBut b o (base b o e).2.2 (F₃.keep b o e), F₃.above⟩, fun p hp => ?_, fun p hp => ?_, hj₃, by simp [hlen], hlt, rfl⟩
    · have hpD : p.1 ≠ D := fun e => off₃ p hp (D, PySem.W.listOf ys.toArray nD) (.tail _ (.head _)) e
      exact ⟨hs₅.extBut _ _ hpD (N₃ p (List.mem_append_left _ hp)).1, (N₃ p (List.mem_append_left _ hp)).2⟩
    · refine ⟨fun hb => ?_, fun e => off₃ p hp (cenv.locals, oC) (.head _) e, fun e => off₃ p hp (D, PySem.W.listOf ys.toArray nD) (.tail _ (.head _)) e⟩
      obtain ⟨o, ho⟩ := hlive _ _ hst₂ _ hb
      exact off₃ p hp (p.1, o) (.tail _ (.tail _ (mem_ownOf hb (hwr _ hb) ho))) rfl
  · have hin : i = n := by omega
    subst hin
    refine W.done _ _ _ hst' fun h₁ tk₁ hk₁ => ?_
    obtain ⟨nD, hD₁⟩ := hacc'.at fun o e => hk₁ D o hDw e
    refine hR h₁ tk₁ mc' ys news' nD hj hlen (hns'.at' fun o e => hk₁ _ o hCw e) ⟨F'.ns.at' fun o e => hk₁ _ o hLw e, fun b o e => hk₁ b o (base b o e).1 (F'.keep b o e), F'.above⟩ (fun p hp => ?_) fun p hp => ⟨(hoff p hp).2.2, (hoff p hp).2.1⟩
    rcases List.mem_cons.mp hp with rfl | hp
    · exact ⟨hD₁, hDL, hD0⟩
    · exact ⟨hk₁ _ _ (hoff p hp).1 (N' p hp).1, (N' p hp).2⟩))

theorem comp_block_own {elt iter : Expr} {x : Str} {px : Pos} {scope : Scope} {cl : List (Str × Addr)} {pos : Pos} {s₂ : Shared} {I : Addr} {fp wr : List Addr} {n : Nat} {P : Nat → Value → Prop}
    {St : Nat → Heap → Prop} (W : Walks prog w A I fp wr n P St) (hsz : n ≤ sizeLine) (fix : List (Addr × Obj)) (J : Nat → List Value → List (Addr × Obj) → Prop) {RR : Value → Addr → Result → Shared → Prop}
    (hlive : ∀ i h, St i h → ∀ b ∈ wr, ∃ o, h.get? b = some o)
    (hcell : ∀ y ∈ scope.names, y.2 ≠ .cell) (hkind : scope.kind = .function) (hx : scope.names.lookup x = some .local) (hst : St 0 s₂.heap) (hfp : ∀ b ∈ fp, b < s₂.heap.objs.size)
    (hLf : L ∉ fp) (hwr : ∀ b ∈ wr, h₀.get? b = none) (hfix : ∀ b ∈ fp, b ∈ wr ∨ ∃ o, (b, o) ∈ fix) (hJ : ∀ i ys n, J i ys n → ∀ p ∈ fix, p ∈ n)
    (hnw : ∀ p ∈ news, p.1 ∉ wr) (F : Fr h₀ L s₂.heap m) (N : News h₀ L s₂.heap news) (h0 : J 0 [] news)
    (turn : ∀ i v ys news₁ h tk own C mc E', i < n → P i v → J i ys news₁ → Off news₁ own → NsOwn own C mc → mc x = some v → Fr h₀ L h m → News h₀ L h (news₁ ++ own) →
      wpAny (model prog w) A (eval elt (compEnvC scope cl C env)) (CompEnd h₀ L m own (fun y => J (i + 1) (ys ++ [y])) { s₂ with heap := h, toks := tk }) E' { s₂ with heap := h, toks := tk })
    (hRR : ∀ D C h' tk mc ys news₁ c, J n ys news₁ → ys.length = n → h'.Ns C mc → C ≠ L → D ≠ C → h₀.get? C = none → Fr h₀ L h' m → News h₀ L h' ((D, PySem.W.listOf ys.toArray c) :: news₁) → (∀ p ∈ news₁, p.1 ≠ D ∧ p.1 ≠ C) →
      RR (.ref D) C (.ok .next) { s₂ with heap := h', toks := tk }) :
    wpAny (model prog w) A (newList []) (fun acc s₃ => wpAny (model prog w) A (newFunctionEnv scope env.globals cl [] env.qual none .none (some env)) (fun cenv s₄ =>
      codeAny (model prog w) A (.compStart (.ListComp elt [⟨.Name x px, iter, [], 0⟩] scope pos) 0 (.ref I) acc { cenv with scope := relabel scope env }) (RR acc cenv.locals) s₄) E s₃) E s₂ := out_of (by exact trivial : Hold (by
  refine wpAny_newObj_type (wpAny_newFunctionEnv hcell (by intro y hy; simp at hy) (fun h₁ hns₁ hsb₁ => ?_) hkind)
  dsimp only at hns₁ hsb₁ ⊢
  generalize hH2 : s₂.heap.push { cls := .type "list", dict := none, data := .seq ([] : List Value).toArray } = H2 at hns₁ hsb₁ ⊢
  have hC : H2.objs.size = s₂.heap.objs.size + 1 := by rw [← hH2, Heap.size_push]
  have hDC : s₂.heap.objs.size ≠ H2.objs.size := by rw [hC]; exact Nat.ne_of_lt (Nat.lt_succ_self _)
  have below : ∀ b, b < s₂.heap.objs.size → b ≠ H2.objs.size ∧ b ≠ s₂.heap.objs.size := fun b hb => ⟨by rw [hC]; exact Nat.ne_of_lt (Nat.lt_succ_of_lt hb), Nat.ne_of_lt hb⟩
  have hDf : s₂.heap.objs.size ∉ fp := fun hm => Nat.lt_irrefl _ (hfp _ hm)
  have hCf : H2.objs.size ∉ fp := fun hm => by have := hfp _ hm; rw [hC] at this; exact Nat.lt_irrefl _ (Nat.lt_of_succ_lt this)
  have old : ∀ b o, s₂.heap.get? b = some o → h₁.get? b = some o := fun b o e => hsb₁.extBut b o (below b (Heap.lt_size e)).1 (Heap.get?_push_of_some _ (hH2 ▸ Heap.get?_push_of_some _ e))
  have hacc : h₁.PlainList s₂.heap.objs.size #[] := ⟨_, hsb₁.extBut _ _ hDC (Heap.get?_push_of_some _ (hH2 ▸ Heap.get?_push_size _ rfl))⟩
  have hst₁ : St 0 h₁ := W.frame _ _ _ hst fun b _ o e => old b o e
  have hL : L < s₂.heap.objs.size := F.ns.lt
  have none_of : ∀ a, s₂.heap.objs.size ≤ a → h₀.get? a = none := fun a ha => Heap.get?_none_of_le (Nat.le_trans (Nat.le_of_lt (Nat.lt_of_le_of_lt F.above hL)) ha)
  have hCle : s₂.heap.objs.size ≤ H2.objs.size := by rw [hC]; exact Nat.le_succ _
  have hCL' : H2.objs.size ≠ L := Ne.symm (Nat.ne_of_lt (Nat.lt_of_lt_of_le hL hCle))
  have loop : ∀ s₃ : Shared, s₃ = { s₂ with heap := h₁, toks := s₂.toks + ([] : List (Str × Value)).length } →
      codeAny (model prog w) A (.compLoop (.ListComp elt [⟨.Name x px, iter, [], 0⟩] scope pos) 0 (.ref I) (.ref s₂.heap.objs.size) (compEnvC scope cl H2.objs.size env))
        (RR (.ref s₂.heap.objs.size) H2.objs.size) s₃ := by
    rintro s₃ rfl
    refine comp_loop_own (cenv := compEnvC scope cl H2.objs.size env) (L := L) (h₀ := h₀) (m := m) (news := news) W hsz fix J hlive (lookup_relabel_local hx) (by simp [compEnvC, relabel, hkind]) hDC hDf hCf hLf
      hCL' (Ne.symm (Nat.ne_of_lt hL)) (none_of _ hCle) (none_of _ (Nat.le_refl _)) hwr hfix hJ
      (fun p hp => ⟨hnw p hp, (below _ (Heap.lt_size (N p hp).1)).1, (below _ (Heap.lt_size (N p hp).1)).2⟩) hst₁ hacc hns₁
      ⟨F.ns.at' fun o e => old _ o e, fun b o e => old b o (F.keep b o e), F.above⟩ (fun p hp => ⟨old _ _ (N p hp).1, (N p hp).2⟩) h0
      (fun i v ys news₁ h tk own mc' E' hi hP hj ho hn hm F' N' => turn i v ys news₁ h tk own H2.objs.size mc' E' hi hP hj ho hn hm F' N') fun h' tk mc' ys news₁ c hj hlen hn F' N' hne => ?_
    exact hRR _ _ h' tk mc' ys news₁ c hj hlen hn hCL' hDC (none_of _ hCle) F' N' hne
  exact codeAny_compStart_list (loop _ rfl) (W.self 0 _ _ _ hst₁ (loop _ rfl))))

theorem same_C {C : Addr} {h h' : Heap} {news₁ : List (Addr × Obj)} (F : Fr h₀ L h m) (N : News h₀ L h news₁) (hs : Heap.SameBut C h h') (hCL : C ≠ L) (hC0 : h₀.get? C = none) (hne : ∀ p ∈ news₁, p.1 ≠ C) : Fr h₀ L h' m ∧ News h₀ L h' news₁ :=
  ⟨⟨F.ns.sameBut hs (Ne.symm hCL), fun b o e => hs.extBut b o (fun q => by rw [q, hC0] at e; cases e) (F.keep b o e), F.above⟩, fun p hp => ⟨hs.extBut _ _ (hne p hp) (N p hp).1, (N p hp).2⟩⟩

/-- what is asked of the iterable of a comprehension -/
def CompAt (prog : Program) (w : World) (A : Around) (h₀ : Heap) (L : Addr) (m : Str → Option Value) (env : Env) (scope : Scope) (cl : List (Str × Addr)) (x : Str) (elt : Expr) (fin : Addr → List Value → Nat → List (Addr × Obj) → Heap → Nat → Shared → Prop) (it : Value) (s₂ : Shared) : Prop :=
  ∃ (I : Addr) (fp wr : List Addr) (n : Nat) (P : Nat → Value → Prop) (St : Nat → Heap → Prop) (fix news : List (Addr × Obj)) (J : Nat → List Value → List (Addr × Obj) → Prop),
    it = .ref I ∧ Walks prog w A I fp wr n P St ∧ n ≤ sizeLine ∧ (∀ i h, St i h → ∀ b ∈ wr, ∃ o, h.get? b = some o) ∧ St 0 s₂.heap ∧ (∀ b ∈ fp, b < s₂.heap.objs.size) ∧ L ∉ fp ∧ (∀ b ∈ wr, h₀.get? b = none) ∧ (∀ b ∈ fp, b ∈ wr ∨ ∃ o, (b, o) ∈ fix) ∧
    (∀ i ys n, J i ys n → ∀ p ∈ fix, p ∈ n) ∧ (∀ p ∈ news, p.1 ∉ wr) ∧ Fr h₀ L s₂.heap m ∧ News h₀ L s₂.heap news ∧ J 0 [] news ∧
    (∀ i v ys news₁ h tk own C mc E', i < n → P i v → J i ys news₁ → Off news₁ own → NsOwn own C mc → mc x = some v → Fr h₀ L h m → News h₀ L h (news₁ ++ own) →
      wpAny (model prog w) A (eval elt (compEnvC scope cl C env)) (CompEnd h₀ L m own (fun y => J (i + 1) (ys ++ [y])) { s₂ with heap := h, toks := tk }) E' { s₂ with heap := h, toks := tk }) ∧
    (∀ D ys c news₁ h' tk, J n ys news₁ → ys.length = n → Fr h₀ L h' m → News h₀ L h' ((D, PySem.W.listOf ys.toArray c) :: news₁) → (∀ p ∈ news₁, p.1 ≠ D) → fin D ys c news₁ h' tk s₂)

theorem ListComp_own {s : Shared} {elt iter : Expr} {x : Str} {px : Pos} {scope : Scope} {cl : List (Str × Addr)} {pos : Pos} {Q : Value → Shared → Prop}
    (hclos : closureFor scope env = pure cl) (hcell : ∀ y ∈ scope.names, y.2 ≠ .cell) (hkind : scope.kind = .function)
    (hnames : ∀ y ∈ scope.names, y.2 = .local → scope.names.lookup y.1 = some .local) (hx : scope.names.lookup x = some .local)
    (hs : ∀ x, foldedSetIterable iter env x = pure x)
    (h : wpAny (model prog w) A (eval iter env) (fun xv s₁ => wpAny (model prog w) A (pyIter xv) (fun it s₂ => CompAt prog w A h₀ L m env scope cl x elt (fun D _ _ _ h' tk s₂ => Q (.ref D) { s₂ with heap := h', toks := tk }) it s₂) E s₁) E s) :
    wpAny (model prog w) A (eval (.ListComp elt [⟨.Name x px, iter, [], 0⟩] scope pos) env) Q E s := out_of (by exact trivial : Hold (by
  rw [eval_ListComp]
  refine wpAny_comprehension_free (use := none) rfl hs hclos hkind hnames (wpAny_mono h (fun xv s₁ h₁ => wpAny_mono h₁ (fun it s₂ h₂ => ?_) fun _ _ e => e) fun _ _ e => e)
  obtain ⟨I, fp, wr, n, P, St, fix, news, J, rfl, W, hsz, hlive, hst, hfp, hLf, hwr, hfix, hJ, hnw, F, N, h0, turn, hfin⟩ := h₂
  refine comp_block_own (RR := fun acc C => compPost (model prog w) A E none Q acc C) W hsz fix J hlive hcell hkind hx hst hfp hLf hwr hfix hJ hnw F N h0 turn ?_
  intro D C h' tk mc ys news₁ c hj hlen hn hCL hDC hC0 F' N' hne
  refine ⟨mc, hn, fun h'' hs'' => ?_⟩
  obtain ⟨F'', N''⟩ := same_C F' N' hs'' hCL hC0 (fun p hp => by rcases List.mem_cons.mp hp with rfl | hp; exact hDC; exact (hne p hp).2)
  exact hfin D ys c news₁ h'' tk hj hlen F'' N'' fun p hp => (hne p hp).1))

theorem Assign_ListComp_own {s : Shared} {elt iter : Expr} {x y : Str} {px py : Pos} {scope : Scope} {cl : List (Str × Addr)} {pos spos : Pos} {Q : Flow → Shared → Prop}
    (hsw : swapsWith (.ListComp elt [⟨.Name x px, iter, [], 0⟩] scope pos) (some (.Name y py)) spos.line env = pure true)
    (hclos : closureFor scope env = pure cl) (hcell : ∀ z ∈ scope.names, z.2 ≠ .cell) (hkind : scope.kind = .function)
    (hnames : ∀ z ∈ scope.names, z.2 = .local → scope.names.lookup z.1 = some .local) (hx : scope.names.lookup x = some .local)
    (hy : env.kindOf y = some .local) (hp : (env.scope.kind == .class || (env.scope.kind == .module && env.locals != env.globals)) = false)
    (hs : ∀ x, foldedSetIterable iter env x = pure x)
    (h : wpAny (model prog w) A (eval iter env) (fun xv s₁ => wpAny (model prog w) A (pyIter xv) (fun it s₂ => CompAt prog w A h₀ env.locals m env scope cl x elt
      (fun D ys c news₁ _ _ s₂ => ∀ h' tk, Fr h₀ env.locals h' (fun z => if z = y then some (.ref D) else m z) → News h₀ env.locals h' ((D, PySem.W.listOf ys.toArray c) :: news₁) → Q .next { s₂ with heap := h', toks := tk }) it s₂) E s₁) E s) :
    wpAny (model prog w) A (exec (.Assign [.Name y py] (.ListComp elt [⟨.Name x px, iter, [], 0⟩] scope pos) spos) env) Q E s := out_of (by exact trivial : Hold (by
  rw [exec_Assign_Name_used _ _ _ _ hsw]
  refine wpAny_bind (wpAny_standAt (wpAny_bind ?_))
  show wpAny _ A (do let _ ← comprehension (.ListComp elt [⟨.Name x px, iter, [], 0⟩] scope pos) scope env _ (newList []) false (eval iter env) (some (assign (.Name y py) env))) _ _ s
  refine wpAny_bind (wpAny_mono (wpAny_comprehension_free (use := some (assign (.Name y py) env)) (Q := fun _ s' => Q .next s') rfl hs hclos hkind hnames
    (wpAny_mono h (fun xv s₁ h₁ => wpAny_mono h₁ (fun it s₂ h₂ => ?_) fun _ _ e => e) fun _ _ e => e)) (fun _ s' hq => wpAny_pure (wpAny_pure hq)) fun _ _ e => e)
  obtain ⟨I, fp, wr, n, P, St, fix, news, J, rfl, W, hsz, hlive, hst, hfp, hLf, hwr, hfix, hJ, hnw, F, N, h0, turn, hfin⟩ := h₂
  refine comp_block_own (RR := fun acc C => compPost (model prog w) A E (some (assign (.Name y py) env)) (fun _ s' => Q .next s') acc C) W hsz fix J hlive hcell hkind hx hst hfp hLf hwr hfix hJ hnw F N h0 turn ?_
  intro D C h' tk mc ys news₁ c hj hlen hn hCL hDC hC0 F' N' hne
  show wpAny _ A (assign (.Name y py) env (.ref D)) _ _ _
  refine wpAny_assign_Name (wpAny_storeName_local hy F'.ns (fun h₂ hn₂ hs₂ => ?_) hp)
  have F₂ := F'.set hn₂ hs₂
  have N₂ := N'.set hs₂
  refine ⟨mc, hn.sameBut hs₂ hCL, fun h₃ hs₃ => ?_⟩
  obtain ⟨F₃, N₃⟩ := same_C F₂ N₂ hs₃ hCL hC0 (fun p hp => by rcases List.mem_cons.mp hp with rfl | hp; exact hDC; exact (hne p hp).2)
  exact hfin D ys c news₁ h' tk hj hlen F' N' (fun p hp => (hne p hp).1) h₃ _ F₃ N₃))

section
variable {s : Shared} {scope : Scope} {cl : List (Str × Addr)} {x : Str} {elt : Expr} {fin : Addr → List Value → Nat → List (Addr × Obj) → Heap → Nat → Shared → Prop}
theorem compList {l : Addr} {items : Array Value} {c : Nat} (J : Nat → List Value → List (Addr × Obj) → Prop) (hh : A.handled = none) (F : Fr h₀ L s.heap m) (N : News h₀ L s.heap news) (hl : (l, PySem.W.listOf items c) ∈ news) (hsz : items.size ≤ sizeLine)
    (hJ : ∀ i ys n, J i ys n → (l, PySem.W.listOf items c) ∈ n) (h0 : J 0 [] news)
    (turn : ∀ i v ys news₁ h tk own C mc E', items[i]? = some v → J i ys news₁ → Off news₁ own → NsOwn own C mc → mc x = some v → Fr h₀ L h m → News h₀ L h (news₁ ++ own) →
      wpAny (model prog w) A (eval elt (compEnvC scope cl C env)) (CompEnd h₀ L m own (fun y => J (i + 1) (ys ++ [y])) { s with heap := h, toks := tk }) E' { s with heap := h, toks := tk })
    (hfin : ∀ D ys c news₁ h' tk H, J items.size ys news₁ → ys.length = items.size → Fr h₀ L h' m → News h₀ L h' ((D, PySem.W.listOf ys.toArray c) :: news₁) → (∀ p ∈ news₁, p.1 ≠ D) → fin D ys c news₁ h' tk { s with heap := H }) :
    wpAny (model prog w) A (pyIter (.ref l)) (fun it s₂ => CompAt prog w A h₀ L m env scope cl x elt fin it s₂) E s := out_of (by exact trivial : Hold (by
  have hg := N _ hl
  have hls : s.heap.IsList l items := ⟨_, hg.1, rfl, c, rfl⟩
  have hne : l ≠ s.heap.objs.size := Nat.ne_of_lt (Heap.lt_size hg.1)
  refine wpAny_pyIter_list hls ?_
  refine ⟨_, _, _, items.size, _, _, [(l, PySem.W.listOf items c)], news, J, rfl, Walks.list hh s.heap.objs.size l hne items, hsz, fun i h st b hb => ?_, ⟨⟨_, Heap.get?_push_size _ rfl, rfl, rfl⟩, hls.at fun o e => Heap.get?_push_of_some _ e⟩, fun b hb => ?_, fun hm => ?_, fun b hb => ?_, fun b hb => ?_, fun i m n hj p hp => ?_, fun p hp hb => ?_,
    F.push _, (fun p hp => ⟨Heap.get?_push_of_some _ (N p hp).1, (N p hp).2⟩), h0, (fun i v ys news₁ h tk own C mc E' _ hP hj => turn i v ys news₁ h tk own C mc E' hP hj), fun D ys c' news₁ h' tk hj hlen F' N' hn => hfin D ys c' news₁ h' tk _ hj hlen F' N' hn⟩
  · rw [List.mem_singleton.mp hb]; obtain ⟨⟨o, ho, _⟩, _⟩ := st; exact ⟨o, ho⟩
  · show b < (s.heap.push _).objs.size
    rw [Heap.size_push]
    rcases List.mem_cons.mp hb with e | hb
    · rw [e]; exact Nat.lt_succ_self _
    · rw [List.mem_singleton.mp hb]; exact Nat.lt_succ_of_lt (Heap.lt_size hg.1)
  · rcases List.mem_cons.mp hm with e | hm
    · exact absurd F.ns.lt (e ▸ Nat.lt_irrefl _)
    · exact hg.2.1 (List.mem_singleton.mp hm).symm
  · rw [List.mem_singleton.mp hb]; exact next_is_new F
  · rcases List.mem_cons.mp hb with e | hb
    · exact .inl (by rw [e]; exact .head _)
    · exact .inr ⟨_, by rw [List.mem_singleton.mp hb]; exact .head _⟩
  · rw [List.mem_singleton.mp hp]; exact hJ _ _ _ hj
  · exact absurd (Heap.lt_size (N p hp).1) ((List.mem_singleton.mp hb) ▸ Nat.lt_irrefl _)))

theorem compRange {r : Addr} {a b c : Int} {t u v : Tok} {n : Nat} (J : Nat → List Value → List (Addr × Obj) → Prop) (hh : A.handled = none) (F : Fr h₀ L s.heap m) (N : News h₀ L s.heap news) (hr : IsRange s.heap r a b c t u v) (hsmall : Builtin.Range.small a b c = true) (hn : Builtin.Range.rangeSize a b c = n)
    (hsz : n ≤ sizeLine) (h0 : J 0 [] news)
    (turn : ∀ (i : Nat) t ys news₁ h tk own C mc E', i < n → J i ys news₁ → Off news₁ own → NsOwn own C mc → mc x = some (.int (a + i * c) t) → Fr h₀ L h m → News h₀ L h (news₁ ++ own) →
      wpAny (model prog w) A (eval elt (compEnvC scope cl C env)) (CompEnd h₀ L m own (fun y => J (i + 1) (ys ++ [y])) { s with heap := h, toks := tk }) E' { s with heap := h, toks := tk })
    (hfin : ∀ D ys c news₁ h' tk H, J n ys news₁ → ys.length = n → Fr h₀ L h' m → News h₀ L h' ((D, PySem.W.listOf ys.toArray c) :: news₁) → (∀ p ∈ news₁, p.1 ≠ D) → fin D ys c news₁ h' tk { s with heap := H }) :
    wpAny (model prog w) A (pyIter (.ref r)) (fun it s₂ => CompAt prog w A h₀ L m env scope cl x elt fin it s₂) E s := out_of (by exact trivial : Hold (by
  refine wpAny_pyIter_range hr hsmall ?_
  have hst : IsRangeIter (s.heap.push { cls := .type "range_iterator", data := .fields #[rawInt a, rawInt (Builtin.Range.rangeSize a b c), rawInt c] }) s.heap.objs.size (a + (0 : Nat) * c) ((n : Int) - (0 : Nat)) c := by
    have := Heap.get?_push_size s.heap (o := { cls := .type "range_iterator", data := .fields #[rawInt a, rawInt (Builtin.Range.rangeSize a b c), rawInt c] }) rfl
    rw [hn] at this ⊢
    simpa [IsRangeIter, rawInt] using this
  refine ⟨_, _, _, n, _, _, [], news, J, rfl, Walks.range hh s.heap.objs.size a c n, hsz, fun i h st b hb => ?_, hst, fun b hb => ?_, fun hm => ?_, fun b hb => ?_, fun b hb => .inl hb, (fun i m n hj p hp => nomatch hp), fun p hp hb => ?_,
    F.push _, (fun p hp => ⟨Heap.get?_push_of_some _ (N p hp).1, (N p hp).2⟩), h0, (fun i v ys news₁ h tk own C mc E' hi hP hj ho hC hm F' N' => ?_), fun D ys c' news₁ h' tk hj hlen F' N' hn => hfin D ys c' news₁ h' tk _ hj hlen F' N' hn⟩
  · rw [List.mem_singleton.mp hb]; exact ⟨_, st⟩
  · show b < (s.heap.push _).objs.size
    rw [Heap.size_push, List.mem_singleton.mp hb]; exact Nat.lt_succ_self _
  · exact absurd F.ns.lt ((List.mem_singleton.mp hm) ▸ Nat.lt_irrefl _)
  · rw [List.mem_singleton.mp hb]; exact next_is_new F
  · exact absurd (Heap.lt_size (N p hp).1) ((List.mem_singleton.mp hb) ▸ Nat.lt_irrefl _)
  · obtain ⟨t', rfl⟩ := hP
    exact turn i t' ys news₁ h tk own C mc E' hi hj ho hC hm F' N'))
end
end

end
/-! part Com -/
section
theorem atCom : True := by
  w_top off
  exact trivial
/-- a name of the map, written in front of it -/
theorem pin {h₀ h : Heap} {L : Addr} {m : Str → Option Value} {y : Str} {v : Value} (F : Fr h₀ L h m) (e : m y = some v) : Fr h₀ L h (fun z => if z = y then some v else m z) := out_of (by exact trivial : Hold (by
  have : (fun z => if z = y then some v else m z) = m := funext fun z => by
    by_cases q : z = y
    · subst q; rw [if_pos rfl, e]
    · rw [if_neg q]
  rw [this]; exact F))
/-- the low octets of a number -/
def digs (r : Int) (n : Nat) : List Int := (List.range n).map fun i => r / 256 ^ i % 256
theorem digs_succ (r : Int) (n : Nat) : digs r (n + 1) = digs r n ++ [r / 256 ^ n % 256] := by simp [digs, List.range_succ]
theorem digs_length (r : Int) (n : Nat) : (digs r n).length = n := by simp [digs]
theorem digs_in (r : Int) (n : Nat) : ∀ k ∈ digs r n, 0 ≤ k ∧ k < 256 := out_of (by exact trivial : Hold (by
  intro k hk
  obtain ⟨i, _, rfl⟩ := List.mem_map.mp hk
  exact ⟨Int.emod_nonneg _ (by decide), Int.emod_lt_of_pos _ (by decide)⟩))
theorem pow256 (i : Nat) : (256 : Int) ^ i = 2 ^ (8 * i) := by rw [Int.pow_mul]; congr 1
theorem digs_mod (r : Int) (n : Nat) : digs (r % 2 ^ (8 * n)) n = digs r n := out_of (by exact trivial : Hold (by
  refine List.map_congr_left fun i hi => ?_
  have hi := List.mem_range.mp hi
  have e : (2 : Int) ^ (8 * n) = 256 ^ i * (256 * 256 ^ (n - i - 1)) := by
    rw [show (256 : Int) ^ i * (256 * 256 ^ (n - i - 1)) = 256 ^ (i + (1 + (n - i - 1))) by rw [Int.pow_add, Int.pow_add, Int.pow_one], pow256]
    congr 1; omega
  have p1 : (256 : Int) ^ i ≠ 0 := Int.ne_of_gt (Int.pow_pos (by decide))
  have h := Int.emod_add_mul_ediv r (2 ^ (8 * n))
  generalize (2 : Int) ^ (8 * n) = M at *
  subst e
  generalize r / (256 ^ i * (256 * 256 ^ (n - i - 1))) = q at h
  conv => rhs; rw [← h, Int.mul_assoc, Int.add_mul_ediv_left _ _ p1, Int.mul_assoc, Int.add_mul_emod_self_left]))
theorem div256 (r : Int) (i : Nat) : r / 256 ^ i / 256 = r / 256 ^ (i + 1) := by
  rw [Int.ediv_ediv_of_nonneg (Int.le_of_lt (Int.pow_pos (by decide))), Int.pow_succ]
section
variable {prog : Program} {w : World} {A : Around} {E : Value → Shared → Prop} {s : Shared} {a b : Int} {t u : Tok} {Q : Value → Shared → Prop}
theorem shl1 {n : Int} (h0 : 0 ≤ n) (h1 : n ≤ 64) (h : Q (.int (2 ^ n.toNat) s.toks) { s with toks := s.toks + 1 }) : wpAny (model prog w) A (binaryOp .LShift (.int 1 t) (.int n u)) Q E s :=
  lshift_int_small h0 (by omega) (by decide) (by rw [Int.one_mul]; exact h)
theorem and_mask {k : Nat} (h : Q (.int (a % 2 ^ k) s.toks) { s with toks := s.toks + 1 }) : wpAny (model prog w) A (binaryOp .BitAnd (.int a t) (.int (2 ^ k - 1) u)) Q E s :=
  and_int (by rw [kbt_mask]; exact h)
theorem and_255 (h : Q (.int (a % 256) s.toks) { s with toks := s.toks + 1 }) : wpAny (model prog w) A (binaryOp .BitAnd (.int a t) (.int 255 u)) Q E s :=
  and_int (by rw [bitAnd_m8]; exact h)
theorem shr_8 (h : Q (.int (a / 256) s.toks) { s with toks := s.toks + 1 }) : wpAny (model prog w) A (binaryOp .RShift (.int a t) (.int 8 u)) Q E s :=
  rshift_int (by decide) (by rw [Int.fdiv_eq_ediv_of_nonneg _ (by decide)]; exact h)
end

theorem pinT {h₀ h : Heap} {L : Addr} {m : Str → Option Value} {x y : Str} {u v : Value} (F : Fr h₀ L h (fun z => if z = x then some v else m z)) (e : m y = some u) (ne : y ≠ x) : Fr h₀ L h (fun z => if z = y then some u else if z = x then some v else m z) :=
  pin F (by show (if y = x then some v else m y) = _; rw [if_neg ne]; exact e)
section
variable {prog : Program} {w : World} {A : Around} {E : Value → Shared → Prop} {s : Shared} {h₀ : Heap} {L : Addr} {m : Str → Option Value} {news : List (Addr × Obj)} {Q : Value → Shared → Prop}
theorem range1 {n : Int} {t : Tok} (F : Fr h₀ L s.heap m) (N : News h₀ L s.heap news) (h : ∀ r t1 t2 t3 h' tk, IsRange h' r 0 n 1 t1 t2 t3 → Fr h₀ L h' m → News h₀ L h' news → Q (.ref r) { s with heap := h', toks := tk }) :
    wpAny (model prog w) A (call (.type "range") [.int n t]) Q E s :=
  call_range_1 (h _ _ _ _ _ _ (Heap.get?_push_size _ rfl) (F.push _) fun p hp => ⟨Heap.get?_push_of_some _ (N p hp).1, (N p hp).2⟩)
end
theorem off_cons {p : Addr × Obj} {a b : List (Addr × Obj)} (h : Off (p :: a) b) : ∀ q ∈ b, q.1 ≠ p.1 := fun q hq e => h p (.head _) q hq e.symm
theorem off_tail {p : Addr × Obj} {a b : List (Addr × Obj)} (h : Off (p :: a) b) : Off a b := fun q hq => h q (.tail _ hq)
theorem all_app {a b : List (Addr × Obj)} {d : Addr} (ha : ∀ q ∈ a, q.1 ≠ d) (hb : ∀ q ∈ b, q.1 ≠ d) : ∀ q ∈ a ++ b, q.1 ≠ d := fun q hq => (List.mem_append.mp hq).elim (ha q) (hb q)
theorem off_new {D : Addr} {o o' : Obj} {a b : List (Addr × Obj)} (h : Off ((D, o) :: a) b) : Off ((D, o') :: a) b := fun p hp q hq e => by
  rcases List.mem_cons.mp hp with rfl | hp
  · exact h _ (.head _) q hq e
  · exact h p (.tail _ hp) q hq e
theorem ints_snoc {vs : List Value} {ns : List Int} (h : IntsAre vs ns) (i : Int) (t : Tok) : IntsAre (vs ++ [.int i t]) (ns ++ [i]) := out_of (by exact trivial : Hold (by
  induction h with
  | nil => exact .cons i t .nil
  | cons j u _ ih => exact .cons j u ih))

theorem turn_end {h₀ : Heap} {L : Addr} {own : List (Addr × Obj)} {J : (Str → Option Value) → List (Addr × Obj) → Prop} {s₁ : Shared} {Q : Flow → Shared → Prop} {h' : Heap} {tk : Nat} {m' : Str → Option Value} {l news' : List (Addr × Obj)}
    (F : Fr h₀ L h' m') (N : News h₀ L h' l) (e : l = news' ++ own) (off : Off news' own) (j : J m' news') : TurnPost h₀ L own J s₁ Q .next { s₁ with heap := h', toks := tk } :=
  ⟨h', tk, m', news', rfl, F, e ▸ N, off, j⟩
theorem push_app (vs : List Value) (v : Value) : Array.push vs.toArray v = (vs ++ [v]).toArray := by simp
theorem lt_ne {D : Addr} {l : List (Addr × Obj)} (h : ∀ p ∈ l, p.1 < D) : ∀ p ∈ l, p.1 ≠ D := fun p hp => Nat.ne_of_lt (h p hp)
theorem range_size (n : Nat) : Builtin.Range.rangeSize 0 n 1 = n := by rw [rangeSize_nat]; omega
theorem range_small (n : Nat) (h : n ≤ 1000000) : Builtin.Range.small 0 n 1 = true := small_one (by decide) (by decide) (by omega) (by omega)

end
/-! part Pins -/
section
theorem atPins : True := by
  w_top off
  exact trivial
/-- a frame's map with some names written ahead -/
def over (m : Str → Option Value) : List (Str × Value) → Str → Option Value
  | [], z => m z
  | (k, v) :: r, z => if z = k then some v else over m r z
inductive Pins (m : Str → Option Value) : List (Str × Value) → Prop
  | nil : Pins m []
  | cons {k : Str} {v : Value} {r : List (Str × Value)} (h : m k = some v) (t : Pins m r) : Pins m ((k, v) :: r)
theorem over_same {m : Str → Option Value} {ps : List (Str × Value)} (h : Pins m ps) : over m ps = m := out_of (by exact trivial : Hold (by
  induction h with
  | nil => rfl
  | @cons k v r h t ih =>
    funext z
    show (if z = k then some v else over m r z) = m z
    rw [ih]
    by_cases q : z = k
    · rw [if_pos q, q, h]
    · rw [if_neg q]))
theorem pins {h₀ h : Heap} {L : Addr} {m : Str → Option Value} {ps : List (Str × Value)} (F : Fr h₀ L h m) (hp : Pins m ps) : Fr h₀ L h (over m ps) := (over_same hp).symm ▸ F
theorem pinsT {h₀ h : Heap} {L : Addr} {m : Str → Option Value} {ps : List (Str × Value)} {x : Str} {v : Value} (F : Fr h₀ L h (fun z => if z = x then some v else m z)) (hp : Pins m ps) : Fr h₀ L h (fun z => if z = x then some v else over m ps z) := by
  rw [over_same hp]; exact F
/-- the sections' names, kept shut so that the arithmetic does not open it -/
structure Names3 (ks : List Str) : Prop where
  ex : ∃ k, 1 ≤ k ∧ k ≤ 3 ∧ ks = [Str.ofString ".text", Str.ofString ".data", Str.ofString "x"].take k

end
/-! part Little -/
section
theorem atLittle : True := by
  w_top off
  exact trivial
def littleJ (r0 : Int) (D : Addr) (news : List (Addr × Obj)) (i : Nat) (m : Str → Option Value) (ns : List (Addr × Obj)) : Prop :=
  (∃ t, m (Str.ofString "rest") = some (.int (r0 / 256 ^ i) t)) ∧ m (Str.ofString "octets") = some (.ref D) ∧ ∃ vs c, IntsAre vs (digs r0 i) ∧ ns = (D, PySem.W.listOf vs.toArray c) :: news
section
local macro_rules | `(tactic| walk_at "binaryOp LShift int int") => `(tactic| (k_here; (with_reducible refine shl1 ?k1 ?k2 ?_); (case k1 => omega); (case k2 => omega)))
local macro_rules | `(tactic| walk_at "binaryOp BitAnd int int") => `(tactic| (k_here; first | with_reducible refine and_mask ?_ | with_reducible refine and_255 ?_))
local macro_rules | `(tactic| walk_at "binaryOp RShift int int") => `(tactic| (k_here; (with_reducible refine shr_8 ?_)))
local macro_rules | `(tactic| walk_at "call type:bytes") => `(tactic| walk_at "M bytes")
local macro_rules | `(tactic| walk_at "call type:range") => `(tactic| (k_here; k_dflt (refine' range1 ?k1 ?k2 ?_; (case k1 => k_asm); (case k2 => k_asm); k_whole); intro r' t1' t2' t3' h' tk' R' F' N'))
set_option maxHeartbeats 8000000 in
theorem little_ok {w : World} {A : Around} {base h₀ : Heap} {l : List Env} {L : Addr} {m : Str → Option Value} {s : Shared} {Q E : Value → Shared → Prop} {news : List (Addr × Obj)} {worth : Int} {t1 t2 : Tok} {n : Nat}
    (H : Here 6 w A base l h₀ L m s.heap news) (h1 : 1 ≤ n) (h8 : n ≤ 8)
    (ret : ∀ b t h' tk', KBw.bInts b = digs worth n → Fr h₀ L h' m → News h₀ L h' news → Q (.bytes b t) { s with heap := h', toks := tk' }) :
    wpAny (model PySem.Challenge.pw_nn0048_01 w) A (call (.ref 101) [.int worth t1, .int n t2]) Q E s := out_of (by exact trivial : Hold (by
  obtain ⟨e, el, B, F, X, N, T, hk, hd, hu⟩ := H
  subst e el
  refine wpAny_call ?_
  k_dflt ktr_enter
  walk_at "M steps"
  rename IsRange _ _ _ _ _ _ _ _ => R
  rename (∀ p ∈ news, p.1 < _) => hlt
  refine forRange (n := n) ?eL (littleJ _ _ news) rfl (by assumption) (by assumption) R ?small ?hn ⟨⟨_, by simp only [Int.pow_zero, Int.ediv_one]; rfl⟩, rfl, [], 0, .nil, rfl⟩ ?turn ?done
  case eL => rfl
  case small => exact range_small n (by omega)
  case hn => exact range_size n
  case turn =>
    rintro i t m₁ news₁ h tk own hi ⟨⟨tr, hr⟩, ho, vs, c, hv, rfl⟩ off F1 N1
    replace F1 := pinT (pinT F1 ho (by decide)) ((if_neg (by decide)).trans hr) (by decide)
    have a1 := all_app (lt_ne hlt) (off_cons off)
    have hz : vs.length ≤ 8 := by rw [hv.length, digs_length]; omega
    walk_at "M steps"
    refine turn_end (news' := (_, _) :: news) (by assumption) (by assumption) rfl (off_new off) ⟨⟨_, by rw [← div256]; with_unfolding_all rfl⟩, by with_unfolding_all rfl, vs ++ [.int _ _], c + 1, ?iv, by rw [push_app]⟩
    rw [digs_succ]; exact ints_snoc hv _ _
  case done =>
    rintro m₁ news₁ h tk ⟨⟨tr, hr⟩, ho, vs, c, hv, rfl⟩ F1 N1
    replace F1 := pin F1 ho
    have hz : (digs (worth % 2 ^ (Int.toNat (8 * ↑n))) n).length ≤ 16777216 := by rw [digs_length]; omega
    have hin := digs_in (worth % 2 ^ (Int.toNat (8 * ↑n))) n
    walk_at "M steps"
    refine ret _ _ _ _ ?_ (by assumption) (cb_drop (by assumption) fun p hp => List.mem_cons_of_mem _ hp)
    rw [KBa.ints_make hin]
    have e := digs_mod worth n
    have e2 : (8 * (n : Int)).toNat = 8 * n := by omega
    rw [e2]; exact e))
end

end
/-! part Exc -/
section
theorem atExc : True := by
  w_top off
  exact trivial
abbrev mintTail : List Value := [.ref 39, .type "Exception", .type "BaseException", .type "object"]
abbrev excObj (C : Addr) (dd : Option Addr) (t : Addr) : Obj := { cls := .ref C, dict := dd, data := .fields #[.ref t, .none, .none, .none, .bool false, .none] }
abbrev tupObj (vs : List Value) : Obj := { cls := .type "tuple", data := .seq vs.toArray }
section
variable {prog : Program} {w : World} {A : Around} {E : Value → Shared → Prop} {h : Heap} {g : Array GenState} {d : Drawn} {t : Nat} {os : OsState} {M : Model}
variable {nm q : Str} {C N : Addr} {bs : List Value} {hdct : Bool} {sn : List Str} {sub : List Value} {ab : Bool} {col : Option Bool} {dd : Option Addr} {k0 k1 k2 k3 k5 : Option Value}
theorem xc_new {rest : List Value} {Q : Unit → Shared → Prop} (hC : h.get? C = some (excClassObj nm q C N bs mintTail hdct sn sub ab col dd k0 k1 k2 k3 k5 "Exception.__new__"))
    (hq : Q () ⟨h, g, d, t, os⟩) : wpAny M A (checkBuiltinCall "Exception.__new__" ⟨.ref C :: rest, []⟩) Q E ⟨h, g, d, t, os⟩ := out_of (by exact trivial : Hold (by
  have F := PySem.F.excBase_Exception
  have hcont : (Value.ref C :: mintTail).contains (.type "Exception") = true := by simp
  have hstar := F.noStar
  simp only [checkBuiltinCall, F.newKind, F.newSplit, F.newRow]
  repeat (first | refine wpAny_loadPart_at hC ?_ | (refine wpAny_isSubtype_exc hC ?_; rw [hcont]) | refine wpAny_staticBase_exc hC ?_ | refine wpAny_madeBy_exc hC ?_ | simp only [bne_self_eq_false, Bool.false_eq_true, if_false] | wp_step)
  exact hq))
theorem xc_make {R : Result → Shared → Prop} {rest : List Value} (hC : h.get? C = some (excClassObj nm q C N bs mintTail hdct sn sub ab col dd k0 k1 k2 k3 k5 "Exception.__new__"))
    (hq : R (.ok (.ret (.ref (h.objs.size + 1)))) ⟨(h.push (tupObj rest)).push (excObj C none h.objs.size), g, d, t, os⟩) (hrest : rest.length ≤ sizeLine) :
    codeAny (model prog w) A (.builtin "Exception.__new__" ⟨.ref C :: rest, []⟩) R ⟨h, g, d, t, os⟩ := out_of (by exact trivial : Hold (by
  have F := PySem.F.excBase_Exception
  have hends := F.ends
  have hcB : (Value.ref C :: mintTail).contains (.type "Exception") = true := by simp
  have hcA : (Value.ref C :: mintTail).contains (.type "AttributeError") = false := by simp
  have hcN : (Value.ref C :: mintTail).contains (.type "NameError") = false := by simp
  refine codeAny_builtinAt F.entry ?_
  unfold Builtin.«BaseException.__new__»
  refine PySem.wpAt_bind ?_
  show PySem.wpAt _ _ _ (stack >>= _) _ _ _
  refine PySem.wpAt_bind (PySem.wpAt_stack fun p below => PySem.wpAt_of_wpAny ?_)
  wp_walk
  refine PySem.wpAt_of_wpAny ?_
  rw [F.owner]
  repeat (first | with_reducible refine wpAny_madeHere_exc F.canon hC ?_ | with_reducible refine wpAny_loadPart_at hC ?_ | (with_reducible refine wpAny_isSubtype_exc hC ?_; first | rw [hcB] | rw [hcA] | rw [hcN]) | wp_step)
  show R _ _
  rw [Heap.size_push]
  exact hq))
theorem xc_typecall {rest : List Value} {fI : Addr} {Q : Fin → Shared → Prop} (hC : h.get? C = some (excClassObj nm q C N bs mintTail hdct sn sub ab col dd k0 k1 k2 k3 k5 "Exception.__new__"))
    (hi : Looks (model prog w) h (typeLookup (.ref C) "__init__") (some (.ref fI))) (hb : ∀ self, Looks (model prog w) h (bindSpecial (.ref fI) self) (.ref fI, [self])) (hrest : rest.length ≤ sizeLine)
    (hq : codeAny (model prog w) A (.call (.ref fI) ⟨.ref (h.objs.size + 1) :: rest, []⟩) (InitBack (h.objs.size + 1) fun r s' => match r with | .ok (.ret v) => Q (.done (.ret v)) s' | .ok _ => False | .error e => E e s')
      ⟨(h.push (tupObj rest)).push (excObj C none h.objs.size), g, d, t, os⟩) :
    wpAny (model prog w) A (Builtin.«type.__call__» ⟨.ref C :: rest, []⟩) Q E ⟨h, g, d, t, os⟩ := out_of (by exact trivial : Hold (by
  repeat (first | with_reducible refine wpAny_loadPart_at hC ?_ | with_reducible refine wpAny_madeBy_exc hC ?_ | wp_step)
  refine codeAny_call_builtin_code (Code.quiet_builtin _ PySem.F.excBase_Exception.quiet) (xc_new hC ?_)
  refine xc_make hC ?_ hrest
  show wpAny _ _ _ _ _ _
  have k : ∀ b o, h.get? b = some o → ((h.push (tupObj rest)).push (excObj C none h.objs.size)).get? b = some o := fun b o e => Heap.get?_push_of_some _ (Heap.get?_push_of_some _ e)
  have hC₁ := k _ _ hC
  have hget : ((h.push (tupObj rest)).push (excObj C none h.objs.size)).get? (h.objs.size + 1) = some (excObj C none h.objs.size) := by heap_get
  have hcC : (Value.ref C :: mintTail).contains (.ref C) = true := by simp
  have i1 := hi.keeps k
  have b1 := (hb (.ref (h.objs.size + 1))).keeps k
  unfold isInstance
  repeat (first | with_reducible refine wpAny_loadPart_at hget ?_ | (with_reducible refine wpAny_isSubtype_exc hC₁ ?_; rw [hcC]) | wp_step)
  show wpAny _ _ (typeLookup (.ref C) _) _ _ _
  refine i1.here ?_
  refine wpAny_holding (wpAny_bind (b1.here ?_))
  refine wpAny_bind (wpAny_call (codeAny_mono hq fun r s' z => ?_))
  rcases r with e | (v | _ | _ | _) <;> first | exact z | exact z.elim | skip
  obtain ⟨rfl, z⟩ := z
  exact wpAny_pure (wpAny_pure z)))
theorem xc_call {rest : List Value} {fI : Addr} {Q : Value → Shared → Prop} (hC : h.get? C = some (excClassObj nm q C N bs mintTail hdct sn sub ab col dd k0 k1 k2 k3 k5 "Exception.__new__"))
    (hi : Looks (model prog w) h (typeLookup (.ref C) "__init__") (some (.ref fI))) (hb : ∀ self, Looks (model prog w) h (bindSpecial (.ref fI) self) (.ref fI, [self])) (hrest : rest.length ≤ sizeLine)
    (hq : codeAny (model prog w) (A.under (.builtin "type.__call__" ⟨.ref C :: rest, []⟩)) (.call (.ref fI) ⟨.ref (h.objs.size + 1) :: rest, []⟩) (InitBack (h.objs.size + 1) fun r s' => match r with | .ok (.ret v) => Q v s' | .ok _ => False | .error e => E e s')
      ⟨(h.push (tupObj rest)).push (excObj C none h.objs.size), g, d, t, os⟩) :
    wpAny (model prog w) A (call (.ref C) rest) Q E ⟨h, g, d, t, os⟩ := out_of (by exact trivial : Hold (by
  have f1 := tc_lookup
  have f2 := tc_bind (.ref C)
  have hT : (⟨h, g, d, t, os⟩ : Shared).TypeIs (.ref C) "type" := ⟨_, hC, rfl⟩
  refine wpAny_call (codeAny_of_tree ?_)
  show wpAny _ _ (callAny (.ref C) _) _ _ _
  repeat (any_goals (first | assumption | with_reducible refine wpAny_loadPart_at hC ?_ | wp_step))
  refine ⟨rfl, ?_⟩
  refine codeAny_call_builtin_at (Code.quiet_builtin _ (by decide +kernel)) entry_typeCall (wpAny_check_type_call_sub hC (xc_typecall hC hi hb hrest (codeAny_mono hq fun r s' z => ?_)))
  exact z))
end
section
variable {prog : Program} {w : World} {A : Around} {E : Value → Shared → Prop} {s : Shared} {K : Frag} {C L : Addr} {h₀ : Heap} {m : Str → Option Value} {news : List (Addr × Obj)}
variable {nm q : Str} {N : Addr} {bs : List Value} {hdct : Bool} {sn : List Str} {sub : List Value} {ab : Bool} {col : Option Bool} {dd : Option Addr} {k0 k1 k2 k3 k5 : Option Value}
theorem call_exc {rest : List Value} {fI : Addr} {Q : Value → Shared → Prop} (F : Fr h₀ L s.heap m) (X₀ : K.In h₀) (Nw : News h₀ L s.heap news)
    (hC : K.lookup C = some (excClassObj nm q C N bs mintTail hdct sn sub ab col dd k0 k1 k2 k3 k5 "Exception.__new__"))
    (hi : findIn K (.ref C) "__init__" = some (some (.ref fI))) (hf : isFn K (.ref fI) = true) (hrest : rest.length ≤ sizeLine)
    (h : ∀ x t h', Fr h₀ L h' m → News h₀ L h' ((x, excObj C none t) :: (t, tupObj rest) :: news) → (∀ p ∈ news, p.1 < t) → t < x →
      codeAny (model prog w) (A.under (.builtin "type.__call__" ⟨.ref C :: rest, []⟩)) (.call (.ref fI) ⟨.ref x :: rest, []⟩) (InitBack x fun r s' => match r with | .ok (.ret v) => Q v s' | .ok _ => False | .error e => E e s') { s with heap := h' }) :
    wpAny (model prog w) A (call (.ref C) rest) Q E s := out_of (by exact trivial : Hold (by
  have X := X₀.keeps F.keep
  obtain ⟨hh, g, d, t, os⟩ := s
  refine xc_call (X _ _ hC) (looks_findIn X hi) (fun self => bind_fn X self (beq_iff_eq.mp hf)) hrest ?_
  have := h (hh.objs.size + 1) hh.objs.size _ ((F.push _).push _) (by
    have := (Nw.push F (tupObj rest)).push (F.push _) (excObj C none hh.objs.size)
    rwa [Heap.size_push] at this) (fun p hp => Heap.lt_size (Nw p hp).1) (Nat.lt_succ_self _)
  exact this))
end
def RaiseOk (K : Frag) (E : Value → Shared → Prop) (v : Value) (s : Shared) : Prop :=
  ∃ (x C : Addr) (dd : Option Addr) (t : Addr) (nm q : Str) (N : Addr) (bs : List Value) (hdct : Bool) (sn : List Str) (sub : List Value) (ab : Bool) (col : Option Bool) (dc : Option Addr) (k0 k1 k2 k3 k5 : Option Value),
    v = .ref x ∧ s.heap.get? x = some (excObj C dd t) ∧ K.In s.heap ∧ K.lookup C = some (excClassObj nm q C N bs mintTail hdct sn sub ab col dc k0 k1 k2 k3 k5 "Exception.__new__") ∧ E (.ref x) s
section
variable {prog : Program} {w : World} {A : Around} {E : Value → Shared → Prop} {s : Shared} {K : Frag} {C L : Addr} {h₀ : Heap} {m : Str → Option Value} {env : Env} {news : List (Addr × Obj)}
variable {nm q : Str} {N : Addr} {bs : List Value} {hdct : Bool} {sn : List Str} {sub : List Value} {ab : Bool} {col : Option Bool} {dc : Option Addr} {k0 k1 k2 k3 k5 : Option Value}
theorem raiseOk_intro {x : Addr} {dd : Option Addr} {t : Addr} (F : Fr h₀ L s.heap m) (X₀ : K.In h₀) (Nw : News h₀ L s.heap news) (hm : (x, excObj C dd t) ∈ news)
    (hC : K.lookup C = some (excClassObj nm q C N bs mintTail hdct sn sub ab col dc k0 k1 k2 k3 k5 "Exception.__new__")) (e : E (.ref x) s) : RaiseOk K E (.ref x) s :=
  ⟨x, C, dd, t, nm, q, N, bs, hdct, sn, sub, ab, col, dc, k0, k1, k2, k3, k5, rfl, (Nw _ hm).1, X₀.keeps F.keep, hC, e⟩
theorem exec_raise {e : Expr} {pos : Pos} {Q : Flow → Shared → Prop} (hh : A.handled = none)
    (h : wpAny (model prog w) A (eval e env) (RaiseOk K E) E s) : wpAny (model prog w) A (exec (.Raise (some e) none pos) env) Q E s := out_of (by exact trivial : Hold (by
  rw [arm_exec_Raise]
  refine wpAny_bind (wpAny_standAt ?_)
  show wpAny _ _ (raiseStmt env (some (eval e env >>= fun v => standAt pos >>= fun _ => pure v)) none) _ _ _
  unfold raiseStmt
  refine wpAny_bind (wpAny_bind (wpAny_mono h (fun v s₁ h₁ => wpAny_bind (wpAny_standAt (wpAny_pure ?_))) fun _ _ x => x))
  obtain ⟨x, C, dd, t, nm, q, N, bs, hdct, sn, sub, ab, col, dc, k0, k1, k2, k3, k5, rfl, he, X, hK, hE⟩ := h₁
  have hC := X _ _ hK
  have hcB : (Value.ref C :: mintTail).contains (.type "BaseException") = true := by simp
  obtain ⟨hp, g, d, tk, os⟩ := s₁
  repeat (first | with_reducible refine wpAny_loadPart_at he ?_ | with_reducible refine wpAny_loadPart_at hC ?_ | (with_reducible refine wpAny_isSubtype_exc hC ?_; rw [hcB]) | wp_step)
  exact wpAny_raiseNew_none hh hE))
end

end
/-! part Mint -/
section
theorem atMint : True := by
  w_top off
  exact trivial
section
variable {prog : Program} {w : World} {A : Around} {E : Value → Shared → Prop} {s : Shared} {K : Frag} {C L x t0 d : Addr} {h₀ : Heap} {m : Str → Option Value} {rest : List (Addr × Obj)} {R : Result → Shared → Prop}
variable {nm q : Str} {N : Addr} {bs : List Value} {hdct : Bool} {sn : List Str} {sub : List Value} {ab : Bool} {col : Option Bool} {dc dd : Option Addr} {k0 k1 k2 k3 k5 : Option Value} {name : Str} {v : Value} {tk : Tok}
theorem xc_base {Q : Fin → Shared → Prop} {ob : Obj} {vs : Array Value} {as : List Value} {e : Addr} (he : s.heap.get? e = some ob) (hd : ob.data = .fields vs) (h0 : vs[0]? = some (.ref t0)) (hz : as.length ≤ sizeLine)
    (h : Q (.done (.ret .none)) { s with heap := (s.heap.push (tupObj as)).update e (Obj.mapFields (·.setIfInBounds 0 (.ref s.heap.objs.size))) }) :
    wpAny (model prog w) A (Builtin.«BaseException.__init__» ⟨.ref e :: as, []⟩) Q E s := out_of (by exact trivial : Hold (by
  unfold Builtin.«BaseException.__init__»
  dsimp only
  rw [if_neg (by simp)]
  unfold newTuple Builtin.BaseException.bexcPut
  have hsz : 0 < vs.size := (Array.getElem?_eq_some_iff.mp h0).1
  have he₁ := Heap.get?_push_of_some (h := s.heap) (tupObj as) he
  refine wpAny_bind (wpAny_newObj_type (wpAny_bind (wpAny_bind (wpAny_field he₁ hd h0 (wpAny_bind (wpAny_setField he₁ hd hsz ?_))))) (by size_fits))
  exact wpAny_letGo (wpAny_pure h)))
theorem xc_init {as : List Value} {Q : Value → Shared → Prop} (F : Fr h₀ L s.heap m) (X₀ : K.In h₀) (Nw : News h₀ L s.heap ((x, excObj C dd t0) :: rest)) (hne : ∀ p ∈ rest, p.1 ≠ x) (hz : as.length ≤ sizeLine)
    (hC : K.lookup C = some (excClassObj nm q C N bs mintTail hdct sn sub ab col dc k0 k1 k2 k3 k5 "Exception.__new__"))
    (h : ∀ h' t1, Fr h₀ L h' m → News h₀ L h' ((x, excObj C dd t1) :: rest) → Q .none { s with heap := h' }) :
    wpAny (model prog w) A (call (.builtin "Exception.__init__") (.ref x :: as)) Q E s := out_of (by exact trivial : Hold (by
  have F0 := PySem.F.excBase_Exception
  have X := X₀.keeps F.keep
  have D : s.heap.get? x = some (excObj C dd t0) := (Nw (x, _) (.head _)).1
  obtain ⟨hh, g, dw, t, os⟩ := s
  have hcB : (Value.ref C :: mintTail).contains (.type "Exception") = true := by simp
  have hC' : hh.get? C = some _ := X _ _ hC
  have hck : ∀ {M : Model} {A : Around} {E : Value → Shared → Prop} {Q : Unit → Shared → Prop}, Q () ⟨hh, g, dw, t, os⟩ → wpAny M A (checkBuiltinCall "Exception.__init__" ⟨.ref x :: as, []⟩) Q E ⟨hh, g, dw, t, os⟩ := fun hq => by
    simp only [checkBuiltinCall, F0.initKind, F0.initSplit, F0.initRow]
    repeat (first | (with_reducible refine wpAny_loadPart_at D ?_; rw [show (excObj C dd t0).cls = .ref C from rfl]) | with_reducible refine wpAny_loadPart_at hC' ?_ | (with_reducible refine wpAny_isSubtype_exc hC' ?_; rw [hcB]) | wp_step)
    refine wpAny_onRaise ?_
    rw [show ∀ (a b : String) (n : Nat), Bind.check ⟨.positional, "*", "Exception", .self, [⟨"args", .varPos, false⟩]⟩ a b n (List.map (fun x => x.fst) ({ pos := Value.ref x :: as } : Args).kw) = pure () from
      fun a b n => check_star_args _ _ _ _ _ _]
    exact wpAny_pure hq
  refine wpAny_call (codeAny_call_builtin F0.init.plain F0.initEntry (hck ?_))
  refine xc_base D rfl rfl hz ?_
  obtain ⟨U1, U2⟩ := news_upd (pre := []) (o := excObj C dd t0) (o' := excObj C dd hh.objs.size) (f := Obj.mapFields (·.setIfInBounds 0 (.ref hh.objs.size))) (F.push (tupObj as)) (fun p hp => ⟨Heap.get?_push_of_some _ (Nw p hp).1, (Nw p hp).2⟩) (fun _ z => nomatch z) hne (by rfl) (by rfl)
  exact h _ _ U1 U2))
theorem xc_open (X : K.In s.heap) {od : Option Obj} {ox : Obj} (I : InstAt s.heap x ox C od) (hC : K.lookup C = some (excClassObj nm q C N bs mintTail hdct sn sub ab col dc k0 k1 k2 k3 k5 "Exception.__new__"))
    (ht : findIn K (.ref C) name = some none)
    (h : ∀ b, wpAny (model prog w) A.in1 (Builtin.ObjectAttr.storeInOwnDict (.ref x) (.ref C) (.str name tk) name v b)
      (fun fin s' => match fin with | .done f => R (.ok f) s' | .again c' => c'.quiet = true ∧ codeAny (model prog w) A c' R s') (fun e s' => R (.error e) s') s) :
    codeAny (model prog w) A (.call (.builtin "object.__setattr__") ⟨[.ref x, .str name tk, v], []⟩) R s := out_of (by exact trivial : Hold (by
  have SF := PySem.F.store_object
  have hm : Looks (model prog w) s.heap (mroOf (.ref C)) (.ref C :: mintTail) := (looks_clsIn X (by unfold clsIn; rw [hC])).andThen .now
  have sub : Looks (model prog w) s.heap (isInstance (.ref x) (.type "object")) true := I.type.andThen (looks_mroIn X (by unfold mroIn clsIn; rw [hC]; rfl))
  refine codeAny_call_builtin SF.slot.plain SF.entry (@check_slot (model prog w) _ _ s "object.__setattr__" "object" "__setattr__" (.ref x) [.str name tk, v] [] _ SF.kind SF.split sub (SF.args (.ref x) (.str name tk) v) ?_)
  rw [osa_eq, refuse_eq]
  refine wpAny_bind (wpAny_bind (I.type.here (wpAny_bind (hm.here ?_))))
  rw [refuseLoop_ref, refuseLoop_ref, PySem.F.store_Exception.passes]
  refine wpAny_pure (wpAny_bind (I.type.here (wpAny_bind ((looks_findIn X ht).here (wpAny_bind (wpAny_pure ?_))))))
  exact h _))
theorem xc_first {Q : Unit → Shared → Prop} (F : Fr h₀ L s.heap m) (X₀ : K.In h₀) (Nw : News h₀ L s.heap ((x, excObj C none t0) :: rest)) (hne : ∀ p ∈ rest, p.1 ≠ x)
    (hC : K.lookup C = some (excClassObj nm q C N bs mintTail true sn sub ab col dc k0 k1 k2 k3 k5 "Exception.__new__"))
    (ht : findIn K (.ref C) name = some none) (hs : findIn K (.ref C) "__setattr__" = some (some (.builtin "object.__setattr__")))
    (h : ∀ d h', Fr h₀ L h' m → News h₀ L h' ((d, { cls := .type "dict", data := .dict #[⟨PyData.keyHash w.params name, .str name (s.toks + 1), v⟩] 1 }) :: (x, excObj C (some d) t0) :: rest) → (∀ p ∈ rest, p.1 ≠ d) → x ≠ d → Q () { s with heap := h', toks := s.toks + 1 + 1 }) :
    wpAny (model prog w) A (setAttr (.ref x) name v) Q E s := out_of (by exact trivial : Hold (by
  have X := X₀.keeps F.keep
  have D : s.heap.get? x = some (excObj C none t0) := (Nw (x, _) (.head _)).1
  have I : InstAt s.heap x (excObj C none t0) C none := ⟨D, rfl, rfl, trivial⟩
  refine set_plain X I hs (xc_open (s := { s with toks := s.toks + 1 }) X I hC ht fun b => ?_)
  obtain ⟨cd, hc, hcd⟩ : ∃ cd, clsIn K C = some cd ∧ cd.hasDict = true := ⟨_, by unfold clsIn; rw [hC], rfl⟩
  refine wpAny_bind (wpAny_pure (wpAny_bind (wpAny_bind (wpAny_loadPart D (wpAny_bind (Looks.here (s := { s with toks := s.toks + 1 }) (looks_clsIn X hc) ?_))))))
  rw [hcd]
  have lt := Heap.lt_size D
  have N1 := Nw.push F { cls := .type "dict", data := .dict #[] }
  have hnd : ∀ p ∈ rest, p.1 ≠ s.heap.objs.size := fun p hp => Nat.ne_of_lt (Heap.lt_size (Nw p (.tail _ hp)).1)
  obtain ⟨U1, U2⟩ := news_upd (pre := [(s.heap.objs.size, { cls := .type "dict", data := .dict #[] })]) (d := x) (o := excObj C none t0) (o' := excObj C (some s.heap.objs.size) t0) (f := fun o => { cls := o.cls, dict := some s.heap.objs.size, data := o.data, slots := o.slots }) (F.push _) N1 (fun p hp => by rw [List.mem_singleton.mp hp]; exact Nat.ne_of_gt lt) hne (by rfl) (by rfl)
  obtain ⟨V1, V2⟩ := news_upd (pre := []) (d := s.heap.objs.size) (o := { cls := .type "dict", data := .dict #[] }) (o' := { cls := .type "dict", data := .dict #[⟨PyData.keyHash w.params name, .str name (s.toks + 1), v⟩] 1 }) (f := Obj.putName name (PyData.keyHash w.params name) (.str name (s.toks + 1)) v) U1 U2 (fun _ z => nomatch z) (fun p hp => by rcases List.mem_cons.mp hp with rfl | hp; exact Nat.ne_of_lt lt; exact hnd p hp) (by rfl) (by rfl)
  refine wpAny_bind (wpAny_alloc (wpAny_bind (wpAny_update (N1 (x, _) (.tail _ (.head _))).1 (wpAny_pure ?_))))
  refine wpAny_bind (wpAny_pure (wpAny_bind ?_))
  unfold nsSet
  refine wpAny_bind (wpAny_bind (wpAny_askSetting (wpAny_pure (wpAny_bind (wpAny_mkText (wpAny_bind (wpAny_loadPart (U2 (_, _) (.head _)).1 ?_)))))))
  dsimp only
  rw [aRefKeyMayBeTheName_at]
  rw [if_neg (by simp)]
  refine wpAny_updatePart (o := { cls := .type "dict", data := .dict #[] }) ?g ?_
  case g => exact (U2 (_, _) (.head _)).1
  refine wpAny_bind (wpAny_lookBehind (V2 (_, _) (.head _)).1 (pastItsLine_dict (by rw [sizeLine_eq]; exact Nat.le_of_ble_eq_true rfl)) ?_)
  exact wpAny_pure (h _ _ V1 V2 hnd (Nat.ne_of_lt lt))))
theorem xc_next {Q : Unit → Shared → Prop} {od od' : Obj} {es : List DictEntry} {n : Nat} (F : Fr h₀ L s.heap m) (X₀ : K.In h₀) (Nw : News h₀ L s.heap ((d, od) :: (x, excObj C (some d) t0) :: rest)) (hne : ∀ p ∈ rest, p.1 ≠ d) (hxd : x ≠ d)
    (hC : K.lookup C = some (excClassObj nm q C N bs mintTail true sn sub ab col dc k0 k1 k2 k3 k5 "Exception.__new__"))
    (ht : findIn K (.ref C) name = some none) (hs : findIn K (.ref C) "__setattr__" = some (some (.builtin "object.__setattr__")))
    (hl : (lookIn name od).isSome = true) (e : Obj.putName name (PyData.keyHash w.params name) (.str name (s.toks + 1)) v od = od') (e' : od'.data = .dict es.toArray n) (hz : es.length ≤ 1000)
    (h : ∀ h', Fr h₀ L h' m → News h₀ L h' ((d, od') :: (x, excObj C (some d) t0) :: rest) → Q () { s with heap := h', toks := s.toks + 1 + 1 }) :
    wpAny (model prog w) A (setAttr (.ref x) name v) Q E s := out_of (by exact trivial : Hold (by
  have X := X₀.keeps F.keep
  have D : s.heap.get? d = some od := (Nw (d, _) (.head _)).1
  have Dx : s.heap.get? x = some (excObj C (some d) t0) := (Nw (x, _) (.tail _ (.head _))).1
  have I : InstAt s.heap x (excObj C (some d) t0) C (some od) := ⟨Dx, rfl, rfl, D⟩
  refine set_plain X I hs (xc_open (s := { s with toks := s.toks + 1 }) X I hC ht fun b => ?_)
  obtain ⟨cd, hc, hcd⟩ : ∃ cd, clsIn K C = some cd ∧ cd.hasDict = true := ⟨_, by unfold clsIn; rw [hC], rfl⟩
  obtain ⟨V1, V2⟩ := news_upd (pre := []) (d := d) (o := od) (o' := od') (f := Obj.putName name (PyData.keyHash w.params name) (.str name (s.toks + 1)) v) F Nw (fun _ z => nomatch z) (fun p hp => by rcases List.mem_cons.mp hp with rfl | hp; exact hxd; exact hne p hp) e (by obtain ⟨_, _, dd, _⟩ := od'; cases e'; rfl)
  refine wpAny_bind (wpAny_pure (wpAny_bind (wpAny_bind (wpAny_loadPart Dx (wpAny_bind (Looks.here (s := { s with toks := s.toks + 1 }) (looks_clsIn X hc) ?_))))))
  rw [hcd]
  refine wpAny_pure (a := some d) (wpAny_bind (wpAny_pure (wpAny_bind ?_)))
  unfold nsSet
  refine wpAny_bind (wpAny_bind (wpAny_askSetting (wpAny_pure (wpAny_bind (wpAny_mkText (wpAny_bind (wpAny_loadPart D ?_)))))))
  unfold lookIn at hl
  split at hl
  · rename_i es₀ n₀ q
    rw [q]
    dsimp only
    have c : (!es₀.any (·.key.isStr name) && es₀.any (·.refKey)) = false := by
      rw [← Array.any_toList, ← Array.any_toList]
      split at hl
      · rename_i en he
        rw [List.any_eq_true.mpr ⟨en, List.mem_of_find?_eq_some he, List.find?_some he⟩]; rfl
      · split at hl
        · cases hl
        · rename_i z; rw [Bool.not_eq_true] at z; rw [z, Bool.and_false]
    rw [aRefKeyMayBeTheName_at, c]
    refine wpAny_updatePart D ?_
    refine wpAny_bind (wpAny_lookBehind (V2 (_, _) (.head _)).1 (by rw [e']; exact pastItsLine_dict (by rw [List.size_toArray, sizeLine_eq]; omega)) ?_)
    exact wpAny_pure (h _ V1 V2)
  · cases hl))
abbrev whatDict (w : World) (k : Tok) (v : Value) : Obj := { cls := .type "dict", data := .dict #[⟨PyData.keyHash w.params (Str.ofString "what"), .str (Str.ofString "what") k, v⟩] 1 }
theorem xc_at {Q : Unit → Shared → Prop} {k : Tok} {v1 : Value} (F : Fr h₀ L s.heap m) (X₀ : K.In h₀) (Nw : News h₀ L s.heap ((d, whatDict w k v1) :: (x, excObj C (some d) t0) :: rest)) (hne : ∀ p ∈ rest, p.1 ≠ d) (hxd : x ≠ d)
    (hC : K.lookup C = some (excClassObj nm q C N bs mintTail true sn sub ab col dc k0 k1 k2 k3 k5 "Exception.__new__"))
    (ht : findIn K (.ref C) "at" = some none) (hs : findIn K (.ref C) "__setattr__" = some (some (.builtin "object.__setattr__")))
    (h : ∀ h', Fr h₀ L h' m → News h₀ L h' ((x, excObj C (some d) t0) :: rest) → Q () { s with heap := h', toks := s.toks + 1 + 1 }) :
    wpAny (model prog w) A (setAttr (.ref x) (Str.ofString "at") v) Q E s :=
  xc_next (es := [_, _]) (n := 2) F X₀ Nw hne hxd hC ht hs (by with_unfolding_all rfl) (by with_unfolding_all rfl) (by rfl) (Nat.le_of_ble_eq_true rfl) fun h' F' N' => h h' F' fun p hp => N' p (.tail _ hp)
end
section
local macro_rules | `(tactic| walk_at "getMethod type:Exception") => `(tactic| (k_here; refine' method_type ?F ?X ?m (by decide +kernel) ?e ?h ?_; (case F => k_asm); (case X => k_asm); (case m => kernel_rfl); (case e => k_dflt k_is); (case h => k_handed)))
local macro_rules | `(tactic| walk_at "call builtin:Exception.__init__") => `(tactic| (k_here; k_dflt (refine' xc_init ?k1 ?k2 ?k3 ?k4 ?k5 ?k6 ?_; (case k1 => k_asm); (case k2 => k_asm); (case k3 => assumption); (case k4 => assumption); (case k5 => size_fits); (case k6 => k_is); k_whole); intro h' t1' F' N'))
local macro_rules | `(tactic| walk_at "setAttr ref") => `(tactic| (k_here; k_dflt (refine' xc_first ?k1 ?k2 ?k3 ?k4 ?k5 ?k6 ?k7 ?_; (case k1 => k_asm); (case k2 => k_asm); (case k3 => assumption); (case k4 => assumption); (case k5 => k_is); (case k6 => k_is); (case k7 => k_is); k_whole); intro d' h' F' N' hd1' hd2'))
local macro_rules | `(tactic| walk_at "setAttr ref") => `(tactic| (k_here; k_dflt (refine' xc_at ?k1 ?k2 ?k3 ?k4 ?k5 ?k6 ?k7 ?k8 ?_; (case k1 => k_asm); (case k2 => k_asm); (case k3 => assumption); (case k4 => assumption); (case k5 => assumption); (case k6 => k_is); (case k7 => k_is); (case k8 => k_is); k_whole); intro h' F' N'))
theorem fin_exc {h₀ h' : Heap} {L C x t tt : Addr} {dd : Option Addr} {o : Obj} {m : Str → Option Value} {s : Shared} {Q : Value → Shared → Prop} {news : List (Addr × Obj)} {tk' : Nat}
    (ret : ∀ x dd t h' tk', Fr h₀ L h' m → News h₀ L h' ((x, excObj C dd t) :: news) → (∀ p ∈ news, p.1 ≠ x) → Q (.ref x) { s with heap := h', toks := tk' })
    (F : Fr h₀ L h' m) (N : News h₀ L h' ((x, excObj C dd t) :: (tt, o) :: news)) (hne : ∀ p ∈ (tt, o) :: news, p.1 ≠ x) : Q (.ref x) { s with heap := h', toks := tk' } :=
  ret _ _ _ _ _ F (fun p hp => N p (by
    rcases List.mem_cons.mp hp with rfl | hp
    · exact .head _
    · exact .tail _ (.tail _ hp))) fun p hp => hne p (.tail _ hp)
set_option maxHeartbeats 8000000 in
theorem mint_ok {w : World} {A : Around} {base h₀ : Heap} {l : List Env} {L C : Addr} {m : Str → Option Value} {s : Shared} {Q E : Value → Shared → Prop} {news : List (Addr × Obj)} {a : Str} {t1 : Tok} 
    (H : Here 3 w A base l h₀ L m s.heap news) (hC : C = 52 ∨ C = 64)
    (ret : ∀ x dd t h' tk', Fr h₀ L h' m → News h₀ L h' ((x, excObj C dd t) :: news) → (∀ p ∈ news, p.1 ≠ x) → Q (.ref x) { s with heap := h', toks := tk' }) :
    wpAny (model PySem.Challenge.pw_nn0048_01 w) A (call (.ref C) [.str a t1]) Q E s := out_of (by exact trivial : Hold (by
  obtain ⟨e, el, B, F, X, N, T, hk, hd, hu⟩ := H
  subst e el
  rcases hC with rfl | rfl
  all_goals refine call_exc F X N (by k_is) (by k_is) (by k_is) (by size_fits) ?_
  all_goals
    intro x t h' F' N' l1 l2
    have hne : ∀ p ∈ (t, tupObj [.str a t1]) :: news, p.1 ≠ x := fun p hp => by
      rcases List.mem_cons.mp hp with rfl | hp
      · exact Nat.ne_of_lt l2
      · exact Nat.ne_of_lt (Nat.lt_trans (l1 p hp) l2)
    k_dflt ((refine' code_def ?k1 ?k2 ?k3 ?k4 ?k5 ?kA ?kF ?kK ?k6 ?k7 ?k8 ?k9 ?kB ?_ ?c2 ?c3 ?c4 ?c5; (case kA => exact rfl); (case kF => exact rfl); (case kK => assumption); (case k1 => k_asm); (case k2 => k_asm); (case k3 => k_asm); (case k4 => k_asm); (case k5 => k_asm); (case k6 => k_is); (case k7 => k_is); (case k8 => ktr_room); (case k9 => (refine' kp_binds ?kx ?ke; (case kx => k_in); (case ke => exact fun _ => rfl))); (case c5 => decide); (case kB => exact locs rfl); (case c2 => exact rfl); (case c3 => exact rfl); (case c4 => exact rfl); k_whole; intro g' L' h' FG' F' N' B' X' T'; (try dsimp only); (try k_fold)))
  all_goals
    walk_at "M steps"
    exact fin_exc ret (by assumption) (by assumption) hne))
end
/-- the first frame is left with an exception of an own class that lies in the ledger -/
theorem leave_own {M : Model} {A : Around} {E : Value → Shared → Prop} {s' : Shared} {base g : Heap} {outer : List Env} {L a e t C : Addr} {dd : Option Addr} {m : Str → Option Value} {name : Str} {scope : Scope} {cd : Value} {Q : Unit → Shared → Prop} {news : List (Addr × Obj)}
    (K : Below A base outer g) (F : Fr g L s'.heap m) (N : News g L s'.heap ((e, excObj C dd t) :: news)) (hne : ∀ q ∈ news, q.1 ≠ e)
    (hQ : ∀ h', RaisedN base outer e (.ref C) news h' → g.UpToSlots h' → Q () { s' with heap := h' }) (hk : scope.kind = .function := by rfl) :
    wpAny M (A.deeper (envOf name scope L a cd)) (leaving (envOf name scope L a cd) (.ref e)) Q E s' := out_of (by exact trivial : Hold (by
  have K' := K.push (name := name) (a := a) (cd := cd) F hk
  have D := N (e, _) (.head _)
  let as := e :: (envOf name scope L a cd :: outer).filterMap (·.frame)
  have hin : ∀ env ∈ (envOf name scope L a cd :: outer), ∀ b, env.frame = some b → b ∈ as := fun env he b hb => .tail _ (List.mem_filterMap.mpr ⟨env, he, hb⟩)
  have ben : base.get? e = none := fresh_of_stays K.stays D.2.2
  have nf : ∀ b, b ∈ (envOf name scope L a cd :: outer).filterMap (·.frame) → base.get? b = none := fun b hm => (K'.frames.mem hm).1
  have st : base.StaysIn (hideAll s'.heap as) := fun b o q => hideAll_get _ (K'.stays b o q) fun hm => by
    rcases List.mem_cons.mp hm with rfl | hm
    · rw [ben] at q; cases q
    · rw [nf _ hm] at q; cases q
  have hl : ∀ q ∈ news, (hideAll s'.heap as).get? q.1 = some q.2 ∧ base.get? q.1 = none := fun q hq => by
    have Dq := N q (.tail _ hq)
    refine ⟨hideAll_get _ Dq.1 fun hm => ?_, fresh_of_stays K.stays Dq.2.2⟩
    rcases List.mem_cons.mp hm with hm | hm
    · exact hne q hq hm
    · obtain ⟨env, he, hf⟩ := List.mem_filterMap.mp hm
      rcases List.mem_cons.mp he with rfl | he
      · exact Dq.2.1 (Option.some.inj hf).symm
      · obtain ⟨o, ho, _⟩ := (K.frames.mem (List.mem_filterMap.mpr ⟨env, he, hf⟩)).2
        rw [Dq.2.2] at ho; cases ho
  refine wpAny_leaving_firstW (a0 := .ref t) K'.stack (funFrames_hide K'.frames hin) rfl D.1 (fun b o hb => of_hideAll _ hb) (hideAll_none _ (.head _)) rfl rfl rfl fun h' hL => ?_
  obtain ⟨k1, ⟨_, _, k2⟩, k3, k4⟩ := hL
  exact hQ h' ⟨_, .ref t, st, hl, k1, hideAll_none _ (.head _), k2, k3⟩ ((Heap.UpToSlots.of_keeps F.keep).trans k4)))

end
/-! part Field -/
section
theorem atField : True := by
  w_top off
  exact trivial
def fitsP (worth : Int) (n : Nat) (way : Str) : Prop := -(2 ^ (8 * n - 1)) ≤ worth ∧ worth < (if way = Str.ofString "abs" then 2 ^ (8 * n) else 2 ^ (8 * n - 1))
section
variable {worth : Int} {n : Nat} {way : Str}
theorem eN (n : Nat) : Int.toNat (8 * (n : Int)) = 8 * n := by omega
theorem eM (n : Nat) : Int.toNat (8 * (n : Int) - 1) = 8 * n - 1 := by omega
theorem fit1 (a : (way == Str.ofString "abs") = true) (b : -2 ^ Int.toNat (8 * (n : Int) - 1) ≤ worth) (c : worth ≤ 2 ^ Int.toNat (8 * (n : Int)) - 1) : fitsP worth n way := by
  rw [eM] at b; rw [eN] at c; refine ⟨b, ?_⟩; rw [if_pos (beq_iff_eq.mp a)]; omega
theorem fit2 (a : (way == Str.ofString "abs") = false) (b : -2 ^ Int.toNat (8 * (n : Int) - 1) ≤ worth) (c : worth < 2 ^ Int.toNat (8 * (n : Int) - 1)) : fitsP worth n way := by
  rw [eM] at b c; refine ⟨b, ?_⟩; rw [if_neg (fun q => by rw [q] at a; simp at a)]; exact c
theorem nof1 (a : (way == Str.ofString "abs") = true) (c : ¬ worth ≤ 2 ^ Int.toNat (8 * (n : Int)) - 1) : ¬ fitsP worth n way := by
  rw [eN] at c; rintro ⟨_, q⟩; rw [if_pos (beq_iff_eq.mp a)] at q; omega
theorem nof2 (a : (way == Str.ofString "abs") = false) (c : ¬ worth < 2 ^ Int.toNat (8 * (n : Int) - 1)) : ¬ fitsP worth n way := by
  rw [eM] at c; rintro ⟨_, q⟩; rw [if_neg (fun q => by rw [q] at a; simp at a)] at q; exact c q
theorem nof3 (b : ¬ -2 ^ Int.toNat (8 * (n : Int) - 1) ≤ worth) : ¬ fitsP worth n way := by
  rw [eM] at b; rintro ⟨q, _⟩; exact b q
end
theorem exec_raiseX {prog : Program} {w : World} {A : Around} {E : Value → Shared → Prop} {s : Shared} {K : Frag} {h₀ : Heap} {env : Env} {e : Expr} {pos : Pos} {Q : Flow → Shared → Prop} (_ : K.In h₀) (hh : A.handled = none)
    (h : wpAny (model prog w) A (eval e env) (RaiseOk K E) E s) : wpAny (model prog w) A (exec (.Raise (some e) none pos) env) Q E s := exec_raise hh h
section
local macro_rules | `(tactic| walk_at "binaryOp LShift int int") => `(tactic| (k_here; (with_reducible refine shl1 ?k1 ?k2 ?_); (case k1 => omega); (case k2 => omega)))
local macro_rules | `(tactic| walk_at "call ref") => `(tactic| (k_here; (with_reducible show wpAny _ _ (call (Value.ref 101) [Value.int _ _, Value.int _ _]) _ _ _); k_dflt (refine' little_ok ?kH ?k9 ?k10 ?_; (case kH => walk_at "M here"); (case k9 => omega); (case k10 => omega); k_whole); intro b' t' h' tk' hb' F' N'))
local macro_rules | `(tactic| walk_at "call ref") => `(tactic| (k_here; (with_reducible show wpAny _ _ (call (Value.ref 52) [Value.str _ _]) _ _ _); k_dflt (refine' mint_ok ?kH (.inl rfl) ?_; (case kH => walk_at "M here"); k_whole); intro x' dd' t' h' tk' F' N' hne'))
local macro_rules | `(tactic| walk_at "RaiseOk ref") => `(tactic| (k_dflt (refine' raiseOk_intro ?k1 ?k2 ?k3 ?k4 ?k5 ?_; (case k1 => assumption); (case k2 => k_asm); (case k3 => assumption); (case k4 => exact .head _); (case k5 => k_is); k_whole)))
local macro_rules | `(tactic| walk_at "leaving ref") => `(tactic| (k_here; refine' leave_own ?k1 ?k2 ?k3 ?k4 ?_; (case k2 => assumption); (case k1 => assumption); (case k3 => assumption); (case k4 => assumption); k_whole; intro h' R' U'; (try dsimp only at R' U' ⊢)))
local macro_rules | `(tactic| walk_at "exec Raise some none") => `(tactic| (k_here; k_dflt (refine' exec_raiseX ?kX ?k1 ?_; (case kX => k_asm); (case k1 => exact rfl))))
set_option maxHeartbeats 8000000 in
theorem field_ok {w : World} {A : Around} {base h₀ : Heap} {l : List Env} {L : Addr} {m : Str → Option Value} {s : Shared} {Q E : Value → Shared → Prop} {news : List (Addr × Obj)} {worth : Int} {t1 t2 t3 : Tok} {n : Nat} {way : Str}
    (H : Here 12 w A base l h₀ L m s.heap news) (h1 : 1 ≤ n) (h8 : n ≤ 8)
    (ret : fitsP worth n way → ∀ b t h' tk', KBw.bInts b = digs worth n → Fr h₀ L h' m → News h₀ L h' news → Q (.bytes b t) { s with heap := h', toks := tk' })
    (exc : ¬ fitsP worth n way → ∀ e g h' tk', RaisedN base l e (.ref 52) news h' → Fr h₀ L g m → g.UpToSlots h' → E (.ref e) { s with heap := h', toks := tk' }) :
    wpAny (model PySem.Challenge.pw_nn0048_01 w) A (call (.ref 197) [.int worth t1, .int n t2, .str way t3]) Q E s := out_of (by exact trivial : Hold (by
  obtain ⟨e, el, B, F, X, N, T, hk, hd, hu⟩ := H
  subst e el
  refine wpAny_call ?_
  k_dflt ktr_enter
  walk_at "M steps"
  all_goals first
    | exact exc (nof1 (by assumption) (by assumption)) _ _ _ _ (by assumption) (by assumption) (by assumption)
    | exact exc (nof2 (by assumption) (by assumption)) _ _ _ _ (by assumption) (by assumption) (by assumption)
    | exact exc (nof3 (by assumption)) _ _ _ _ (by assumption) (by assumption) (by assumption)
    | exact ret (fit1 (by assumption) (by assumption) (by assumption)) _ _ _ _ (by assumption) (by assumption) (by assumption)
    | exact ret (fit2 (by assumption) (by assumption) (by assumption)) _ _ _ _ (by assumption) (by assumption) (by assumption)))
end

end
/-! part Data -/
section
theorem atData : True := by
  w_top off
  exact trivial
structure Sym where
  name : Str
  sect : Str
  worth : Int
structure Rel where
  sect : Str
  at_ : Nat
  width : Nat
  name : Str
  worth : Int
  way : Str
inductive All2 {α β : Type} (R : α → β → Prop) : List α → List β → Prop
  | nil : All2 R [] []
  | cons {a b as bs} : R a b → All2 R as bs → All2 R (a :: as) (b :: bs)
theorem All2.length {α β : Type} {R : α → β → Prop} {as : List α} {bs : List β} (h : All2 R as bs) : as.length = bs.length := by induction h <;> simp_all
theorem All2.get {α β : Type} {R : α → β → Prop} {as : List α} {bs : List β} (h : All2 R as bs) : ∀ {i : Nat} {a : α}, as[i]? = some a → ∃ b, bs[i]? = some b ∧ R a b := by
  induction h with
  | nil => intro i a q; simp at q
  | cons r _ ih =>
    intro i a q
    cases i with
    | zero => simp at q; subst q; exact ⟨_, by simp, r⟩
    | succ i => simp at q; obtain ⟨b, e, r'⟩ := ih q; exact ⟨b, by simpa using e, r'⟩
theorem All2.mono {α β : Type} {R S : α → β → Prop} (k : ∀ a b, R a b → S a b) {as : List α} {bs : List β} (h : All2 R as bs) : All2 S as bs := out_of (by exact trivial : Hold (by
  induction h with
  | nil => exact .nil
  | cons r _ ih => exact .cons (k _ _ r) ih))
theorem All2.snoc {α β : Type} {R : α → β → Prop} {as : List α} {bs : List β} (h : All2 R as bs) {a : α} {b : β} (r : R a b) : All2 R (as ++ [a]) (bs ++ [b]) := out_of (by exact trivial : Hold (by
  induction h with
  | nil => exact .cons r .nil
  | cons r' _ ih => exact .cons r' ih))
abbrev ent (w : World) (n : Str) (t : Tok) (v : Value) : DictEntry := ⟨PyData.keyHash w.params n, .str n t, v⟩
abbrev symDict (w : World) (t1 t2 t3 t4 : Tok) (a b c d : Value) : Obj := { cls := .type "dict", data := .dict #[ent w (Str.ofString "name") t1 a, ent w (Str.ofString "section") t2 b, ent w (Str.ofString "worth") t3 c, ent w (Str.ofString "is_global") t4 d] 4 }
abbrev relDict (w : World) (t1 t2 t3 t4 t5 t6 : Tok) (a b c d e f : Value) : Obj := { cls := .type "dict", data := .dict #[ent w (Str.ofString "section") t1 a, ent w (Str.ofString "at") t2 b, ent w (Str.ofString "width") t3 c, ent w (Str.ofString "name") t4 d, ent w (Str.ofString "worth") t5 e, ent w (Str.ofString "way") t6 f] 6 }
abbrev asmDict (w : World) (t1 t2 t3 t4 : Tok) (a b c d : Value) : Obj := { cls := .type "dict", data := .dict #[ent w (Str.ofString "sections") t1 a, ent w (Str.ofString "symbols") t2 b, ent w (Str.ofString "relocations") t3 c, ent w (Str.ofString "origin") t4 d] 4 }
def SymAt (w : World) (news : List (Addr × Obj)) (v : Value) (y : Sym) : Prop := ∃ x dx t1 t2 t3 t4 u1 u2 u3, v = .ref x ∧ (x, instObj 125 dx) ∈ news ∧ (dx, symDict w t1 t2 t3 t4 (.str y.name u1) (.str y.sect u2) (.int y.worth u3) (.bool false)) ∈ news
def RelAt (w : World) (news : List (Addr × Obj)) (v : Value) (y : Rel) : Prop := ∃ x dx t1 t2 t3 t4 t5 t6 u1 u2 u3 u4 u5 u6, v = .ref x ∧ (x, instObj 153 dx) ∈ news ∧ (dx, relDict w t1 t2 t3 t4 t5 t6 (.str y.sect u1) (.int y.at_ u2) (.int y.width u3) (.str y.name u4) (.int y.worth u5) (.str y.way u6)) ∈ news
theorem SymAt.keeps {w : World} {n n' : List (Addr × Obj)} (k : ∀ p ∈ n, p ∈ n') {v : Value} {y : Sym} (h : SymAt w n v y) : SymAt w n' v y := by
  obtain ⟨x, dx, t1, t2, t3, t4, u1, u2, u3, e, a, b⟩ := h; exact ⟨x, dx, t1, t2, t3, t4, u1, u2, u3, e, k _ a, k _ b⟩
theorem RelAt.keeps {w : World} {n n' : List (Addr × Obj)} (k : ∀ p ∈ n, p ∈ n') {v : Value} {y : Rel} (h : RelAt w n v y) : RelAt w n' v y := by
  obtain ⟨x, dx, t1, t2, t3, t4, t5, t6, u1, u2, u3, u4, u5, u6, e, a, b⟩ := h; exact ⟨x, dx, t1, t2, t3, t4, t5, t6, u1, u2, u3, u4, u5, u6, e, k _ a, k _ b⟩
def FindRes (w : World) (news : List (Addr × Obj)) (v : Value) : Option Sym → Prop
  | none => v = .none
  | some y => SymAt w news v y

end
/-! part Find -/
section
theorem atFind : True := by
  w_top off
  exact trivial
def findJ (name : Str) (u : Tok) (syms : List Sym) (news : List (Addr × Obj)) (i : Nat) (m : Str → Option Value) (ns : List (Addr × Obj)) : Prop :=
  m (Str.ofString "name") = some (.str name u) ∧ (∀ y ∈ syms.take i, (y.name == name) = false) ∧ ns = news
theorem find_none {name : Str} {syms : List Sym} (h : ∀ y ∈ syms, (y.name == name) = false) : syms.find? (fun y => y.name == name) = none := List.find?_eq_none.mpr fun y hy => by simp [h y hy]
theorem find_some {name : Str} : ∀ {syms : List Sym} {i : Nat} {y : Sym}, (∀ z ∈ syms.take i, (z.name == name) = false) → syms[i]? = some y → (y.name == name) = true → syms.find? (fun y => y.name == name) = some y
  | [], _, _, _, q, _ => by simp at q
  | z :: r, 0, y, _, q, e => by simp at q; subst q; rw [List.find?_cons]; simp [e]
  | z :: r, i + 1, y, h, q, e => by
    rw [List.find?_cons, h z (by simp)]
    exact find_some (fun w hw => h w (by rw [List.take_succ_cons]; exact .tail _ hw)) (by simpa using q) e
theorem take_succ_all {name : Str} {syms : List Sym} {i : Nat} {y : Sym} (h : ∀ z ∈ syms.take i, (z.name == name) = false) (q : syms[i]? = some y) (e : (y.name == name) = false) : ∀ z ∈ syms.take (i + 1), (z.name == name) = false := out_of (by exact trivial : Hold (by
  intro z hz
  rw [List.take_succ, q] at hz
  rcases List.mem_append.mp hz with hz | hz
  · exact h z hz
  · simp at hz; subst hz; exact e))
theorem turn_ret {h₀ : Heap} {L : Addr} {own : List (Addr × Obj)} {J : (Str → Option Value) → List (Addr × Obj) → Prop} {s₁ s₂ : Shared} {Q : Flow → Shared → Prop} {v : Value} (h : Q (.ret v) s₂) : TurnPost h₀ L own J s₁ Q (.ret v) s₂ := h
set_option maxHeartbeats 8000000 in
theorem find_ok {w : World} {A : Around} {base h₀ : Heap} {l : List Env} {L : Addr} {m : Str → Option Value} {s : Shared} {Q E : Value → Shared → Prop} {news : List (Addr × Obj)} {asm da D Y R O : Addr} {t1 t2 t3 t4 u : Tok} {name : Str} {vs : List Value} {c : Nat} {syms : List Sym}
    (H : Here 3 w A base l h₀ L m s.heap news) (hx : (asm, instObj 186 da) ∈ news) (hd : (da, asmDict w t1 t2 t3 t4 (.ref D) (.ref Y) (.ref R) (.ref O)) ∈ news) (hY : (Y, PySem.W.listOf vs.toArray c) ∈ news) (hs : All2 (SymAt w news) vs syms)
    (ret : ∀ v h' tk', FindRes w news v (syms.find? fun y => y.name == name) → Fr h₀ L h' m → News h₀ L h' news → Q v { s with heap := h', toks := tk' }) :
    wpAny (model PySem.Challenge.pw_nn0048_01 w) A (call (.ref 183) [.ref asm, .str name u]) Q E s := out_of (by exact trivial : Hold (by
  obtain ⟨e, el, B, F, X, N, T, hk, hd, hu⟩ := H
  subst e el
  refine wpAny_call ?_
  k_dflt ktr_enter
  walk_at "M steps"
  refine forList ?eL (findJ name u syms news) rfl (by assumption) (by assumption) hY (fun i m n hj => hj.2.2 ▸ hY) ⟨rfl, by simp, rfl⟩ ?turn ?done
  case eL => rfl
  case turn =>
    rintro i v m₁ news₁ h tk own hi ⟨ho, hz, rfl⟩ off F1 N1
    rw [List.getElem?_toArray] at hi
    obtain ⟨y, hy, hv⟩ := hs.get hi
    have hv' := hv
    obtain ⟨x, dx, s1, s2, s3, s4, u1, u2, u3, rfl, hx1, hx2⟩ := hv
    replace hx1 := List.mem_append_left own hx1
    replace hx2 := List.mem_append_left own hx2
    replace F1 := pinT F1 ho (by decide)
    walk_at "M steps"
    · refine turn_ret ?_
      dsimp only
      walk_at "M steps"
      refine ret _ _ _ (by rw [find_some hz hy (by assumption)]; exact hv') (by assumption) (cb_drop (by assumption) fun p hp => List.mem_append_left _ hp)
    · exact turn_end (by assumption) (by assumption) rfl off ⟨by with_unfolding_all rfl, take_succ_all hz hy (by assumption), rfl⟩
  case done =>
    rintro m₁ news₁ h tk ⟨ho, hz, rfl⟩ F1 N1
    rw [List.size_toArray, hs.length, List.take_length] at hz
    walk_at "M steps"
    exact ret _ _ _ (by rw [find_none hz]; exact rfl) (by assumption) (by assumption)))
section
variable {w : World} {A : Around} {base h₀ : Heap} {l : List Env} {L : Addr} {m : Str → Option Value} {s : Shared} {Q E : Value → Shared → Prop} {news : List (Addr × Obj)} {asm da D Y R O : Addr} {t1 t2 t3 t4 u : Tok} {name : Str} {vs : List Value} {c : Nat} {syms : List Sym}
theorem find_ok0 (H : Here 3 w A base l h₀ L m s.heap news) (hf : syms.find? (fun y => y.name == name) = none) (hx : (asm, instObj 186 da) ∈ news) (hd : (da, asmDict w t1 t2 t3 t4 (.ref D) (.ref Y) (.ref R) (.ref O)) ∈ news) (hY : (Y, PySem.W.listOf vs.toArray c) ∈ news) (hs : All2 (SymAt w news) vs syms)
    (ret : ∀ h' tk', Fr h₀ L h' m → News h₀ L h' news → Q .none { s with heap := h', toks := tk' }) :
    wpAny (model PySem.Challenge.pw_nn0048_01 w) A (call (.ref 183) [.ref asm, .str name u]) Q E s :=
  find_ok H hx hd hY hs fun v h' tk' hv F N => by rw [hf] at hv; cases hv; exact ret h' tk' F N
theorem find_ok1 {y : Sym} (H : Here 3 w A base l h₀ L m s.heap news) (hf : syms.find? (fun y => y.name == name) = some y) (hx : (asm, instObj 186 da) ∈ news) (hd : (da, asmDict w t1 t2 t3 t4 (.ref D) (.ref Y) (.ref R) (.ref O)) ∈ news) (hY : (Y, PySem.W.listOf vs.toArray c) ∈ news) (hs : All2 (SymAt w news) vs syms)
    (ret : ∀ h' tk' x dx t1 t2 t3 t4 u1 u2 u3, Fr h₀ L h' m → News h₀ L h' news → (x, instObj 125 dx) ∈ news → (dx, symDict w t1 t2 t3 t4 (.str y.name u1) (.str y.sect u2) (.int y.worth u3) (.bool false)) ∈ news → Q (.ref x) { s with heap := h', toks := tk' }) :
    wpAny (model PySem.Challenge.pw_nn0048_01 w) A (call (.ref 183) [.ref asm, .str name u]) Q E s :=
  find_ok H hx hd hY hs fun v h' tk' hv F N => by
    rw [hf] at hv
    obtain ⟨x, dx, t1, t2, t3, t4, u1, u2, u3, rfl, a, b⟩ := hv
    exact ret h' tk' x dx t1 t2 t3 t4 u1 u2 u3 F N a b
end
def placeP (names : List Str) (bf : Str → Int) (syms : List Sym) (name : Str) : Option Int :=
  if name = Str.ofString "" then some 0 else if name ∈ names then some (bf name) else
    match syms.find? (fun y => y.name == name) with
    | none => none
    | some y => if y.sect = Str.ofString "" then none else if y.sect = Str.ofString "*" then some y.worth else some (bf y.sect + y.worth)

end
/-! part Place -/
section
theorem atPlace : True := by
  w_top off
  exact trivial
local macro_rules | `(tactic| walk_at "pad 0") => `(tactic| skip)
local macro_rules | `(tactic| walk_at "pad 1") => `(tactic| skip)
local macro_rules | `(tactic| walk_at "pad 2") => `(tactic| skip)
local macro_rules | `(tactic| walk_at "pad 3") => `(tactic| skip)
section
local macro_rules | `(tactic| walk_at "RaiseOk ref") => `(tactic| (k_dflt (refine' raiseOk_intro ?k1 ?k2 ?k3 ?k4 ?k5 ?_; (case k1 => assumption); (case k2 => k_asm); (case k3 => assumption); (case k4 => exact .head _); (case k5 => k_is); k_whole)))
local macro_rules | `(tactic| walk_at "leaving ref") => `(tactic| (k_here; refine' leave_own ?k1 ?k2 ?k3 ?k4 ?_; (case k2 => assumption); (case k1 => assumption); (case k3 => assumption); (case k4 => assumption); k_whole; intro h' R' U'; (try dsimp only at R' U' ⊢)))
local macro_rules | `(tactic| walk_at "exec Raise some none") => `(tactic| (k_here; k_dflt (refine' exec_raiseX ?kX ?k1 ?_; (case kX => k_asm); (case k1 => exact rfl))))
set_option maxHeartbeats 8000000 in
theorem place_ok {w : World} {A : Around} {base h₀ : Heap} {l : List Env} {L : Addr} {m : Str → Option Value} {s : Shared} {Q E : Value → Shared → Prop} {news : List (Addr × Obj)} {asm da D Y R O B : Addr} {t1 t2 t3 t4 u : Tok} {name : Str} {vs : List Value} {c : Nat} {syms : List Sym} {oS oB : Obj} {kS kB : List (Str × Value)} {names : List Str} {bf : Str → Int}
    (H : Here 8 w A base l h₀ L m s.heap news) (hx : (asm, instObj 186 da) ∈ news) (hda : (da, asmDict w t1 t2 t3 t4 (.ref D) (.ref Y) (.ref R) (.ref O)) ∈ news) (hY : (Y, PySem.W.listOf vs.toArray c) ∈ news) (hs : All2 (SymAt w news) vs syms)
    (hS : (D, oS) ∈ news) (hSd : oS.IsDictOf (PySem.strKind PySem.Challenge.pw_nn0048_01 w) kS) (hSl : (D == sysModules) = false) (hin : ∀ k, (valueAt kS k).isSome = decide (k ∈ names))
    (hB : (B, oB) ∈ news) (hBd : oB.IsDictOf (PySem.strKind PySem.Challenge.pw_nn0048_01 w) kB) (hbf : ∀ k ∈ names, ∃ t, valueAt kB k = some (.int (bf k) t)) (hsy : ∀ y ∈ syms, y.sect = Str.ofString "" ∨ y.sect = Str.ofString "*" ∨ y.sect ∈ names)
    (ret : ∀ i, placeP names bf syms name = some i → ∀ t h' tk', Fr h₀ L h' m → News h₀ L h' news → Q (.int i t) { s with heap := h', toks := tk' })
    (exc : placeP names bf syms name = none → ∀ e g h' tk', RaisedN base l e (.ref 64) news h' → Fr h₀ L g m → g.UpToSlots h' → E (.ref e) { s with heap := h', toks := tk' }) :
    wpAny (model PySem.Challenge.pw_nn0048_01 w) A (call (.ref 211) [.ref asm, .ref B, .str name u]) Q E s := out_of (by exact trivial : Hold (by
  obtain ⟨e, el, Bl, F, X, N, T, hk, hd, hu⟩ := H
  subst e el
  refine wpAny_call ?_
  by_cases h0 : name = Str.ofString ""
  · have hp : placeP names bf syms name = some 0 := by unfold placeP; rw [if_pos h0]
    subst h0
    k_dflt ktr_enter
    ((try ((show let Q' := _; let E' := _; wpAny _ _ _ Q' E' _); intro Q' E')); repeat' (first | (k_unfold; (try dsimp only)) | ((with_reducible show wpAny _ _ (subscriptTail _ _ _ _) _ _ _); first | ((k_here; (with_reducible show wpAny _ _ (subscriptTail _ _ (Value.ref _) (Value.str _ _)) _ _ _); k_dflt (refine' kda_item (knd := PySem.strKind _ _) ?k1 ?k2 ?k3 (strKind_is _ _ _ _) ?k5 ?_; (case k1 => k_asm); (case k2 => assumption); (case k3 => assumption); (case k5 => assumption))))) | ((with_reducible show wpAny _ _ (compareOp _ _ _) _ _ _); first | ((with_reducible show wpAny _ _ (compareOp CmpOp.In (Value.str _ _) (Value.ref _)) _ _ _); (k_here; k_dflt (refine' kda_in (knd := PySem.strKind _ _) ?k1 ?k2 ?k3 ?k4 (strKind_is _ _ _ _) _ ?k5 ?_; (case k1 => k_asm); (case k2 => assumption); (case k3 => assumption); (case k4 => assumption); (case k5 => assumption))))) | ((with_reducible show wpAny _ _ (call _ _) _ _ _); first | ((k_here; (with_reducible show wpAny _ _ (call (Value.ref 183) [Value.ref _, Value.str _ _]) _ _ _); k_dflt (refine' find_ok1 ?kH ?k9 ?k10 ?k11 ?k12 ?k13 ?_; (case k9 => assumption); (case kH => walk_at "M here"); (case k10 => assumption); (case k11 => assumption); (case k12 => assumption); (case k13 => assumption); k_whole); intro h' tk' x' dx' s1' s2' s3' s4' u1' u2' u3' F' N' hx' hdx')) | ((k_here; (with_reducible show wpAny _ _ (call (Value.ref 183) [Value.ref _, Value.str _ _]) _ _ _); k_dflt (refine' find_ok0 ?kH ?k9 ?k10 ?k11 ?k12 ?k13 ?_; (case k9 => assumption); (case kH => walk_at "M here"); (case k10 => assumption); (case k11 => assumption); (case k12 => assumption); (case k13 => assumption); k_whole); intro h' tk' F' N')) | ((k_here; (with_reducible show wpAny _ _ (call (Value.ref 64) [Value.str _ _]) _ _ _); k_dflt (refine' mint_ok ?kH (.inr rfl) ?_; (case kH => walk_at "M here"); k_whole); intro x' dd' t' h' tk' F' N' hne'))) | ((fail_if_success (with_reducible show wpAny _ _ (pyIter _) _ _ _)); walk1) | (dsimp only; (fail_if_success (with_reducible show wpAny _ _ (pyIter _) _ _ _)); walk1) | (leave1; walk_say "STEP leave1"; try dsimp only) | fail "no step"))
    exact ret _ hp _ _ _ (by assumption) (by assumption)
  have h0' : (name == Str.ofString "") = false := by simp [h0]
  by_cases hn : name ∈ names
  · have hp : placeP names bf syms name = some (bf name) := by unfold placeP; rw [if_neg h0, if_pos hn]
    have hi : (valueAt kS name).isSome = true := by rw [hin]; simp [hn]
    obtain ⟨tb, hb⟩ := hbf _ hn
    k_dflt ktr_enter
    ((try ((show let Q' := _; let E' := _; wpAny _ _ _ Q' E' _); intro Q' E')); repeat' (first | (k_unfold; (try dsimp only)) | ((with_reducible show wpAny _ _ (subscriptTail _ _ _ _) _ _ _); first | ((k_here; (with_reducible show wpAny _ _ (subscriptTail _ _ (Value.ref _) (Value.str _ _)) _ _ _); k_dflt (refine' kda_item (knd := PySem.strKind _ _) ?k1 ?k2 ?k3 (strKind_is _ _ _ _) ?k5 ?_; (case k1 => k_asm); (case k2 => assumption); (case k3 => assumption); (case k5 => assumption))))) | ((with_reducible show wpAny _ _ (compareOp _ _ _) _ _ _); first | ((with_reducible show wpAny _ _ (compareOp CmpOp.In (Value.str _ _) (Value.ref _)) _ _ _); (k_here; k_dflt (refine' kda_in (knd := PySem.strKind _ _) ?k1 ?k2 ?k3 ?k4 (strKind_is _ _ _ _) _ ?k5 ?_; (case k1 => k_asm); (case k2 => assumption); (case k3 => assumption); (case k4 => assumption); (case k5 => assumption))))) | ((with_reducible show wpAny _ _ (call _ _) _ _ _); first | ((k_here; (with_reducible show wpAny _ _ (call (Value.ref 183) [Value.ref _, Value.str _ _]) _ _ _); k_dflt (refine' find_ok1 ?kH ?k9 ?k10 ?k11 ?k12 ?k13 ?_; (case k9 => assumption); (case kH => walk_at "M here"); (case k10 => assumption); (case k11 => assumption); (case k12 => assumption); (case k13 => assumption); k_whole); intro h' tk' x' dx' s1' s2' s3' s4' u1' u2' u3' F' N' hx' hdx')) | ((k_here; (with_reducible show wpAny _ _ (call (Value.ref 183) [Value.ref _, Value.str _ _]) _ _ _); k_dflt (refine' find_ok0 ?kH ?k9 ?k10 ?k11 ?k12 ?k13 ?_; (case k9 => assumption); (case kH => walk_at "M here"); (case k10 => assumption); (case k11 => assumption); (case k12 => assumption); (case k13 => assumption); k_whole); intro h' tk' F' N')) | ((k_here; (with_reducible show wpAny _ _ (call (Value.ref 64) [Value.str _ _]) _ _ _); k_dflt (refine' mint_ok ?kH (.inr rfl) ?_; (case kH => walk_at "M here"); k_whole); intro x' dd' t' h' tk' F' N' hne'))) | ((fail_if_success (with_reducible show wpAny _ _ (pyIter _) _ _ _)); walk1) | (dsimp only; (fail_if_success (with_reducible show wpAny _ _ (pyIter _) _ _ _)); walk1) | (leave1; walk_say "STEP leave1"; try dsimp only) | fail "no step"))
    exact ret _ hp _ _ _ (by assumption) (by assumption)
  have hi : (valueAt kS name).isSome = false := by rw [hin]; simp [hn]
  cases hf : syms.find? (fun y => y.name == name) with
  | none =>
    have hp : placeP names bf syms name = none := by unfold placeP; rw [if_neg h0, if_neg hn, hf]
    k_dflt ktr_enter
    ((try ((show let Q' := _; let E' := _; wpAny _ _ _ Q' E' _); intro Q' E')); repeat' (first | (k_unfold; (try dsimp only)) | ((with_reducible show wpAny _ _ (subscriptTail _ _ _ _) _ _ _); first | ((k_here; (with_reducible show wpAny _ _ (subscriptTail _ _ (Value.ref _) (Value.str _ _)) _ _ _); k_dflt (refine' kda_item (knd := PySem.strKind _ _) ?k1 ?k2 ?k3 (strKind_is _ _ _ _) ?k5 ?_; (case k1 => k_asm); (case k2 => assumption); (case k3 => assumption); (case k5 => assumption))))) | ((with_reducible show wpAny _ _ (compareOp _ _ _) _ _ _); first | ((with_reducible show wpAny _ _ (compareOp CmpOp.In (Value.str _ _) (Value.ref _)) _ _ _); (k_here; k_dflt (refine' kda_in (knd := PySem.strKind _ _) ?k1 ?k2 ?k3 ?k4 (strKind_is _ _ _ _) _ ?k5 ?_; (case k1 => k_asm); (case k2 => assumption); (case k3 => assumption); (case k4 => assumption); (case k5 => assumption))))) | ((with_reducible show wpAny _ _ (call _ _) _ _ _); first | ((k_here; (with_reducible show wpAny _ _ (call (Value.ref 183) [Value.ref _, Value.str _ _]) _ _ _); k_dflt (refine' find_ok1 ?kH ?k9 ?k10 ?k11 ?k12 ?k13 ?_; (case k9 => assumption); (case kH => walk_at "M here"); (case k10 => assumption); (case k11 => assumption); (case k12 => assumption); (case k13 => assumption); k_whole); intro h' tk' x' dx' s1' s2' s3' s4' u1' u2' u3' F' N' hx' hdx')) | ((k_here; (with_reducible show wpAny _ _ (call (Value.ref 183) [Value.ref _, Value.str _ _]) _ _ _); k_dflt (refine' find_ok0 ?kH ?k9 ?k10 ?k11 ?k12 ?k13 ?_; (case k9 => assumption); (case kH => walk_at "M here"); (case k10 => assumption); (case k11 => assumption); (case k12 => assumption); (case k13 => assumption); k_whole); intro h' tk' F' N')) | ((k_here; (with_reducible show wpAny _ _ (call (Value.ref 64) [Value.str _ _]) _ _ _); k_dflt (refine' mint_ok ?kH (.inr rfl) ?_; (case kH => walk_at "M here"); k_whole); intro x' dd' t' h' tk' F' N' hne'))) | ((fail_if_success (with_reducible show wpAny _ _ (pyIter _) _ _ _)); walk1) | (dsimp only; (fail_if_success (with_reducible show wpAny _ _ (pyIter _) _ _ _)); walk1) | (leave1; walk_say "STEP leave1"; try dsimp only) | fail "no step"))
    exact exc hp _ _ _ _ (by assumption) (by assumption) (by assumption)
  | some y =>
    have hy := hsy y (List.mem_of_find?_eq_some hf)
    by_cases e1 : y.sect = Str.ofString ""
    · have hp : placeP names bf syms name = none := by unfold placeP; rw [if_neg h0, if_neg hn, hf]; exact if_pos e1
      k_dflt ktr_enter
      ((try ((show let Q' := _; let E' := _; wpAny _ _ _ Q' E' _); intro Q' E')); repeat' (first | (k_unfold; (try dsimp only)) | ((with_reducible show wpAny _ _ (subscriptTail _ _ _ _) _ _ _); first | ((k_here; (with_reducible show wpAny _ _ (subscriptTail _ _ (Value.ref _) (Value.str _ _)) _ _ _); k_dflt (refine' kda_item (knd := PySem.strKind _ _) ?k1 ?k2 ?k3 (strKind_is _ _ _ _) ?k5 ?_; (case k1 => k_asm); (case k2 => assumption); (case k3 => assumption); (case k5 => assumption))))) | ((with_reducible show wpAny _ _ (compareOp _ _ _) _ _ _); first | ((with_reducible show wpAny _ _ (compareOp CmpOp.In (Value.str _ _) (Value.ref _)) _ _ _); (k_here; k_dflt (refine' kda_in (knd := PySem.strKind _ _) ?k1 ?k2 ?k3 ?k4 (strKind_is _ _ _ _) _ ?k5 ?_; (case k1 => k_asm); (case k2 => assumption); (case k3 => assumption); (case k4 => assumption); (case k5 => assumption))))) | ((with_reducible show wpAny _ _ (call _ _) _ _ _); first | ((k_here; (with_reducible show wpAny _ _ (call (Value.ref 183) [Value.ref _, Value.str _ _]) _ _ _); k_dflt (refine' find_ok1 ?kH ?k9 ?k10 ?k11 ?k12 ?k13 ?_; (case k9 => assumption); (case kH => walk_at "M here"); (case k10 => assumption); (case k11 => assumption); (case k12 => assumption); (case k13 => assumption); k_whole); intro h' tk' x' dx' s1' s2' s3' s4' u1' u2' u3' F' N' hx' hdx')) | ((k_here; (with_reducible show wpAny _ _ (call (Value.ref 183) [Value.ref _, Value.str _ _]) _ _ _); k_dflt (refine' find_ok0 ?kH ?k9 ?k10 ?k11 ?k12 ?k13 ?_; (case k9 => assumption); (case kH => walk_at "M here"); (case k10 => assumption); (case k11 => assumption); (case k12 => assumption); (case k13 => assumption); k_whole); intro h' tk' F' N')) | ((k_here; (with_reducible show wpAny _ _ (call (Value.ref 64) [Value.str _ _]) _ _ _); k_dflt (refine' mint_ok ?kH (.inr rfl) ?_; (case kH => walk_at "M here"); k_whole); intro x' dd' t' h' tk' F' N' hne'))) | ((fail_if_success (with_reducible show wpAny _ _ (pyIter _) _ _ _)); walk1) | (dsimp only; (fail_if_success (with_reducible show wpAny _ _ (pyIter _) _ _ _)); walk1) | (leave1; walk_say "STEP leave1"; try dsimp only) | fail "no step"))
      all_goals first
        | exact absurd e1 (ne_of_beq_false (by assumption))
        | exact exc hp _ _ _ _ (by assumption) (by assumption) (by assumption)
    by_cases e2 : y.sect = Str.ofString "*"
    · have hp : placeP names bf syms name = some y.worth := by unfold placeP; rw [if_neg h0, if_neg hn, hf]; exact (if_neg e1).trans (if_pos e2)
      k_dflt ktr_enter
      ((try ((show let Q' := _; let E' := _; wpAny _ _ _ Q' E' _); intro Q' E')); repeat' (first | (k_unfold; (try dsimp only)) | ((with_reducible show wpAny _ _ (subscriptTail _ _ _ _) _ _ _); first | ((k_here; (with_reducible show wpAny _ _ (subscriptTail _ _ (Value.ref _) (Value.str _ _)) _ _ _); k_dflt (refine' kda_item (knd := PySem.strKind _ _) ?k1 ?k2 ?k3 (strKind_is _ _ _ _) ?k5 ?_; (case k1 => k_asm); (case k2 => assumption); (case k3 => assumption); (case k5 => assumption))))) | ((with_reducible show wpAny _ _ (compareOp _ _ _) _ _ _); first | ((with_reducible show wpAny _ _ (compareOp CmpOp.In (Value.str _ _) (Value.ref _)) _ _ _); (k_here; k_dflt (refine' kda_in (knd := PySem.strKind _ _) ?k1 ?k2 ?k3 ?k4 (strKind_is _ _ _ _) _ ?k5 ?_; (case k1 => k_asm); (case k2 => assumption); (case k3 => assumption); (case k4 => assumption); (case k5 => assumption))))) | ((with_reducible show wpAny _ _ (call _ _) _ _ _); first | ((k_here; (with_reducible show wpAny _ _ (call (Value.ref 183) [Value.ref _, Value.str _ _]) _ _ _); k_dflt (refine' find_ok1 ?kH ?k9 ?k10 ?k11 ?k12 ?k13 ?_; (case k9 => assumption); (case kH => walk_at "M here"); (case k10 => assumption); (case k11 => assumption); (case k12 => assumption); (case k13 => assumption); k_whole); intro h' tk' x' dx' s1' s2' s3' s4' u1' u2' u3' F' N' hx' hdx')) | ((k_here; (with_reducible show wpAny _ _ (call (Value.ref 183) [Value.ref _, Value.str _ _]) _ _ _); k_dflt (refine' find_ok0 ?kH ?k9 ?k10 ?k11 ?k12 ?k13 ?_; (case k9 => assumption); (case kH => walk_at "M here"); (case k10 => assumption); (case k11 => assumption); (case k12 => assumption); (case k13 => assumption); k_whole); intro h' tk' F' N')) | ((k_here; (with_reducible show wpAny _ _ (call (Value.ref 64) [Value.str _ _]) _ _ _); k_dflt (refine' mint_ok ?kH (.inr rfl) ?_; (case kH => walk_at "M here"); k_whole); intro x' dd' t' h' tk' F' N' hne'))) | ((fail_if_success (with_reducible show wpAny _ _ (pyIter _) _ _ _)); walk1) | (dsimp only; (fail_if_success (with_reducible show wpAny _ _ (pyIter _) _ _ _)); walk1) | (leave1; walk_say "STEP leave1"; try dsimp only) | fail "no step"))
      all_goals first
        | exact absurd e2 (ne_of_beq_false (by assumption))
        | exact absurd (beq_iff_eq.mp (by assumption)) e1
        | exact ret _ hp _ _ _ (by assumption) (by assumption)
    obtain ⟨tb, hb⟩ := hbf y.sect (by rcases hy with h | h | h; exact absurd h e1; exact absurd h e2; exact h)
    have hp : placeP names bf syms name = some (bf y.sect + y.worth) := by unfold placeP; rw [if_neg h0, if_neg hn, hf]; exact (if_neg e1).trans (if_neg e2)
    k_dflt ktr_enter
    ((try ((show let Q' := _; let E' := _; wpAny _ _ _ Q' E' _); intro Q' E')); repeat' (first | (k_unfold; (try dsimp only)) | ((with_reducible show wpAny _ _ (subscriptTail _ _ _ _) _ _ _); first | ((k_here; (with_reducible show wpAny _ _ (subscriptTail _ _ (Value.ref _) (Value.str _ _)) _ _ _); k_dflt (refine' kda_item (knd := PySem.strKind _ _) ?k1 ?k2 ?k3 (strKind_is _ _ _ _) ?k5 ?_; (case k1 => k_asm); (case k2 => assumption); (case k3 => assumption); (case k5 => assumption))))) | ((with_reducible show wpAny _ _ (compareOp _ _ _) _ _ _); first | ((with_reducible show wpAny _ _ (compareOp CmpOp.In (Value.str _ _) (Value.ref _)) _ _ _); (k_here; k_dflt (refine' kda_in (knd := PySem.strKind _ _) ?k1 ?k2 ?k3 ?k4 (strKind_is _ _ _ _) _ ?k5 ?_; (case k1 => k_asm); (case k2 => assumption); (case k3 => assumption); (case k4 => assumption); (case k5 => assumption))))) | ((with_reducible show wpAny _ _ (call _ _) _ _ _); first | ((k_here; (with_reducible show wpAny _ _ (call (Value.ref 183) [Value.ref _, Value.str _ _]) _ _ _); k_dflt (refine' find_ok1 ?kH ?k9 ?k10 ?k11 ?k12 ?k13 ?_; (case k9 => assumption); (case kH => walk_at "M here"); (case k10 => assumption); (case k11 => assumption); (case k12 => assumption); (case k13 => assumption); k_whole); intro h' tk' x' dx' s1' s2' s3' s4' u1' u2' u3' F' N' hx' hdx')) | ((k_here; (with_reducible show wpAny _ _ (call (Value.ref 183) [Value.ref _, Value.str _ _]) _ _ _); k_dflt (refine' find_ok0 ?kH ?k9 ?k10 ?k11 ?k12 ?k13 ?_; (case k9 => assumption); (case kH => walk_at "M here"); (case k10 => assumption); (case k11 => assumption); (case k12 => assumption); (case k13 => assumption); k_whole); intro h' tk' F' N')) | ((k_here; (with_reducible show wpAny _ _ (call (Value.ref 64) [Value.str _ _]) _ _ _); k_dflt (refine' mint_ok ?kH (.inr rfl) ?_; (case kH => walk_at "M here"); k_whole); intro x' dd' t' h' tk' F' N' hne'))) | ((fail_if_success (with_reducible show wpAny _ _ (pyIter _) _ _ _)); walk1) | (dsimp only; (fail_if_success (with_reducible show wpAny _ _ (pyIter _) _ _ _)); walk1) | (leave1; walk_say "STEP leave1"; try dsimp only) | fail "no step"))
    all_goals first
      | exact absurd (beq_iff_eq.mp (by assumption)) e1
      | exact absurd (beq_iff_eq.mp (by assumption)) e2
      | exact ret _ hp _ _ _ (by assumption) (by assumption)))
end

end
/-! part Put -/
section
theorem atPut : True := by
  w_top off
  exact trivial
section
variable {prog : Program} {w : World} {A : Around} {E : Value → Shared → Prop} {s : Shared} {h₀ : Heap} {L : Addr} {m : Str → Option Value} {news : List (Addr × Obj)} {Q : Value → Shared → Prop} {b c : Array UInt8} {t u : Tok} {value slice : PySem.Expr}
theorem head_sl {i : Nat} (F : Fr h₀ L s.heap m) (N : News h₀ L s.heap news) (hz : (KBw.bInts b).length ≤ 1000)
    (h : ∀ b' h' t' k, Fr h₀ L h' m → News h₀ L h' news → KBw.bInts b' = (KBw.bInts b).take i → Q (.bytes b' t') { s with heap := h', toks := k })
    (hs : subscripted slice false (.bytes b t) (.ref s.heap.objs.size) = operate [.ref s.heap.objs.size, .bytes b t] (getItem (.bytes b t) (.ref s.heap.objs.size)) := by with_unfolding_all rfl)
    (ht : ∀ r, letTemporaryGo value (.bytes b t) r = pure () := by intro _; with_unfolding_all rfl) :
    wpAny (model prog w) A (subscriptTail value slice (.bytes b t) (.ref s.heap.objs.size)) Q E { s with heap := s.heap.push { cls := .type "slice", data := .fields #[.none, .int i u, .none] } } :=
  KBc.slice_K F N rfl .none (.int i u) (by omega) (fun h' t' k F' N' e => h _ h' t' k F' N' (by
    rw [e]
    show (List.drop 0 (KBw.bInts b)).take (clipAt (KBw.bInts b).length (i : Int) - 0) = _
    rw [List.drop_zero, Nat.sub_zero, clipAt_nat]
    rcases Nat.le_total i (KBw.bInts b).length with q | q
    · rw [Nat.min_eq_left q]
    · rw [Nat.min_eq_right q, List.take_length, List.take_of_length_le q])) hs ht
theorem tail_sl {i : Nat} {j : Int} (hj : j = i) (F : Fr h₀ L s.heap m) (N : News h₀ L s.heap news) (hz : (KBw.bInts b).length ≤ 1000)
    (h : ∀ b' h' t' k, Fr h₀ L h' m → News h₀ L h' news → KBw.bInts b' = (KBw.bInts b).drop i → Q (.bytes b' t') { s with heap := h', toks := k })
    (hs : subscripted slice false (.bytes b t) (.ref s.heap.objs.size) = operate [.ref s.heap.objs.size, .bytes b t] (getItem (.bytes b t) (.ref s.heap.objs.size)) := by with_unfolding_all rfl)
    (ht : ∀ r, letTemporaryGo value (.bytes b t) r = pure () := by intro _; with_unfolding_all rfl) :
    wpAny (model prog w) A (subscriptTail value slice (.bytes b t) (.ref s.heap.objs.size)) Q E { s with heap := s.heap.push { cls := .type "slice", data := .fields #[.int j u, .none, .none] } } := out_of (by exact trivial : Hold (by
  subst hj
  refine KBc.slice_K F N rfl (.int i u) .none (by omega) (fun h' t' k F' N' e => h _ h' t' k F' N' (by
    rw [e]
    show (List.drop (clipAt (KBw.bInts b).length (i : Int)) (KBw.bInts b)).take ((KBw.bInts b).length - clipAt (KBw.bInts b).length (i : Int)) = _
    rw [clipAt_nat]
    rcases Nat.le_total i (KBw.bInts b).length with q | q
    · rw [Nat.min_eq_left q, List.take_of_length_le (by rw [List.length_drop]; exact Nat.le_refl _)]
    · rw [Nat.min_eq_right q, List.drop_length, List.drop_eq_nil_of_le q, List.take_nil])) hs ht))
theorem add_by {n : Nat} {ks ls : List Int} (hb : KBw.bInts b = ks) (hc : KBw.bInts c = ls) (hsz : ks.length + ls.length ≤ n) (hn : n ≤ 16777216) (h : ∀ b' t' k, KBw.bInts b' = ks ++ ls → Q (.bytes b' t') { s with toks := k }) : wpAny (model prog w) A (binaryOp .Add (.bytes b t) (.bytes c u)) Q E s :=
  KBa.add_K hb hc (Nat.le_trans hsz hn) fun t' k e => h _ t' k e
end
section
set_option maxHeartbeats 8000000 in
theorem put_ok {w : World} {A : Around} {base h₀ : Heap} {l : List Env} {L : Addr} {m : Str → Option Value} {s : Shared} {Q E : Value → Shared → Prop} {news : List (Addr × Obj)} {b p : Array UInt8} {t1 t2 t3 : Tok} {at' : Nat}
    (H : Here 3 w A base l h₀ L m s.heap news) (hb : (KBw.bInts b).length ≤ 1000) (hp : (KBw.bInts p).length ≤ 1000)
    (ret : ∀ b' t h' tk', KBw.bInts b' = (KBw.bInts b).take at' ++ KBw.bInts p ++ (KBw.bInts b).drop (at' + (KBw.bInts p).length) → Fr h₀ L h' m → News h₀ L h' news → Q (.bytes b' t) { s with heap := h', toks := tk' }) :
    wpAny (model PySem.Challenge.pw_nn0048_01 w) A (call (.ref 204) [.bytes b t1, .int at' t2, .bytes p t3]) Q E s := out_of (by exact trivial : Hold (by
  obtain ⟨e, el, B, F, X, N, T, hk, hd, hu⟩ := H
  subst e el
  refine wpAny_call ?_
  k_dflt ktr_enter
  ((try ((show let Q' := _; let E' := _; wpAny _ _ _ Q' E' _); intro Q' E')); repeat' (first | (k_unfold; (try dsimp only)) | ((with_reducible show wpAny _ _ (binaryOp _ _ _) _ _ _); first | ((with_reducible show wpAny _ _ (binaryOp Operator.Add (Value.bytes _ _) (Value.bytes _ _)) _ _ _); (k_here; (with_reducible show wpAny _ _ (binaryOp Operator.Add (Value.bytes _ _) (Value.bytes _ _)) _ _ _); first | (refine add_by (n := 3000) (by assumption) rfl ?z (by decide) ?_; (case z => simp only [List.length_take]; omega)) | (refine add_by (n := 3000) (by assumption) (by assumption) ?z (by decide) ?_; (case z => simp only [List.length_take, List.length_append, List.length_drop]; omega)); intro b' t' k' hb'))) | ((with_reducible show wpAny _ _ (call _ _) _ _ _); first | ((with_reducible show wpAny _ _ (call (Value.builtin "len") _) _ _ _); (k_here; (with_reducible show wpAny _ _ (call (Value.builtin "len") [Value.bytes _ _]) _ _ _); (refine KBw.len_K rfl (by omega) ?_)))) | ((with_reducible show wpAny _ _ (subscriptTail _ _ _ _) _ _ _); first | ((k_here; (with_reducible show wpAny _ _ (subscriptTail _ (Expr.Slice _ _ none _) (Value.bytes _ _) (Value.ref _)) _ _ _); first | refine head_sl (s := ⟨_, _, _, _, _⟩) (by k_asm) (by k_asm) (by assumption) ?_ | refine tail_sl (s := ⟨_, _, _, _, _⟩) (Int.natCast_add _ _).symm (by k_asm) (by k_asm) (by assumption) ?_); intro b' h' t' k' F' N' hb')) | ((fail_if_success (with_reducible show wpAny _ _ (pyIter _) _ _ _)); walk1) | (dsimp only; (fail_if_success (with_reducible show wpAny _ _ (pyIter _) _ _ _)); walk1) | (leave1; walk_say "STEP leave1"; try dsimp only) | fail "no step"))
  exact ret _ _ _ _ (by assumption) (by assumption) (by assumption)))
end

end
/-! part Load -/
section
theorem atLoad : True := by
  w_top off
  exact trivial
/-- the place plus worth of a row, less its own place for pc -/
def worthP (names : List Str) (bf : Str → Int) (syms : List Sym) (nm : Str) (r : Rel) : Option Int :=
  (placeP names bf syms r.name).map fun p => if r.way = Str.ofString "pc" then p + r.worth - (bf nm + r.at_) else p + r.worth
def putP (bs : List Int) (at' width : Nat) (v : Int) : List Int := bs.take at' ++ digs v width ++ bs.drop (at' + width)
def secF (names : List Str) (bf : Str → Int) (syms : List Sym) (nm : Str) : List Int → List Rel → Except Bool (List Int)
  | bs, [] => .ok bs
  | bs, r :: rest =>
    if r.sect = nm then
      match worthP names bf syms nm r with
      | none => .error false
      | some v => if -(2 ^ (8 * r.width - 1)) ≤ v ∧ v < (if r.way = Str.ofString "abs" then 2 ^ (8 * r.width) else 2 ^ (8 * r.width - 1)) then secF names bf syms nm (putP bs r.at_ r.width v) rest else .error true
    else secF names bf syms nm bs rest
def loadF (names : List Str) (bf : Str → Int) (syms : List Sym) (rels : List Rel) : List (Str × List Int) → List (Str × List Int) → Except Bool (List (Str × List Int))
  | acc, [] => .ok acc
  | acc, (nm, bs) :: rest =>
    match secF names bf syms nm bs rels with
    | .error x => .error x
    | .ok bs' => loadF names bf syms rels (acc ++ [(nm, bs')]) rest
def KvAt (kv : Str × Value) (p : Str × List Int) : Prop := kv.1 = p.1 ∧ ∃ b t, kv.2 = .bytes b t ∧ KBw.bInts b = p.2
def RelFit (lens : Str → Nat) (r : Rel) : Prop := 1 ≤ r.width ∧ r.width ≤ 8 ∧ r.at_ + r.width ≤ lens r.sect
theorem putP_length {bs : List Int} {at' width : Nat} {v : Int} (h : at' + width ≤ bs.length) : (putP bs at' width v).length = bs.length := by
  simp only [putP, List.length_append, List.length_take, List.length_drop, digs_length]; omega
theorem secF_drop {names : List Str} {bf : Str → Int} {syms : List Sym} {nm : Str} {bs : List Int} {rels : List Rel} {i : Nat} {r : Rel} (h : rels[i]? = some r) :
    secF names bf syms nm bs (rels.drop i) = secF names bf syms nm bs (r :: rels.drop (i + 1)) := by
  obtain ⟨hi, rfl⟩ := List.getElem?_eq_some_iff.mp h
  rw [List.drop_eq_getElem_cons hi]
section
variable {w : World} {A : Around} {base h₀ : Heap} {l : List Env} {L : Addr} {m : Str → Option Value} {s : Shared} {Q E : Value → Shared → Prop} {news : List (Addr × Obj)}
theorem place_okS {asm da D Y R O B : Addr} {t1 t2 t3 t4 u : Tok} {name : Str} {vs : List Value} {c : Nat} {syms : List Sym} {oS oB : Obj} {kS kB : List (Str × Value)} {names : List Str} {bf : Str → Int} {i : Int}
    (H : Here 8 w A base l h₀ L m s.heap news) (hp : placeP names bf syms name = some i) (hx : (asm, instObj 186 da) ∈ news) (hda : (da, asmDict w t1 t2 t3 t4 (.ref D) (.ref Y) (.ref R) (.ref O)) ∈ news) (hY : (Y, PySem.W.listOf vs.toArray c) ∈ news) (hs : All2 (SymAt w news) vs syms)
    (hS : (D, oS) ∈ news) (hSd : oS.IsDictOf (PySem.strKind PySem.Challenge.pw_nn0048_01 w) kS) (hSl : (D == sysModules) = false) (hin : ∀ k, (valueAt kS k).isSome = decide (k ∈ names))
    (hB : (B, oB) ∈ news) (hBd : oB.IsDictOf (PySem.strKind PySem.Challenge.pw_nn0048_01 w) kB) (hbf : ∀ k ∈ names, ∃ t, valueAt kB k = some (.int (bf k) t)) (hsy : ∀ y ∈ syms, y.sect = Str.ofString "" ∨ y.sect = Str.ofString "*" ∨ y.sect ∈ names)
    (ret : ∀ t h' tk', Fr h₀ L h' m → News h₀ L h' news → Q (.int i t) { s with heap := h', toks := tk' }) :
    wpAny (model PySem.Challenge.pw_nn0048_01 w) A (call (.ref 211) [.ref asm, .ref B, .str name u]) Q E s :=
  place_ok H hx hda hY hs hS hSd hSl hin hB hBd hbf hsy (fun j hj => by rw [hp] at hj; cases hj; exact ret) fun q => by rw [hp] at q; cases q
theorem place_okN {asm da D Y R O B : Addr} {t1 t2 t3 t4 u : Tok} {name : Str} {vs : List Value} {c : Nat} {syms : List Sym} {oS oB : Obj} {kS kB : List (Str × Value)} {names : List Str} {bf : Str → Int}
    (H : Here 8 w A base l h₀ L m s.heap news) (hp : placeP names bf syms name = none) (hx : (asm, instObj 186 da) ∈ news) (hda : (da, asmDict w t1 t2 t3 t4 (.ref D) (.ref Y) (.ref R) (.ref O)) ∈ news) (hY : (Y, PySem.W.listOf vs.toArray c) ∈ news) (hs : All2 (SymAt w news) vs syms)
    (hS : (D, oS) ∈ news) (hSd : oS.IsDictOf (PySem.strKind PySem.Challenge.pw_nn0048_01 w) kS) (hSl : (D == sysModules) = false) (hin : ∀ k, (valueAt kS k).isSome = decide (k ∈ names))
    (hB : (B, oB) ∈ news) (hBd : oB.IsDictOf (PySem.strKind PySem.Challenge.pw_nn0048_01 w) kB) (hbf : ∀ k ∈ names, ∃ t, valueAt kB k = some (.int (bf k) t)) (hsy : ∀ y ∈ syms, y.sect = Str.ofString "" ∨ y.sect = Str.ofString "*" ∨ y.sect ∈ names)
    (exc : ∀ e g h' tk', RaisedN base l e (.ref 64) news h' → Fr h₀ L g m → g.UpToSlots h' → E (.ref e) { s with heap := h', toks := tk' }) :
    wpAny (model PySem.Challenge.pw_nn0048_01 w) A (call (.ref 211) [.ref asm, .ref B, .str name u]) Q E s :=
  place_ok H hx hda hY hs hS hSd hSl hin hB hBd hbf hsy (fun j hj => by rw [hp] at hj; cases hj) fun _ => exc
theorem field_okS {worth : Int} {t1 t2 t3 : Tok} {n : Nat} {way : Str} (H : Here 12 w A base l h₀ L m s.heap news) (hf : fitsP worth n way) (h1 : 1 ≤ n) (h8 : n ≤ 8)
    (ret : ∀ b t h' tk', KBw.bInts b = digs worth n → Fr h₀ L h' m → News h₀ L h' news → Q (.bytes b t) { s with heap := h', toks := tk' }) :
    wpAny (model PySem.Challenge.pw_nn0048_01 w) A (call (.ref 197) [.int worth t1, .int n t2, .str way t3]) Q E s :=
  field_ok H h1 h8 (fun _ => ret) fun q => absurd hf q
theorem field_okN {worth : Int} {t1 t2 t3 : Tok} {n : Nat} {way : Str} (H : Here 12 w A base l h₀ L m s.heap news) (hf : ¬ fitsP worth n way) (h1 : 1 ≤ n) (h8 : n ≤ 8)
    (exc : ∀ e g h' tk', RaisedN base l e (.ref 52) news h' → Fr h₀ L g m → g.UpToSlots h' → E (.ref e) { s with heap := h', toks := tk' }) :
    wpAny (model PySem.Challenge.pw_nn0048_01 w) A (call (.ref 197) [.int worth t1, .int n t2, .str way t3]) Q E s :=
  field_ok H h1 h8 (fun q => absurd q hf) fun _ => exc
end
theorem raised_sub {base h : Heap} {l : List Env} {e : Addr} {cls : Value} {n n' : List (Addr × Obj)} (R : RaisedN base l e cls n h) (k : ∀ p ∈ n', p ∈ n) : RaisedN base l e cls n' h := by
  obtain ⟨B, a0, hB, hl, hf⟩ := R
  exact ⟨B, a0, hB, fun q hq => hl q (k q hq), hf⟩
theorem kv_in {kS : List (Str × Value)} {secs : List (Str × List Int)} (h : All2 KvAt kS secs) (k : Str) : (valueAt kS k).isSome = decide (k ∈ secs.map (·.1)) := out_of (by exact trivial : Hold (by
  unfold valueAt
  induction h with
  | nil => simp
  | cons r _ ih =>
    obtain ⟨e, -⟩ := r
    rename_i a b as bs _
    rw [List.find?_cons]
    by_cases q : a.1 = k
    · simp [q, ← e]
    · simp only [q, decide_false]
      rw [ih]
      simp [← e, Ne.symm q]))
theorem kv_get {kS : List (Str × Value)} {secs : List (Str × List Int)} (h : All2 KvAt kS secs) (hn : (secs.map (·.1)).Nodup) : ∀ {i : Nat} {k : Str} {v : Value}, kS[i]? = some (k, v) → valueAt kS k = some v := by
  unfold valueAt
  induction h with
  | nil => intro i k v q; simp at q
  | cons r hr ih =>
    rename_i a b as bs
    intro i k v q
    rw [List.map_cons, List.nodup_cons] at hn
    rw [List.find?_cons]
    cases i with
    | zero => simp at q; subst q; simp
    | succ i =>
      simp at q
      have hne : a.1 ≠ k := fun z => hn.1 (by
        obtain ⟨p, hp, r'⟩ := hr.get q
        rw [← r.1, z, show k = p.1 from r'.1]
        exact List.mem_map_of_mem (List.mem_of_getElem? hp))
      simp only [hne, decide_false]
      exact ih hn.2 q
section
variable {names : List Str} {bf : Str → Int} {syms : List Sym} {nm : Str} {bs bs' : List Int} {rels : List Rel} {r : Rel} {v p : Int} {j i : Nat} {x : Bool} {acc secs : List (Str × List Int)}
theorem secF_skip (hr : rels[j]? = some r) (hsc : r.sect ≠ nm) : secF names bf syms nm bs (rels.drop j) = secF names bf syms nm bs (rels.drop (j + 1)) := by
  rw [secF_drop hr]; exact if_neg hsc
theorem secF_name (hr : rels[j]? = some r) (hsc : r.sect = nm) (hp : placeP names bf syms r.name = none) : secF names bf syms nm bs (rels.drop j) = .error false := by
  rw [secF_drop hr]; show (if r.sect = nm then _ else _) = _; rw [if_pos hsc, worthP, hp]; rfl
theorem secF_reach (hr : rels[j]? = some r) (hsc : r.sect = nm) (hp : worthP names bf syms nm r = some v) (hf : ¬ fitsP v r.width r.way) : secF names bf syms nm bs (rels.drop j) = .error true := by
  rw [secF_drop hr]; show (if r.sect = nm then _ else _) = _; rw [if_pos hsc, hp]; exact if_neg hf
theorem secF_go {b2 b' pb : Array UInt8} (hr : rels[j]? = some r) (hsc : r.sect = nm) (hp : worthP names bf syms nm r = some v) (hf : fitsP v r.width r.way) (hw : r.at_ + r.width ≤ (KBw.bInts b2).length)
    (e1 : KBw.bInts pb = digs v r.width) (e2 : KBw.bInts b' = (KBw.bInts b2).take r.at_ ++ KBw.bInts pb ++ (KBw.bInts b2).drop (r.at_ + (KBw.bInts pb).length)) :
    secF names bf syms nm (KBw.bInts b2) (rels.drop j) = secF names bf syms nm (KBw.bInts b') (rels.drop (j + 1)) ∧ (KBw.bInts b').length = (KBw.bInts b2).length := out_of (by exact trivial : Hold (by
  have e : KBw.bInts b' = putP (KBw.bInts b2) r.at_ r.width v := by rw [e2, e1, digs_length]; rfl
  rw [e]
  refine ⟨?_, putP_length hw⟩
  rw [secF_drop hr]; show (if r.sect = nm then _ else _) = _; rw [if_pos hsc, hp]; exact if_pos hf))
theorem worthP_pc (hp : placeP names bf syms r.name = some p) (hw : r.way = Str.ofString "pc") : worthP names bf syms nm r = some (p + r.worth - (bf nm + r.at_)) := by
  rw [worthP, hp]; exact congrArg some (if_pos hw)
theorem worthP_np (hp : placeP names bf syms r.name = some p) (hw : r.way ≠ Str.ofString "pc") : worthP names bf syms nm r = some (p + r.worth) := by
  rw [worthP, hp]; exact congrArg some (if_neg hw)
theorem loadF_err (hi : secs[i]? = some (nm, bs)) (h : secF names bf syms nm bs rels = .error x) : loadF names bf syms rels acc (secs.drop i) = .error x := by
  obtain ⟨hi, e⟩ := List.getElem?_eq_some_iff.mp hi
  rw [List.drop_eq_getElem_cons hi, e]; show (match secF names bf syms nm bs rels with | .error x => _ | .ok bs' => _) = _; rw [h]
theorem loadF_go (hi : secs[i]? = some (nm, bs)) (h : secF names bf syms nm bs rels = .ok bs') : loadF names bf syms rels acc (secs.drop i) = loadF names bf syms rels (acc ++ [(nm, bs')]) (secs.drop (i + 1)) := by
  obtain ⟨hi, e⟩ := List.getElem?_eq_some_iff.mp hi
  rw [List.drop_eq_getElem_cons hi, e]; show (match secF names bf syms nm bs rels with | .error x => _ | .ok bs' => _) = _; rw [h]
end
theorem stored_new {kf : List (Str × Value)} {acc : List (Str × List Int)} (h : All2 KvAt kf acc) {k : Str} (hk : k ∉ acc.map (·.1)) (v : Value) : stored kf k v = kf ++ [(k, v)] := out_of (by exact trivial : Hold (by
  unfold stored
  rw [if_neg]
  rw [List.any_eq_true]
  rintro ⟨kv, hm, e⟩
  have e : kv.1 = k := of_decide_eq_true e
  obtain ⟨i, hi⟩ := List.getElem?_of_mem hm
  obtain ⟨p, hp, r⟩ := h.get hi
  exact hk (by rw [← e, r.1]; exact List.mem_map_of_mem (List.mem_of_getElem? hp))))
theorem nodup_take {α β : Type} {f : α → β} {l : List α} {i : Nat} {a : α} (hn : (l.map f).Nodup) (hi : l[i]? = some a) : f a ∉ (l.take i).map f := out_of (by exact trivial : Hold (by
  intro hm
  obtain ⟨b, hb, e⟩ := List.mem_map.mp hm
  obtain ⟨j, hj⟩ := List.getElem?_of_mem hb
  have hlt : j < i := by
    rw [List.getElem?_take] at hj
    split at hj
    · assumption
    · cases hj
  have hj : l[j]? = some b := by rw [List.getElem?_take, if_pos hlt] at hj; exact hj
  obtain ⟨h1, e1⟩ := List.getElem?_eq_some_iff.mp hi
  obtain ⟨h2, e2⟩ := List.getElem?_eq_some_iff.mp hj
  have := List.pairwise_iff_getElem.mp hn j i (by simpa using h2) (by simpa using h1) hlt
  simp [e1, e2, e] at this))
theorem take_keys {l : List (Str × List Int)} {acc : List (Str × List Int)} {i : Nat} {k : Str} {bs bs' : List Int} (h : acc.map (·.1) = (l.take i).map (·.1)) (hi : l[i]? = some (k, bs)) : (acc ++ [(k, bs')]).map (·.1) = (l.take (i + 1)).map (·.1) := by
  rw [List.take_succ, hi, List.map_append, List.map_append, h]; rfl

end
/-! part Load2 -/
section
theorem atLoad2 : True := by
  w_top off
  exact trivial
def loadJ1 (w : World) (names : List Str) (bf : Str → Int) (syms : List Sym) (rels : List Rel) (secs : List (Str × List Int)) (asm B d : Addr) (news : List (Addr × Obj)) (i : Nat) (m : Str → Option Value) (ns : List (Addr × Obj)) : Prop :=
  m (Str.ofString "assembled") = some (.ref asm) ∧ m (Str.ofString "bases") = some (.ref B) ∧ m (Str.ofString "found") = some (.ref d) ∧
  ∃ o kf acc, ns = (d, o) :: news ∧ o.IsDictOf (PySem.strKind PySem.Challenge.pw_nn0048_01 w) kf ∧ All2 KvAt kf acc ∧ loadF names bf syms rels [] secs = loadF names bf syms rels acc (secs.drop i) ∧ acc.map (·.1) = (secs.take i).map (·.1)
def loadJ2 (names : List Str) (bf : Str → Int) (syms : List Sym) (rels : List Rel) (asm B d : Addr) (k : Str) (tk : Tok) (bs : List Int) (ns₀ : List (Addr × Obj)) (i : Nat) (m : Str → Option Value) (ns : List (Addr × Obj)) : Prop :=
  m (Str.ofString "assembled") = some (.ref asm) ∧ m (Str.ofString "bases") = some (.ref B) ∧ m (Str.ofString "found") = some (.ref d) ∧ m (Str.ofString "name") = some (.str k tk) ∧
  ∃ b t, m (Str.ofString "octets") = some (.bytes b t) ∧ secF names bf syms k bs rels = secF names bf syms k (KBw.bInts b) (rels.drop i) ∧ (KBw.bInts b).length = bs.length ∧ ns = ns₀
theorem eq_known {prog : Program} {w : World} {A : Around} {E : Value → Shared → Prop} {s : Shared} {x y : Str} {t u : Tok} {c : Bool} {Q : Value → Shared → Prop} (e : (x == y) = c) (h : Q (.bool c) s) : wpAny (model prog w) A (compareOp .Eq (.str x t) (.str y u)) Q E s :=
  PyProof.Rows.eq_str (by rw [e]; exact h)
section
set_option maxHeartbeats 8000000 in
theorem load_ok {w : World} {A : Around} {base h₀ : Heap} {l : List Env} {L : Addr} {m : Str → Option Value} {s : Shared} {Q E : Value → Shared → Prop} {news : List (Addr × Obj)} {asm da D Y R O B : Addr} {t1 t2 t3 t4 : Tok} {vs rs : List Value} {c c2 : Nat} {syms : List Sym} {rels : List Rel} {oS oB : Obj} {kS kB : List (Str × Value)} {secs : List (Str × List Int)} {bf : Str → Int}
    (H : Here 16 w A base l h₀ L m s.heap news) (hx : (asm, instObj 186 da) ∈ news) (hda : (da, asmDict w t1 t2 t3 t4 (.ref D) (.ref Y) (.ref R) (.ref O)) ∈ news) (hY : (Y, PySem.W.listOf vs.toArray c) ∈ news) (hs : All2 (SymAt w news) vs syms)
    (hR : (R, PySem.W.listOf rs.toArray c2) ∈ news) (hr : All2 (RelAt w news) rs rels)
    (hS : (D, oS) ∈ news) (hSd : oS.IsDictOf (PySem.strKind PySem.Challenge.pw_nn0048_01 w) kS) (hSl : (D == sysModules) = false) (hkS : All2 KvAt kS secs) (hnd : (secs.map (·.1)).Nodup) (hlen : ∀ p ∈ secs, p.2.length ≤ 1000) (hkz : kS.length ≤ sizeLine)
    (hB : (B, oB) ∈ news) (hBd : oB.IsDictOf (PySem.strKind PySem.Challenge.pw_nn0048_01 w) kB) (hbf : ∀ k ∈ secs.map (·.1), ∃ t, valueAt kB k = some (.int (bf k) t)) (hsy : ∀ y ∈ syms, y.sect = Str.ofString "" ∨ y.sect = Str.ofString "*" ∨ y.sect ∈ secs.map (·.1))
    (hrel : ∀ r ∈ rels, ∀ p ∈ secs, r.sect = p.1 → 1 ≤ r.width ∧ r.width ≤ 8 ∧ r.at_ + r.width ≤ p.2.length)
    (ret : ∀ fs, loadF (secs.map (·.1)) bf syms rels [] secs = .ok fs → ∀ d o kf h' tk', Fr h₀ L h' m → News h₀ L h' ((d, o) :: news) → (∀ p ∈ news, p.1 ≠ d) → (d == sysModules) = false → o.IsDictOf (PySem.strKind PySem.Challenge.pw_nn0048_01 w) kf → All2 KvAt kf fs → Q (.ref d) { s with heap := h', toks := tk' })
    (exc : ∀ x, loadF (secs.map (·.1)) bf syms rels [] secs = .error x → ∀ e g h' tk', RaisedN base l e (.ref (if x then 52 else 64)) news h' → Fr h₀ L g m → g.UpToSlots h' → E (.ref e) { s with heap := h', toks := tk' }) :
    wpAny (model PySem.Challenge.pw_nn0048_01 w) A (call (.ref 218) [.ref asm, .ref B]) Q E s := out_of (by exact trivial : Hold (by
  obtain ⟨e, el, Bl, F, X, N, T, hk, hd, hu⟩ := H
  subst e el
  refine wpAny_call ?_
  k_dflt ktr_enter
  ((try ((show let Q' := _; let E' := _; wpAny _ _ _ Q' E' _); intro Q' E')); repeat' (first | (k_unfold; (try dsimp only)) | ((with_reducible show wpAny _ _ (setItem _ _ _) _ _ _); first | ((with_reducible show wpAny _ _ (setItem (Value.ref _) (Value.str _ _) _) _ _ _); (k_here; k_dflt (refine' kda_set (knd := PySem.strKind _ _) ?F ?N ?U ?d (strKind_is _ _ _ _) ?z ?_; (case F => k_asm); (case N => k_asm); (case U => exact UpdF.head (by assumption)); (case d => assumption); (case z => assumption)); intro h' o' F' N' hd'))) | ((with_reducible show wpAny _ _ (call _ _) _ _ _); first | ((k_here; (with_reducible show wpAny _ _ (call (Value.ref 204) [Value.bytes _ _, Value.int _ _, Value.bytes _ _]) _ _ _); k_dflt (refine' put_ok ?kH ?p0 ?p1 ?_; (case kH => walk_at "M here"); (case p0 => omega); (case p1 => first | assumption | (rw [‹KBw.bInts _ = digs _ _›, digs_length]; omega)); k_whole); intro b' t' h' tk' hb' F' N')) | ((k_here; (with_reducible show wpAny _ _ (call (Value.ref 197) [Value.int _ _, Value.int _ _, Value.str _ _]) _ _ _); k_dflt (refine' field_okN ?kH ?hp ?p0 ?p1 ?_; (case hp => assumption); (case kH => walk_at "M here"); (case p0 => assumption); (case p1 => assumption); k_whole); intro e' g' h' tk' R' F' U')) | ((k_here; (with_reducible show wpAny _ _ (call (Value.ref 197) [Value.int _ _, Value.int _ _, Value.str _ _]) _ _ _); k_dflt (refine' field_okS ?kH ?hp ?p0 ?p1 ?_; (case hp => assumption); (case kH => walk_at "M here"); (case p0 => assumption); (case p1 => assumption); k_whole); intro b' t' h' tk' hb' F' N')) | ((k_here; (with_reducible show wpAny _ _ (call (Value.ref 211) [Value.ref _, Value.ref _, Value.str _ _]) _ _ _); k_dflt (refine' place_okN ?kH ?hp ?p0 ?p1 ?p2 ?p3 ?p4 ?p5 ?p6 ?p7 ?p8 ?p9 ?p10 ?p11 ?_; (case hp => assumption); (case kH => walk_at "M here"); (case p0 => assumption); (case p1 => assumption); (case p2 => assumption); (case p3 => assumption); (case p4 => assumption); (case p5 => assumption); (case p6 => assumption); (case p7 => assumption); (case p8 => assumption); (case p9 => assumption); (case p10 => assumption); (case p11 => assumption); k_whole); intro e' g' h' tk' R' F' U')) | ((k_here; (with_reducible show wpAny _ _ (call (Value.ref 211) [Value.ref _, Value.ref _, Value.str _ _]) _ _ _); k_dflt (refine' place_okS ?kH ?hp ?p0 ?p1 ?p2 ?p3 ?p4 ?p5 ?p6 ?p7 ?p8 ?p9 ?p10 ?p11 ?_; (case hp => assumption); (case kH => walk_at "M here"); (case p0 => assumption); (case p1 => assumption); (case p2 => assumption); (case p3 => assumption); (case p4 => assumption); (case p5 => assumption); (case p6 => assumption); (case p7 => assumption); (case p8 => assumption); (case p9 => assumption); (case p10 => assumption); (case p11 => assumption); k_whole); intro t' h' tk' F' N'))) | ((with_reducible show wpAny _ _ (subscriptTail _ _ _ _) _ _ _); first | ((k_here; (with_reducible show wpAny _ _ (subscriptTail _ _ (Value.ref _) (Value.str _ _)) _ _ _); k_dflt (refine' kda_item (knd := PySem.strKind _ _) ?k1 ?k2 ?k3 (strKind_is _ _ _ _) ?k5 ?_; (case k1 => k_asm); (case k2 => k_mem); (case k3 => assumption); (case k5 => assumption))))) | ((with_reducible show wpAny _ _ (compareOp _ _ _) _ _ _); first | ((with_reducible show wpAny _ _ (compareOp CmpOp.Eq (Value.str _ _) (Value.str _ _)) _ _ _); (refine eq_known ?k1 ?_; (case k1 => assumption)))) | ((fail_if_success (with_reducible show wpAny _ _ (pyIter _) _ _ _)); walk1) | (dsimp only; (fail_if_success (with_reducible show wpAny _ _ (pyIter _) _ _ _)); walk1) | (leave1; walk_say "STEP leave1"; try dsimp only) | fail "no step"))
  rename Addr => d
  rename (∀ p ∈ news, p.1 < d) => hlt
  rename Obj.IsDictOf (PySem.strKind _ _) _ [] => hfd
  rename (_ == sysModules) = false => hlo
  have hin := kv_in hkS
  refine forDict ?eL (loadJ1 w (secs.map (·.1)) bf syms rels secs asm B d news) rfl (by assumption) (by assumption) (.tail _ hS) hSd hSl ?hJ ⟨rfl, rfl, rfl, _, _, [], rfl, hfd, .nil, by rw [List.drop_zero], by simp⟩ ?turn ?done
  case eL => rfl
  case hJ => rintro i m n ⟨_, _, _, o, kf, acc, rfl, -⟩; exact .tail _ hS
  case turn =>
    intro i k v t m₁ news₁ h tk own hi hJ0' off F1 N1
    refine Classical.byContradiction fun hG => ?_
    obtain ⟨ha, hb, hf, o, kf, acc, rfl, hod, hacc, hlf, hkeys⟩ := hJ0'
    have hv := kv_get hkS hnd hi
    obtain ⟨⟨nm, bs⟩, hi2, hk1, b, tb, hvb, hbs⟩ := hkS.get hi
    dsimp only at hk1 hvb hbs
    subst hk1 hvb hbs
    refine hG ?_
    clear hG
    replace F1 := pinsT F1 (.cons ha (.cons hb (.cons hf .nil)))
    have hne0 := off_cons off
    dsimp only at hne0
    have hne := all_app (lt_ne hlt) hne0
    have up : ∀ p ∈ news, p ∈ ((d, o) :: news) ++ own := fun p hp => List.mem_append_left _ (.tail _ hp)
    have hx := up _ hx
    have hda := up _ hda
    have hS := up _ hS
    have hR := up _ hR
    ((try ((show let Q' := _; let E' := _; wpAny _ _ _ Q' E' _); intro Q' E')); repeat' (first | (k_unfold; (try dsimp only)) | ((with_reducible show wpAny _ _ (setItem _ _ _) _ _ _); first | ((with_reducible show wpAny _ _ (setItem (Value.ref _) (Value.str _ _) _) _ _ _); (k_here; k_dflt (refine' kda_set (knd := PySem.strKind _ _) ?F ?N ?U ?d (strKind_is _ _ _ _) ?z ?_; (case F => k_asm); (case N => k_asm); (case U => exact UpdF.head (by assumption)); (case d => assumption); (case z => assumption)); intro h' o' F' N' hd'))) | ((with_reducible show wpAny _ _ (call _ _) _ _ _); first | ((k_here; (with_reducible show wpAny _ _ (call (Value.ref 204) [Value.bytes _ _, Value.int _ _, Value.bytes _ _]) _ _ _); k_dflt (refine' put_ok ?kH ?p0 ?p1 ?_; (case kH => walk_at "M here"); (case p0 => omega); (case p1 => first | assumption | (rw [‹KBw.bInts _ = digs _ _›, digs_length]; omega)); k_whole); intro b' t' h' tk' hb' F' N')) | ((k_here; (with_reducible show wpAny _ _ (call (Value.ref 197) [Value.int _ _, Value.int _ _, Value.str _ _]) _ _ _); k_dflt (refine' field_okN ?kH ?hp ?p0 ?p1 ?_; (case hp => assumption); (case kH => walk_at "M here"); (case p0 => assumption); (case p1 => assumption); k_whole); intro e' g' h' tk' R' F' U')) | ((k_here; (with_reducible show wpAny _ _ (call (Value.ref 197) [Value.int _ _, Value.int _ _, Value.str _ _]) _ _ _); k_dflt (refine' field_okS ?kH ?hp ?p0 ?p1 ?_; (case hp => assumption); (case kH => walk_at "M here"); (case p0 => assumption); (case p1 => assumption); k_whole); intro b' t' h' tk' hb' F' N')) | ((k_here; (with_reducible show wpAny _ _ (call (Value.ref 211) [Value.ref _, Value.ref _, Value.str _ _]) _ _ _); k_dflt (refine' place_okN ?kH ?hp ?p0 ?p1 ?p2 ?p3 ?p4 ?p5 ?p6 ?p7 ?p8 ?p9 ?p10 ?p11 ?_; (case hp => assumption); (case kH => walk_at "M here"); (case p0 => assumption); (case p1 => assumption); (case p2 => assumption); (case p3 => assumption); (case p4 => assumption); (case p5 => assumption); (case p6 => assumption); (case p7 => assumption); (case p8 => assumption); (case p9 => assumption); (case p10 => assumption); (case p11 => assumption); k_whole); intro e' g' h' tk' R' F' U')) | ((k_here; (with_reducible show wpAny _ _ (call (Value.ref 211) [Value.ref _, Value.ref _, Value.str _ _]) _ _ _); k_dflt (refine' place_okS ?kH ?hp ?p0 ?p1 ?p2 ?p3 ?p4 ?p5 ?p6 ?p7 ?p8 ?p9 ?p10 ?p11 ?_; (case hp => assumption); (case kH => walk_at "M here"); (case p0 => assumption); (case p1 => assumption); (case p2 => assumption); (case p3 => assumption); (case p4 => assumption); (case p5 => assumption); (case p6 => assumption); (case p7 => assumption); (case p8 => assumption); (case p9 => assumption); (case p10 => assumption); (case p11 => assumption); k_whole); intro t' h' tk' F' N'))) | ((with_reducible show wpAny _ _ (subscriptTail _ _ _ _) _ _ _); first | ((k_here; (with_reducible show wpAny _ _ (subscriptTail _ _ (Value.ref _) (Value.str _ _)) _ _ _); k_dflt (refine' kda_item (knd := PySem.strKind _ _) ?k1 ?k2 ?k3 (strKind_is _ _ _ _) ?k5 ?_; (case k1 => k_asm); (case k2 => k_mem); (case k3 => assumption); (case k5 => assumption))))) | ((with_reducible show wpAny _ _ (compareOp _ _ _) _ _ _); first | ((with_reducible show wpAny _ _ (compareOp CmpOp.Eq (Value.str _ _) (Value.str _ _)) _ _ _); (refine eq_known ?k1 ?_; (case k1 => assumption)))) | ((fail_if_success (with_reducible show wpAny _ _ (pyIter _) _ _ _)); walk1) | (dsimp only; (fail_if_success (with_reducible show wpAny _ _ (pyIter _) _ _ _)); walk1) | (leave1; walk_say "STEP leave1"; try dsimp only) | fail "no step"))
    refine forList ?eL2 (loadJ2 (secs.map (·.1)) bf syms rels asm B d k t (KBw.bInts b) (((d, o) :: news) ++ own)) rfl (by assumption) (by assumption) hR (fun i m n hj => ?hJ2) ⟨rfl, rfl, rfl, rfl, b, _, rfl, by rw [List.drop_zero], rfl, rfl⟩ ?turn2 ?done2
    case eL2 => rfl
    case hJ2 => obtain ⟨_, _, _, _, _, _, _, _, _, rfl⟩ := hj; exact hR
    case turn2 =>
      intro j v2 m₂ news₂ h2 tk2 own2 hj hJ0' off2 F2 N2
      refine Classical.byContradiction fun hG => ?_
      obtain ⟨ha, hb, hf, hn, b2, tb2, ho, hsec, hl2, rfl⟩ := hJ0'
      rw [List.getElem?_toArray] at hj
      obtain ⟨r, hr2, hv2⟩ := hr.get hj
      obtain ⟨x, dx, s1, s2, s3, s4, s5, s6, u1, u2, u3, u4, u5, u6, rfl, hx1, hx2⟩ := hv2
      replace F2 := pinsT F2 (.cons ha (.cons hb (.cons hf (.cons hn (.cons ho .nil)))))
      have up2 : ∀ p ∈ news, p ∈ (((d, o) :: news) ++ own) ++ own2 := fun p hp => List.mem_append_left _ (up p hp)
      replace hx1 := up2 _ hx1
      replace hx2 := up2 _ hx2
      have hx := List.mem_append_left own2 hx
      have hda := List.mem_append_left own2 hda
      have hS := List.mem_append_left own2 hS
      have hY := up2 _ hY
      have hB := up2 _ hB
      have hs := hs.mono fun _ _ z => z.keeps up2
      have hmem : (k, KBw.bInts b) ∈ secs := List.mem_of_getElem? hi2
      obtain ⟨tq, hbq⟩ := hbf k (List.mem_map_of_mem hmem)
      refine hG ?_
      clear hG
      have hblen := hlen _ hmem
      dsimp only at hblen
      by_cases hsc : r.sect = k
      · obtain ⟨w1, w8, wl⟩ := hrel r (List.mem_of_getElem? hr2) _ hmem hsc
        dsimp only at wl
        have wl2 : r.at_ + r.width ≤ (KBw.bInts b2).length := by rw [hl2]; exact wl
        have hscB : (r.sect == k) = true := beq_iff_eq.mpr hsc
        cases hp : placeP (secs.map (·.1)) bf syms r.name with
        | none =>
          have herr := hlf.trans (loadF_err hi2 (hsec.trans (secF_name hr2 hsc hp)))
          ((try ((show let Q' := _; let E' := _; wpAny _ _ _ Q' E' _); intro Q' E')); repeat' (first | (k_unfold; (try dsimp only)) | ((with_reducible show wpAny _ _ (setItem _ _ _) _ _ _); first | ((with_reducible show wpAny _ _ (setItem (Value.ref _) (Value.str _ _) _) _ _ _); (k_here; k_dflt (refine' kda_set (knd := PySem.strKind _ _) ?F ?N ?U ?d (strKind_is _ _ _ _) ?z ?_; (case F => k_asm); (case N => k_asm); (case U => exact UpdF.head (by assumption)); (case d => assumption); (case z => assumption)); intro h' o' F' N' hd'))) | ((with_reducible show wpAny _ _ (call _ _) _ _ _); first | ((k_here; (with_reducible show wpAny _ _ (call (Value.ref 204) [Value.bytes _ _, Value.int _ _, Value.bytes _ _]) _ _ _); k_dflt (refine' put_ok ?kH ?p0 ?p1 ?_; (case kH => walk_at "M here"); (case p0 => omega); (case p1 => first | assumption | (rw [‹KBw.bInts _ = digs _ _›, digs_length]; omega)); k_whole); intro b' t' h' tk' hb' F' N')) | ((k_here; (with_reducible show wpAny _ _ (call (Value.ref 197) [Value.int _ _, Value.int _ _, Value.str _ _]) _ _ _); k_dflt (refine' field_okN ?kH ?hp ?p0 ?p1 ?_; (case hp => assumption); (case kH => walk_at "M here"); (case p0 => assumption); (case p1 => assumption); k_whole); intro e' g' h' tk' R' F' U')) | ((k_here; (with_reducible show wpAny _ _ (call (Value.ref 197) [Value.int _ _, Value.int _ _, Value.str _ _]) _ _ _); k_dflt (refine' field_okS ?kH ?hp ?p0 ?p1 ?_; (case hp => assumption); (case kH => walk_at "M here"); (case p0 => assumption); (case p1 => assumption); k_whole); intro b' t' h' tk' hb' F' N')) | ((k_here; (with_reducible show wpAny _ _ (call (Value.ref 211) [Value.ref _, Value.ref _, Value.str _ _]) _ _ _); k_dflt (refine' place_okN ?kH ?hp ?p0 ?p1 ?p2 ?p3 ?p4 ?p5 ?p6 ?p7 ?p8 ?p9 ?p10 ?p11 ?_; (case hp => assumption); (case kH => walk_at "M here"); (case p0 => assumption); (case p1 => assumption); (case p2 => assumption); (case p3 => assumption); (case p4 => assumption); (case p5 => assumption); (case p6 => assumption); (case p7 => assumption); (case p8 => assumption); (case p9 => assumption); (case p10 => assumption); (case p11 => assumption); k_whole); intro e' g' h' tk' R' F' U')) | ((k_here; (with_reducible show wpAny _ _ (call (Value.ref 211) [Value.ref _, Value.ref _, Value.str _ _]) _ _ _); k_dflt (refine' place_okS ?kH ?hp ?p0 ?p1 ?p2 ?p3 ?p4 ?p5 ?p6 ?p7 ?p8 ?p9 ?p10 ?p11 ?_; (case hp => assumption); (case kH => walk_at "M here"); (case p0 => assumption); (case p1 => assumption); (case p2 => assumption); (case p3 => assumption); (case p4 => assumption); (case p5 => assumption); (case p6 => assumption); (case p7 => assumption); (case p8 => assumption); (case p9 => assumption); (case p10 => assumption); (case p11 => assumption); k_whole); intro t' h' tk' F' N'))) | ((with_reducible show wpAny _ _ (subscriptTail _ _ _ _) _ _ _); first | ((k_here; (with_reducible show wpAny _ _ (subscriptTail _ _ (Value.ref _) (Value.str _ _)) _ _ _); k_dflt (refine' kda_item (knd := PySem.strKind _ _) ?k1 ?k2 ?k3 (strKind_is _ _ _ _) ?k5 ?_; (case k1 => k_asm); (case k2 => k_mem); (case k3 => assumption); (case k5 => assumption))))) | ((with_reducible show wpAny _ _ (compareOp _ _ _) _ _ _); first | ((with_reducible show wpAny _ _ (compareOp CmpOp.Eq (Value.str _ _) (Value.str _ _)) _ _ _); (refine eq_known ?k1 ?_; (case k1 => assumption)))) | ((fail_if_success (with_reducible show wpAny _ _ (pyIter _) _ _ _)); walk1) | (dsimp only; (fail_if_success (with_reducible show wpAny _ _ (pyIter _) _ _ _)); walk1) | (leave1; walk_say "STEP leave1"; try dsimp only) | fail "no step"))
          exact exc _ herr _ _ _ _ (raised_sub (by assumption) up2) (by assumption) (by assumption)
        | some p =>
          by_cases hpc : r.way = Str.ofString "pc"
          · have hpcB : (r.way == Str.ofString "pc") = true := beq_iff_eq.mpr hpc
            have hwp := worthP_pc (nm := k) hp hpc
            by_cases hfit : fitsP (p + r.worth - (bf k + r.at_)) r.width r.way
            · ((try ((show let Q' := _; let E' := _; wpAny _ _ _ Q' E' _); intro Q' E')); repeat' (first | (k_unfold; (try dsimp only)) | ((with_reducible show wpAny _ _ (setItem _ _ _) _ _ _); first | ((with_reducible show wpAny _ _ (setItem (Value.ref _) (Value.str _ _) _) _ _ _); (k_here; k_dflt (refine' kda_set (knd := PySem.strKind _ _) ?F ?N ?U ?d (strKind_is _ _ _ _) ?z ?_; (case F => k_asm); (case N => k_asm); (case U => exact UpdF.head (by assumption)); (case d => assumption); (case z => assumption)); intro h' o' F' N' hd'))) | ((with_reducible show wpAny _ _ (call _ _) _ _ _); first | ((k_here; (with_reducible show wpAny _ _ (call (Value.ref 204) [Value.bytes _ _, Value.int _ _, Value.bytes _ _]) _ _ _); k_dflt (refine' put_ok ?kH ?p0 ?p1 ?_; (case kH => walk_at "M here"); (case p0 => omega); (case p1 => first | assumption | (rw [‹KBw.bInts _ = digs _ _›, digs_length]; omega)); k_whole); intro b' t' h' tk' hb' F' N')) | ((k_here; (with_reducible show wpAny _ _ (call (Value.ref 197) [Value.int _ _, Value.int _ _, Value.str _ _]) _ _ _); k_dflt (refine' field_okN ?kH ?hp ?p0 ?p1 ?_; (case hp => assumption); (case kH => walk_at "M here"); (case p0 => assumption); (case p1 => assumption); k_whole); intro e' g' h' tk' R' F' U')) | ((k_here; (with_reducible show wpAny _ _ (call (Value.ref 197) [Value.int _ _, Value.int _ _, Value.str _ _]) _ _ _); k_dflt (refine' field_okS ?kH ?hp ?p0 ?p1 ?_; (case hp => assumption); (case kH => walk_at "M here"); (case p0 => assumption); (case p1 => assumption); k_whole); intro b' t' h' tk' hb' F' N')) | ((k_here; (with_reducible show wpAny _ _ (call (Value.ref 211) [Value.ref _, Value.ref _, Value.str _ _]) _ _ _); k_dflt (refine' place_okN ?kH ?hp ?p0 ?p1 ?p2 ?p3 ?p4 ?p5 ?p6 ?p7 ?p8 ?p9 ?p10 ?p11 ?_; (case hp => assumption); (case kH => walk_at "M here"); (case p0 => assumption); (case p1 => assumption); (case p2 => assumption); (case p3 => assumption); (case p4 => assumption); (case p5 => assumption); (case p6 => assumption); (case p7 => assumption); (case p8 => assumption); (case p9 => assumption); (case p10 => assumption); (case p11 => assumption); k_whole); intro e' g' h' tk' R' F' U')) | ((k_here; (with_reducible show wpAny _ _ (call (Value.ref 211) [Value.ref _, Value.ref _, Value.str _ _]) _ _ _); k_dflt (refine' place_okS ?kH ?hp ?p0 ?p1 ?p2 ?p3 ?p4 ?p5 ?p6 ?p7 ?p8 ?p9 ?p10 ?p11 ?_; (case hp => assumption); (case kH => walk_at "M here"); (case p0 => assumption); (case p1 => assumption); (case p2 => assumption); (case p3 => assumption); (case p4 => assumption); (case p5 => assumption); (case p6 => assumption); (case p7 => assumption); (case p8 => assumption); (case p9 => assumption); (case p10 => assumption); (case p11 => assumption); k_whole); intro t' h' tk' F' N'))) | ((with_reducible show wpAny _ _ (subscriptTail _ _ _ _) _ _ _); first | ((k_here; (with_reducible show wpAny _ _ (subscriptTail _ _ (Value.ref _) (Value.str _ _)) _ _ _); k_dflt (refine' kda_item (knd := PySem.strKind _ _) ?k1 ?k2 ?k3 (strKind_is _ _ _ _) ?k5 ?_; (case k1 => k_asm); (case k2 => k_mem); (case k3 => assumption); (case k5 => assumption))))) | ((with_reducible show wpAny _ _ (compareOp _ _ _) _ _ _); first | ((with_reducible show wpAny _ _ (compareOp CmpOp.Eq (Value.str _ _) (Value.str _ _)) _ _ _); (refine eq_known ?k1 ?_; (case k1 => assumption)))) | ((fail_if_success (with_reducible show wpAny _ _ (pyIter _) _ _ _)); walk1) | (dsimp only; (fail_if_success (with_reducible show wpAny _ _ (pyIter _) _ _ _)); walk1) | (leave1; walk_say "STEP leave1"; try dsimp only) | fail "no step"))
              have go := secF_go (names := secs.map (·.1)) (bf := bf) (syms := syms) hr2 hsc hwp hfit wl2 (by assumption) (by assumption)
              exact turn_end (by assumption) (by assumption) rfl off2 ⟨by with_unfolding_all rfl, by with_unfolding_all rfl, by with_unfolding_all rfl, by with_unfolding_all rfl, _, _, by with_unfolding_all rfl, hsec.trans go.1, go.2.trans hl2, rfl⟩
            · have herr := hlf.trans (loadF_err hi2 (hsec.trans (secF_reach hr2 hsc hwp hfit)))
              ((try ((show let Q' := _; let E' := _; wpAny _ _ _ Q' E' _); intro Q' E')); repeat' (first | (k_unfold; (try dsimp only)) | ((with_reducible show wpAny _ _ (setItem _ _ _) _ _ _); first | ((with_reducible show wpAny _ _ (setItem (Value.ref _) (Value.str _ _) _) _ _ _); (k_here; k_dflt (refine' kda_set (knd := PySem.strKind _ _) ?F ?N ?U ?d (strKind_is _ _ _ _) ?z ?_; (case F => k_asm); (case N => k_asm); (case U => exact UpdF.head (by assumption)); (case d => assumption); (case z => assumption)); intro h' o' F' N' hd'))) | ((with_reducible show wpAny _ _ (call _ _) _ _ _); first | ((k_here; (with_reducible show wpAny _ _ (call (Value.ref 204) [Value.bytes _ _, Value.int _ _, Value.bytes _ _]) _ _ _); k_dflt (refine' put_ok ?kH ?p0 ?p1 ?_; (case kH => walk_at "M here"); (case p0 => omega); (case p1 => first | assumption | (rw [‹KBw.bInts _ = digs _ _›, digs_length]; omega)); k_whole); intro b' t' h' tk' hb' F' N')) | ((k_here; (with_reducible show wpAny _ _ (call (Value.ref 197) [Value.int _ _, Value.int _ _, Value.str _ _]) _ _ _); k_dflt (refine' field_okN ?kH ?hp ?p0 ?p1 ?_; (case hp => assumption); (case kH => walk_at "M here"); (case p0 => assumption); (case p1 => assumption); k_whole); intro e' g' h' tk' R' F' U')) | ((k_here; (with_reducible show wpAny _ _ (call (Value.ref 197) [Value.int _ _, Value.int _ _, Value.str _ _]) _ _ _); k_dflt (refine' field_okS ?kH ?hp ?p0 ?p1 ?_; (case hp => assumption); (case kH => walk_at "M here"); (case p0 => assumption); (case p1 => assumption); k_whole); intro b' t' h' tk' hb' F' N')) | ((k_here; (with_reducible show wpAny _ _ (call (Value.ref 211) [Value.ref _, Value.ref _, Value.str _ _]) _ _ _); k_dflt (refine' place_okN ?kH ?hp ?p0 ?p1 ?p2 ?p3 ?p4 ?p5 ?p6 ?p7 ?p8 ?p9 ?p10 ?p11 ?_; (case hp => assumption); (case kH => walk_at "M here"); (case p0 => assumption); (case p1 => assumption); (case p2 => assumption); (case p3 => assumption); (case p4 => assumption); (case p5 => assumption); (case p6 => assumption); (case p7 => assumption); (case p8 => assumption); (case p9 => assumption); (case p10 => assumption); (case p11 => assumption); k_whole); intro e' g' h' tk' R' F' U')) | ((k_here; (with_reducible show wpAny _ _ (call (Value.ref 211) [Value.ref _, Value.ref _, Value.str _ _]) _ _ _); k_dflt (refine' place_okS ?kH ?hp ?p0 ?p1 ?p2 ?p3 ?p4 ?p5 ?p6 ?p7 ?p8 ?p9 ?p10 ?p11 ?_; (case hp => assumption); (case kH => walk_at "M here"); (case p0 => assumption); (case p1 => assumption); (case p2 => assumption); (case p3 => assumption); (case p4 => assumption); (case p5 => assumption); (case p6 => assumption); (case p7 => assumption); (case p8 => assumption); (case p9 => assumption); (case p10 => assumption); (case p11 => assumption); k_whole); intro t' h' tk' F' N'))) | ((with_reducible show wpAny _ _ (subscriptTail _ _ _ _) _ _ _); first | ((k_here; (with_reducible show wpAny _ _ (subscriptTail _ _ (Value.ref _) (Value.str _ _)) _ _ _); k_dflt (refine' kda_item (knd := PySem.strKind _ _) ?k1 ?k2 ?k3 (strKind_is _ _ _ _) ?k5 ?_; (case k1 => k_asm); (case k2 => k_mem); (case k3 => assumption); (case k5 => assumption))))) | ((with_reducible show wpAny _ _ (compareOp _ _ _) _ _ _); first | ((with_reducible show wpAny _ _ (compareOp CmpOp.Eq (Value.str _ _) (Value.str _ _)) _ _ _); (refine eq_known ?k1 ?_; (case k1 => assumption)))) | ((fail_if_success (with_reducible show wpAny _ _ (pyIter _) _ _ _)); walk1) | (dsimp only; (fail_if_success (with_reducible show wpAny _ _ (pyIter _) _ _ _)); walk1) | (leave1; walk_say "STEP leave1"; try dsimp only) | fail "no step"))
              exact exc _ herr _ _ _ _ (raised_sub (by assumption) up2) (by assumption) (by assumption)
          · have hpcB : (r.way == Str.ofString "pc") = false := beq_false_of_ne hpc
            have hwp := worthP_np (nm := k) hp hpc
            by_cases hfit : fitsP (p + r.worth) r.width r.way
            · ((try ((show let Q' := _; let E' := _; wpAny _ _ _ Q' E' _); intro Q' E')); repeat' (first | (k_unfold; (try dsimp only)) | ((with_reducible show wpAny _ _ (setItem _ _ _) _ _ _); first | ((with_reducible show wpAny _ _ (setItem (Value.ref _) (Value.str _ _) _) _ _ _); (k_here; k_dflt (refine' kda_set (knd := PySem.strKind _ _) ?F ?N ?U ?d (strKind_is _ _ _ _) ?z ?_; (case F => k_asm); (case N => k_asm); (case U => exact UpdF.head (by assumption)); (case d => assumption); (case z => assumption)); intro h' o' F' N' hd'))) | ((with_reducible show wpAny _ _ (call _ _) _ _ _); first | ((k_here; (with_reducible show wpAny _ _ (call (Value.ref 204) [Value.bytes _ _, Value.int _ _, Value.bytes _ _]) _ _ _); k_dflt (refine' put_ok ?kH ?p0 ?p1 ?_; (case kH => walk_at "M here"); (case p0 => omega); (case p1 => first | assumption | (rw [‹KBw.bInts _ = digs _ _›, digs_length]; omega)); k_whole); intro b' t' h' tk' hb' F' N')) | ((k_here; (with_reducible show wpAny _ _ (call (Value.ref 197) [Value.int _ _, Value.int _ _, Value.str _ _]) _ _ _); k_dflt (refine' field_okN ?kH ?hp ?p0 ?p1 ?_; (case hp => assumption); (case kH => walk_at "M here"); (case p0 => assumption); (case p1 => assumption); k_whole); intro e' g' h' tk' R' F' U')) | ((k_here; (with_reducible show wpAny _ _ (call (Value.ref 197) [Value.int _ _, Value.int _ _, Value.str _ _]) _ _ _); k_dflt (refine' field_okS ?kH ?hp ?p0 ?p1 ?_; (case hp => assumption); (case kH => walk_at "M here"); (case p0 => assumption); (case p1 => assumption); k_whole); intro b' t' h' tk' hb' F' N')) | ((k_here; (with_reducible show wpAny _ _ (call (Value.ref 211) [Value.ref _, Value.ref _, Value.str _ _]) _ _ _); k_dflt (refine' place_okN ?kH ?hp ?p0 ?p1 ?p2 ?p3 ?p4 ?p5 ?p6 ?p7 ?p8 ?p9 ?p10 ?p11 ?_; (case hp => assumption); (case kH => walk_at "M here"); (case p0 => assumption); (case p1 => assumption); (case p2 => assumption); (case p3 => assumption); (case p4 => assumption); (case p5 => assumption); (case p6 => assumption); (case p7 => assumption); (case p8 => assumption); (case p9 => assumption); (case p10 => assumption); (case p11 => assumption); k_whole); intro e' g' h' tk' R' F' U')) | ((k_here; (with_reducible show wpAny _ _ (call (Value.ref 211) [Value.ref _, Value.ref _, Value.str _ _]) _ _ _); k_dflt (refine' place_okS ?kH ?hp ?p0 ?p1 ?p2 ?p3 ?p4 ?p5 ?p6 ?p7 ?p8 ?p9 ?p10 ?p11 ?_; (case hp => assumption); (case kH => walk_at "M here"); (case p0 => assumption); (case p1 => assumption); (case p2 => assumption); (case p3 => assumption); (case p4 => assumption); (case p5 => assumption); (case p6 => assumption); (case p7 => assumption); (case p8 => assumption); (case p9 => assumption); (case p10 => assumption); (case p11 => assumption); k_whole); intro t' h' tk' F' N'))) | ((with_reducible show wpAny _ _ (subscriptTail _ _ _ _) _ _ _); first | ((k_here; (with_reducible show wpAny _ _ (subscriptTail _ _ (Value.ref _) (Value.str _ _)) _ _ _); k_dflt (refine' kda_item (knd := PySem.strKind _ _) ?k1 ?k2 ?k3 (strKind_is _ _ _ _) ?k5 ?_; (case k1 => k_asm); (case k2 => k_mem); (case k3 => assumption); (case k5 => assumption))))) | ((with_reducible show wpAny _ _ (compareOp _ _ _) _ _ _); first | ((with_reducible show wpAny _ _ (compareOp CmpOp.Eq (Value.str _ _) (Value.str _ _)) _ _ _); (refine eq_known ?k1 ?_; (case k1 => assumption)))) | ((fail_if_success (with_reducible show wpAny _ _ (pyIter _) _ _ _)); walk1) | (dsimp only; (fail_if_success (with_reducible show wpAny _ _ (pyIter _) _ _ _)); walk1) | (leave1; walk_say "STEP leave1"; try dsimp only) | fail "no step"))
              have go := secF_go (names := secs.map (·.1)) (bf := bf) (syms := syms) hr2 hsc hwp hfit wl2 (by assumption) (by assumption)
              exact turn_end (by assumption) (by assumption) rfl off2 ⟨by with_unfolding_all rfl, by with_unfolding_all rfl, by with_unfolding_all rfl, by with_unfolding_all rfl, _, _, by with_unfolding_all rfl, hsec.trans go.1, go.2.trans hl2, rfl⟩
            · have herr := hlf.trans (loadF_err hi2 (hsec.trans (secF_reach hr2 hsc hwp hfit)))
              ((try ((show let Q' := _; let E' := _; wpAny _ _ _ Q' E' _); intro Q' E')); repeat' (first | (k_unfold; (try dsimp only)) | ((with_reducible show wpAny _ _ (setItem _ _ _) _ _ _); first | ((with_reducible show wpAny _ _ (setItem (Value.ref _) (Value.str _ _) _) _ _ _); (k_here; k_dflt (refine' kda_set (knd := PySem.strKind _ _) ?F ?N ?U ?d (strKind_is _ _ _ _) ?z ?_; (case F => k_asm); (case N => k_asm); (case U => exact UpdF.head (by assumption)); (case d => assumption); (case z => assumption)); intro h' o' F' N' hd'))) | ((with_reducible show wpAny _ _ (call _ _) _ _ _); first | ((k_here; (with_reducible show wpAny _ _ (call (Value.ref 204) [Value.bytes _ _, Value.int _ _, Value.bytes _ _]) _ _ _); k_dflt (refine' put_ok ?kH ?p0 ?p1 ?_; (case kH => walk_at "M here"); (case p0 => omega); (case p1 => first | assumption | (rw [‹KBw.bInts _ = digs _ _›, digs_length]; omega)); k_whole); intro b' t' h' tk' hb' F' N')) | ((k_here; (with_reducible show wpAny _ _ (call (Value.ref 197) [Value.int _ _, Value.int _ _, Value.str _ _]) _ _ _); k_dflt (refine' field_okN ?kH ?hp ?p0 ?p1 ?_; (case hp => assumption); (case kH => walk_at "M here"); (case p0 => assumption); (case p1 => assumption); k_whole); intro e' g' h' tk' R' F' U')) | ((k_here; (with_reducible show wpAny _ _ (call (Value.ref 197) [Value.int _ _, Value.int _ _, Value.str _ _]) _ _ _); k_dflt (refine' field_okS ?kH ?hp ?p0 ?p1 ?_; (case hp => assumption); (case kH => walk_at "M here"); (case p0 => assumption); (case p1 => assumption); k_whole); intro b' t' h' tk' hb' F' N')) | ((k_here; (with_reducible show wpAny _ _ (call (Value.ref 211) [Value.ref _, Value.ref _, Value.str _ _]) _ _ _); k_dflt (refine' place_okN ?kH ?hp ?p0 ?p1 ?p2 ?p3 ?p4 ?p5 ?p6 ?p7 ?p8 ?p9 ?p10 ?p11 ?_; (case hp => assumption); (case kH => walk_at "M here"); (case p0 => assumption); (case p1 => assumption); (case p2 => assumption); (case p3 => assumption); (case p4 => assumption); (case p5 => assumption); (case p6 => assumption); (case p7 => assumption); (case p8 => assumption); (case p9 => assumption); (case p10 => assumption); (case p11 => assumption); k_whole); intro e' g' h' tk' R' F' U')) | ((k_here; (with_reducible show wpAny _ _ (call (Value.ref 211) [Value.ref _, Value.ref _, Value.str _ _]) _ _ _); k_dflt (refine' place_okS ?kH ?hp ?p0 ?p1 ?p2 ?p3 ?p4 ?p5 ?p6 ?p7 ?p8 ?p9 ?p10 ?p11 ?_; (case hp => assumption); (case kH => walk_at "M here"); (case p0 => assumption); (case p1 => assumption); (case p2 => assumption); (case p3 => assumption); (case p4 => assumption); (case p5 => assumption); (case p6 => assumption); (case p7 => assumption); (case p8 => assumption); (case p9 => assumption); (case p10 => assumption); (case p11 => assumption); k_whole); intro t' h' tk' F' N'))) | ((with_reducible show wpAny _ _ (subscriptTail _ _ _ _) _ _ _); first | ((k_here; (with_reducible show wpAny _ _ (subscriptTail _ _ (Value.ref _) (Value.str _ _)) _ _ _); k_dflt (refine' kda_item (knd := PySem.strKind _ _) ?k1 ?k2 ?k3 (strKind_is _ _ _ _) ?k5 ?_; (case k1 => k_asm); (case k2 => k_mem); (case k3 => assumption); (case k5 => assumption))))) | ((with_reducible show wpAny _ _ (compareOp _ _ _) _ _ _); first | ((with_reducible show wpAny _ _ (compareOp CmpOp.Eq (Value.str _ _) (Value.str _ _)) _ _ _); (refine eq_known ?k1 ?_; (case k1 => assumption)))) | ((fail_if_success (with_reducible show wpAny _ _ (pyIter _) _ _ _)); walk1) | (dsimp only; (fail_if_success (with_reducible show wpAny _ _ (pyIter _) _ _ _)); walk1) | (leave1; walk_say "STEP leave1"; try dsimp only) | fail "no step"))
              exact exc _ herr _ _ _ _ (raised_sub (by assumption) up2) (by assumption) (by assumption)
      · have hscB : (r.sect == k) = false := beq_false_of_ne hsc
        have skip := hsec.trans (secF_skip hr2 hsc)
        ((try ((show let Q' := _; let E' := _; wpAny _ _ _ Q' E' _); intro Q' E')); repeat' (first | (k_unfold; (try dsimp only)) | ((with_reducible show wpAny _ _ (setItem _ _ _) _ _ _); first | ((with_reducible show wpAny _ _ (setItem (Value.ref _) (Value.str _ _) _) _ _ _); (k_here; k_dflt (refine' kda_set (knd := PySem.strKind _ _) ?F ?N ?U ?d (strKind_is _ _ _ _) ?z ?_; (case F => k_asm); (case N => k_asm); (case U => exact UpdF.head (by assumption)); (case d => assumption); (case z => assumption)); intro h' o' F' N' hd'))) | ((with_reducible show wpAny _ _ (call _ _) _ _ _); first | ((k_here; (with_reducible show wpAny _ _ (call (Value.ref 204) [Value.bytes _ _, Value.int _ _, Value.bytes _ _]) _ _ _); k_dflt (refine' put_ok ?kH ?p0 ?p1 ?_; (case kH => walk_at "M here"); (case p0 => omega); (case p1 => first | assumption | (rw [‹KBw.bInts _ = digs _ _›, digs_length]; omega)); k_whole); intro b' t' h' tk' hb' F' N')) | ((k_here; (with_reducible show wpAny _ _ (call (Value.ref 197) [Value.int _ _, Value.int _ _, Value.str _ _]) _ _ _); k_dflt (refine' field_okN ?kH ?hp ?p0 ?p1 ?_; (case hp => assumption); (case kH => walk_at "M here"); (case p0 => assumption); (case p1 => assumption); k_whole); intro e' g' h' tk' R' F' U')) | ((k_here; (with_reducible show wpAny _ _ (call (Value.ref 197) [Value.int _ _, Value.int _ _, Value.str _ _]) _ _ _); k_dflt (refine' field_okS ?kH ?hp ?p0 ?p1 ?_; (case hp => assumption); (case kH => walk_at "M here"); (case p0 => assumption); (case p1 => assumption); k_whole); intro b' t' h' tk' hb' F' N')) | ((k_here; (with_reducible show wpAny _ _ (call (Value.ref 211) [Value.ref _, Value.ref _, Value.str _ _]) _ _ _); k_dflt (refine' place_okN ?kH ?hp ?p0 ?p1 ?p2 ?p3 ?p4 ?p5 ?p6 ?p7 ?p8 ?p9 ?p10 ?p11 ?_; (case hp => assumption); (case kH => walk_at "M here"); (case p0 => assumption); (case p1 => assumption); (case p2 => assumption); (case p3 => assumption); (case p4 => assumption); (case p5 => assumption); (case p6 => assumption); (case p7 => assumption); (case p8 => assumption); (case p9 => assumption); (case p10 => assumption); (case p11 => assumption); k_whole); intro e' g' h' tk' R' F' U')) | ((k_here; (with_reducible show wpAny _ _ (call (Value.ref 211) [Value.ref _, Value.ref _, Value.str _ _]) _ _ _); k_dflt (refine' place_okS ?kH ?hp ?p0 ?p1 ?p2 ?p3 ?p4 ?p5 ?p6 ?p7 ?p8 ?p9 ?p10 ?p11 ?_; (case hp => assumption); (case kH => walk_at "M here"); (case p0 => assumption); (case p1 => assumption); (case p2 => assumption); (case p3 => assumption); (case p4 => assumption); (case p5 => assumption); (case p6 => assumption); (case p7 => assumption); (case p8 => assumption); (case p9 => assumption); (case p10 => assumption); (case p11 => assumption); k_whole); intro t' h' tk' F' N'))) | ((with_reducible show wpAny _ _ (subscriptTail _ _ _ _) _ _ _); first | ((k_here; (with_reducible show wpAny _ _ (subscriptTail _ _ (Value.ref _) (Value.str _ _)) _ _ _); k_dflt (refine' kda_item (knd := PySem.strKind _ _) ?k1 ?k2 ?k3 (strKind_is _ _ _ _) ?k5 ?_; (case k1 => k_asm); (case k2 => k_mem); (case k3 => assumption); (case k5 => assumption))))) | ((with_reducible show wpAny _ _ (compareOp _ _ _) _ _ _); first | ((with_reducible show wpAny _ _ (compareOp CmpOp.Eq (Value.str _ _) (Value.str _ _)) _ _ _); (refine eq_known ?k1 ?_; (case k1 => assumption)))) | ((fail_if_success (with_reducible show wpAny _ _ (pyIter _) _ _ _)); walk1) | (dsimp only; (fail_if_success (with_reducible show wpAny _ _ (pyIter _) _ _ _)); walk1) | (leave1; walk_say "STEP leave1"; try dsimp only) | fail "no step"))
        exact turn_end (by assumption) (by assumption) rfl off2 ⟨by with_unfolding_all rfl, by with_unfolding_all rfl, by with_unfolding_all rfl, by with_unfolding_all rfl, _, _, by with_unfolding_all rfl, skip, hl2, rfl⟩
    case done2 =>
      intro m₂ news₂ h2 tk2 hJ0' F2 N2
      refine Classical.byContradiction fun hG => ?_
      obtain ⟨ha, hb, hf, hn, b2, tb2, ho, hsec, hl2, rfl⟩ := hJ0'
      refine hG ?_
      clear hG
      rw [List.size_toArray, hr.length, List.drop_length] at hsec
      replace F2 := pins F2 (.cons ha (.cons hb (.cons hf (.cons hn (.cons ho .nil)))))
      have hknew : k ∉ acc.map (·.1) := by rw [hkeys]; exact nodup_take (f := fun p : Str × List Int => p.1) hnd hi2
      have hsz : kf.length ≤ sizeLine := by
        rw [hacc.length, ← List.length_map (f := (·.1)), hkeys, List.length_map, List.length_take, ← hkS.length]
        exact Nat.le_trans (Nat.min_le_right _ _) hkz
      ((try ((show let Q' := _; let E' := _; wpAny _ _ _ Q' E' _); intro Q' E')); repeat' (first | (k_unfold; (try dsimp only)) | ((with_reducible show wpAny _ _ (setItem _ _ _) _ _ _); first | ((with_reducible show wpAny _ _ (setItem (Value.ref _) (Value.str _ _) _) _ _ _); (k_here; k_dflt (refine' kda_set (knd := PySem.strKind _ _) ?F ?N ?U ?d (strKind_is _ _ _ _) ?z ?_; (case F => k_asm); (case N => k_asm); (case U => exact UpdF.head (by assumption)); (case d => assumption); (case z => assumption)); intro h' o' F' N' hd'))) | ((with_reducible show wpAny _ _ (call _ _) _ _ _); first | ((k_here; (with_reducible show wpAny _ _ (call (Value.ref 204) [Value.bytes _ _, Value.int _ _, Value.bytes _ _]) _ _ _); k_dflt (refine' put_ok ?kH ?p0 ?p1 ?_; (case kH => walk_at "M here"); (case p0 => omega); (case p1 => first | assumption | (rw [‹KBw.bInts _ = digs _ _›, digs_length]; omega)); k_whole); intro b' t' h' tk' hb' F' N')) | ((k_here; (with_reducible show wpAny _ _ (call (Value.ref 197) [Value.int _ _, Value.int _ _, Value.str _ _]) _ _ _); k_dflt (refine' field_okN ?kH ?hp ?p0 ?p1 ?_; (case hp => assumption); (case kH => walk_at "M here"); (case p0 => assumption); (case p1 => assumption); k_whole); intro e' g' h' tk' R' F' U')) | ((k_here; (with_reducible show wpAny _ _ (call (Value.ref 197) [Value.int _ _, Value.int _ _, Value.str _ _]) _ _ _); k_dflt (refine' field_okS ?kH ?hp ?p0 ?p1 ?_; (case hp => assumption); (case kH => walk_at "M here"); (case p0 => assumption); (case p1 => assumption); k_whole); intro b' t' h' tk' hb' F' N')) | ((k_here; (with_reducible show wpAny _ _ (call (Value.ref 211) [Value.ref _, Value.ref _, Value.str _ _]) _ _ _); k_dflt (refine' place_okN ?kH ?hp ?p0 ?p1 ?p2 ?p3 ?p4 ?p5 ?p6 ?p7 ?p8 ?p9 ?p10 ?p11 ?_; (case hp => assumption); (case kH => walk_at "M here"); (case p0 => assumption); (case p1 => assumption); (case p2 => assumption); (case p3 => assumption); (case p4 => assumption); (case p5 => assumption); (case p6 => assumption); (case p7 => assumption); (case p8 => assumption); (case p9 => assumption); (case p10 => assumption); (case p11 => assumption); k_whole); intro e' g' h' tk' R' F' U')) | ((k_here; (with_reducible show wpAny _ _ (call (Value.ref 211) [Value.ref _, Value.ref _, Value.str _ _]) _ _ _); k_dflt (refine' place_okS ?kH ?hp ?p0 ?p1 ?p2 ?p3 ?p4 ?p5 ?p6 ?p7 ?p8 ?p9 ?p10 ?p11 ?_; (case hp => assumption); (case kH => walk_at "M here"); (case p0 => assumption); (case p1 => assumption); (case p2 => assumption); (case p3 => assumption); (case p4 => assumption); (case p5 => assumption); (case p6 => assumption); (case p7 => assumption); (case p8 => assumption); (case p9 => assumption); (case p10 => assumption); (case p11 => assumption); k_whole); intro t' h' tk' F' N'))) | ((with_reducible show wpAny _ _ (subscriptTail _ _ _ _) _ _ _); first | ((k_here; (with_reducible show wpAny _ _ (subscriptTail _ _ (Value.ref _) (Value.str _ _)) _ _ _); k_dflt (refine' kda_item (knd := PySem.strKind _ _) ?k1 ?k2 ?k3 (strKind_is _ _ _ _) ?k5 ?_; (case k1 => k_asm); (case k2 => k_mem); (case k3 => assumption); (case k5 => assumption))))) | ((with_reducible show wpAny _ _ (compareOp _ _ _) _ _ _); first | ((with_reducible show wpAny _ _ (compareOp CmpOp.Eq (Value.str _ _) (Value.str _ _)) _ _ _); (refine eq_known ?k1 ?_; (case k1 => assumption)))) | ((fail_if_success (with_reducible show wpAny _ _ (pyIter _) _ _ _)); walk1) | (dsimp only; (fail_if_success (with_reducible show wpAny _ _ (pyIter _) _ _ _)); walk1) | (leave1; walk_say "STEP leave1"; try dsimp only) | fail "no step"))
      rename (Obj.IsDictOf _ _ (stored kf k _)) => hod2
      rw [stored_new hacc hknew] at hod2
      exact turn_end (news' := (d, _) :: news) (by assumption) (by assumption) rfl (off_new off) ⟨by with_unfolding_all rfl, by with_unfolding_all rfl, by with_unfolding_all rfl, _, _, _, rfl, hod2, hacc.snoc ⟨rfl, _, _, rfl, rfl⟩, hlf.trans (loadF_go hi2 hsec), take_keys hkeys hi2⟩
  case done =>
    intro m₁ news₁ h tk hJ0' F1 N1
    refine Classical.byContradiction fun hG => ?_
    obtain ⟨ha, hb, hf, o, kf, acc, rfl, hod, hacc, hlf, hkeys⟩ := hJ0'
    refine hG ?_
    clear hG
    rw [hkS.length, List.drop_length] at hlf
    replace F1 := pins F1 (.cons hf .nil)
    ((try ((show let Q' := _; let E' := _; wpAny _ _ _ Q' E' _); intro Q' E')); repeat' (first | (k_unfold; (try dsimp only)) | ((with_reducible show wpAny _ _ (setItem _ _ _) _ _ _); first | ((with_reducible show wpAny _ _ (setItem (Value.ref _) (Value.str _ _) _) _ _ _); (k_here; k_dflt (refine' kda_set (knd := PySem.strKind _ _) ?F ?N ?U ?d (strKind_is _ _ _ _) ?z ?_; (case F => k_asm); (case N => k_asm); (case U => exact UpdF.head (by assumption)); (case d => assumption); (case z => assumption)); intro h' o' F' N' hd'))) | ((with_reducible show wpAny _ _ (call _ _) _ _ _); first | ((k_here; (with_reducible show wpAny _ _ (call (Value.ref 204) [Value.bytes _ _, Value.int _ _, Value.bytes _ _]) _ _ _); k_dflt (refine' put_ok ?kH ?p0 ?p1 ?_; (case kH => walk_at "M here"); (case p0 => omega); (case p1 => first | assumption | (rw [‹KBw.bInts _ = digs _ _›, digs_length]; omega)); k_whole); intro b' t' h' tk' hb' F' N')) | ((k_here; (with_reducible show wpAny _ _ (call (Value.ref 197) [Value.int _ _, Value.int _ _, Value.str _ _]) _ _ _); k_dflt (refine' field_okN ?kH ?hp ?p0 ?p1 ?_; (case hp => assumption); (case kH => walk_at "M here"); (case p0 => assumption); (case p1 => assumption); k_whole); intro e' g' h' tk' R' F' U')) | ((k_here; (with_reducible show wpAny _ _ (call (Value.ref 197) [Value.int _ _, Value.int _ _, Value.str _ _]) _ _ _); k_dflt (refine' field_okS ?kH ?hp ?p0 ?p1 ?_; (case hp => assumption); (case kH => walk_at "M here"); (case p0 => assumption); (case p1 => assumption); k_whole); intro b' t' h' tk' hb' F' N')) | ((k_here; (with_reducible show wpAny _ _ (call (Value.ref 211) [Value.ref _, Value.ref _, Value.str _ _]) _ _ _); k_dflt (refine' place_okN ?kH ?hp ?p0 ?p1 ?p2 ?p3 ?p4 ?p5 ?p6 ?p7 ?p8 ?p9 ?p10 ?p11 ?_; (case hp => assumption); (case kH => walk_at "M here"); (case p0 => assumption); (case p1 => assumption); (case p2 => assumption); (case p3 => assumption); (case p4 => assumption); (case p5 => assumption); (case p6 => assumption); (case p7 => assumption); (case p8 => assumption); (case p9 => assumption); (case p10 => assumption); (case p11 => assumption); k_whole); intro e' g' h' tk' R' F' U')) | ((k_here; (with_reducible show wpAny _ _ (call (Value.ref 211) [Value.ref _, Value.ref _, Value.str _ _]) _ _ _); k_dflt (refine' place_okS ?kH ?hp ?p0 ?p1 ?p2 ?p3 ?p4 ?p5 ?p6 ?p7 ?p8 ?p9 ?p10 ?p11 ?_; (case hp => assumption); (case kH => walk_at "M here"); (case p0 => assumption); (case p1 => assumption); (case p2 => assumption); (case p3 => assumption); (case p4 => assumption); (case p5 => assumption); (case p6 => assumption); (case p7 => assumption); (case p8 => assumption); (case p9 => assumption); (case p10 => assumption); (case p11 => assumption); k_whole); intro t' h' tk' F' N'))) | ((with_reducible show wpAny _ _ (subscriptTail _ _ _ _) _ _ _); first | ((k_here; (with_reducible show wpAny _ _ (subscriptTail _ _ (Value.ref _) (Value.str _ _)) _ _ _); k_dflt (refine' kda_item (knd := PySem.strKind _ _) ?k1 ?k2 ?k3 (strKind_is _ _ _ _) ?k5 ?_; (case k1 => k_asm); (case k2 => k_mem); (case k3 => assumption); (case k5 => assumption))))) | ((with_reducible show wpAny _ _ (compareOp _ _ _) _ _ _); first | ((with_reducible show wpAny _ _ (compareOp CmpOp.Eq (Value.str _ _) (Value.str _ _)) _ _ _); (refine eq_known ?k1 ?_; (case k1 => assumption)))) | ((fail_if_success (with_reducible show wpAny _ _ (pyIter _) _ _ _)); walk1) | (dsimp only; (fail_if_success (with_reducible show wpAny _ _ (pyIter _) _ _ _)); walk1) | (leave1; walk_say "STEP leave1"; try dsimp only) | fail "no step"))
    refine ret _ hlf _ _ _ _ _ (by assumption) (by assumption) (lt_ne hlt) hlo hod hacc))
end

end
/-! part LPlace -/
section
theorem atLPlace : True := by
  w_top off
  exact trivial
abbrev tup3 (a b c : Value) : Obj := { cls := .type "tuple", data := .seq #[a, b, c] }
abbrev tup6 (a b c d e f : Value) : Obj := { cls := .type "tuple", data := .seq #[a, b, c, d, e, f] }
def SymTup (news : List (Addr × Obj)) (v : Value) (y : Sym) : Prop := ∃ x u1 u2 u3, v = .ref x ∧ (x, tup3 (.str y.name u1) (.str y.sect u2) (.int y.worth u3)) ∈ news
def RelTup (news : List (Addr × Obj)) (v : Value) (y : Rel) : Prop := ∃ x u1 u2 u3 u4 u5 u6, v = .ref x ∧ (x, tup6 (.str y.sect u1) (.int y.at_ u2) (.int y.width u3) (.str y.name u4) (.int y.worth u5) (.str y.way u6)) ∈ news
theorem SymTup.keeps {n n' : List (Addr × Obj)} (k : ∀ p ∈ n, p ∈ n') {v : Value} {y : Sym} (h : SymTup n v y) : SymTup n' v y := by
  obtain ⟨x, u1, u2, u3, e, a⟩ := h; exact ⟨x, u1, u2, u3, e, k _ a⟩
theorem RelTup.keeps {n n' : List (Addr × Obj)} (k : ∀ p ∈ n, p ∈ n') {v : Value} {y : Rel} (h : RelTup n v y) : RelTup n' v y := by
  obtain ⟨x, u1, u2, u3, u4, u5, u6, e, a⟩ := h; exact ⟨x, u1, u2, u3, u4, u5, u6, e, k _ a⟩
def lawSym (bf : Str → Int) (name : Str) : List Sym → Option Int
  | [] => none
  | y :: r => if y.name = name ∧ y.sect ≠ Str.ofString "" then some (if y.sect = Str.ofString "*" then y.worth else bf y.sect + y.worth) else lawSym bf name r
theorem lawSym_hit {bf : Str → Int} {name : Str} {y : Sym} {r : List Sym} (a : y.name = name) (b : y.sect ≠ Str.ofString "") : lawSym bf name (y :: r) = some (if y.sect = Str.ofString "*" then y.worth else bf y.sect + y.worth) := if_pos ⟨a, b⟩
theorem lawSym_miss {bf : Str → Int} {name : Str} {y : Sym} {r : List Sym} (a : y.name = name → y.sect = Str.ofString "") : lawSym bf name (y :: r) = lawSym bf name r := if_neg fun z => z.2 (a z.1)
theorem eq_of_bne {a b : Str} (h : (a != b) = false) : a = b := by simpa using h
theorem ne_of_bne' {a b : Str} (h : (a != b) = true) : a ≠ b := by simpa using h
theorem lawSym_absent {bf : Str → Int} {name : Str} : ∀ {syms : List Sym}, name ∉ syms.map (·.name) → lawSym bf name syms = none
  | [], _ => rfl
  | y :: r, h => by
    rw [List.map_cons, List.mem_cons, not_or] at h
    show (if _ then _ else _) = _
    rw [if_neg fun q => h.1 q.1.symm]
    exact lawSym_absent h.2
theorem place_lawSym {names : List Str} {bf : Str → Int} {name : Str} (h0 : name ≠ Str.ofString "") (hn : name ∉ names) : ∀ {syms : List Sym}, (syms.map (·.name)).Nodup → placeP names bf syms name = lawSym bf name syms := by
  intro syms
  unfold placeP
  rw [if_neg h0, if_neg hn]
  induction syms with
  | nil => intro _; rfl
  | cons y r ih =>
    intro hd
    rw [List.map_cons, List.nodup_cons] at hd
    show _ = (if _ then _ else _)
    rw [List.find?_cons]
    by_cases q : y.name = name
    · have hb : (y.name == name) = true := beq_iff_eq.mpr q
      rw [hb]
      by_cases q2 : y.sect = Str.ofString ""
      · rw [if_neg fun z => z.2 q2, lawSym_absent (by rw [← q]; exact hd.1)]; exact if_pos q2
      · rw [if_pos ⟨q, q2⟩]
        refine (if_neg q2).trans ?_
        by_cases q3 : y.sect = Str.ofString "*"
        · rw [if_pos q3, if_pos q3]
        · rw [if_neg q3, if_neg q3]
    · have hb : (y.name == name) = false := beq_false_of_ne q
      rw [hb, if_neg fun z => q z.1]
      exact ih hd.2
theorem lawSym_drop {bf : Str → Int} {name : Str} {syms : List Sym} {i : Nat} {y : Sym} (h : syms[i]? = some y) : lawSym bf name (syms.drop i) = lawSym bf name (y :: syms.drop (i + 1)) := by
  obtain ⟨hi, rfl⟩ := List.getElem?_eq_some_iff.mp h
  rw [List.drop_eq_getElem_cons hi]
def lpJ (bf : Str → Int) (name : Str) (u : Tok) (B : Addr) (syms : List Sym) (news : List (Addr × Obj)) (i : Nat) (m : Str → Option Value) (ns : List (Addr × Obj)) : Prop :=
  m (Str.ofString "name") = some (.str name u) ∧ m (Str.ofString "homes") = some (.ref B) ∧ lawSym bf name syms = lawSym bf name (syms.drop i) ∧ ns = news
theorem neq_known {prog : Program} {w : World} {A : Around} {E : Value → Shared → Prop} {s : Shared} {x y : Str} {t u : Tok} {c : Bool} {Q : Value → Shared → Prop} (e : (x == y) = c) (h : Q (.bool (!c)) s) : wpAny (model prog w) A (compareOp .NotEq (.str x t) (.str y u)) Q E s :=
  PyProof.Rows.ne_str (by unfold bne; rw [e]; exact h)
section
set_option maxHeartbeats 8000000 in
theorem lplace_ok {w : World} {A : Around} {base h₀ : Heap} {l : List Env} {L : Addr} {m : Str → Option Value} {s : Shared} {Q E : Value → Shared → Prop} {news : List (Addr × Obj)} {D Y B : Addr} {u : Tok} {name : Str} {vs : List Value} {c : Nat} {syms : List Sym} {oS oB : Obj} {kS kB : List (Str × Value)} {names : List Str} {bf : Str → Int}
    (H : Here 3 w A base l h₀ L m s.heap news) (hY : (Y, PySem.W.listOf vs.toArray c) ∈ news) (hs : All2 (SymTup news) vs syms)
    (hS : (D, oS) ∈ news) (hSd : oS.IsDictOf (PySem.strKind PySem.Challenge.pw_nn0048_01 w) kS) (hSl : (D == sysModules) = false) (hin : ∀ k, (valueAt kS k).isSome = decide (k ∈ names))
    (hB : (B, oB) ∈ news) (hBd : oB.IsDictOf (PySem.strKind PySem.Challenge.pw_nn0048_01 w) kB) (hbf : ∀ k ∈ names, ∃ t, valueAt kB k = some (.int (bf k) t)) (hsy : ∀ y ∈ syms, y.sect = Str.ofString "" ∨ y.sect = Str.ofString "*" ∨ y.sect ∈ names)
    (hdis : (syms.map (·.name)).Nodup)
    (ret : ∀ i, placeP names bf syms name = some i → ∀ t h' tk', Fr h₀ L h' m → News h₀ L h' news → Q (.int i t) { s with heap := h', toks := tk' })
    (non : placeP names bf syms name = none → ∀ h' tk', Fr h₀ L h' m → News h₀ L h' news → Q .none { s with heap := h', toks := tk' }) :
    wpAny (model PySem.Challenge.pw_nn0048_01 w) A (call (.ref 244) [.ref D, .ref Y, .ref B, .str name u]) Q E s := out_of (by exact trivial : Hold (by
  obtain ⟨e, el, Bl, F, X, N, T, hk, hd, hu⟩ := H
  subst e el
  refine wpAny_call ?_
  by_cases h0 : name = Str.ofString ""
  · have hp : placeP names bf syms name = some 0 := by unfold placeP; rw [if_pos h0]
    subst h0
    k_dflt ktr_enter
    ((try ((show let Q' := _; let E' := _; wpAny _ _ _ Q' E' _); intro Q' E')); repeat' (first | (k_unfold; (try dsimp only)) | ((with_reducible show wpAny _ _ (subscriptTail _ _ _ _) _ _ _); first | ((k_here; (with_reducible show wpAny _ _ (subscriptTail _ _ (Value.ref _) (Value.str _ _)) _ _ _); k_dflt (refine' kda_item (knd := PySem.strKind _ _) ?k1 ?k2 ?k3 (strKind_is _ _ _ _) ?k5 ?_; (case k1 => k_asm); (case k2 => assumption); (case k3 => assumption); (case k5 => assumption))))) | ((with_reducible show wpAny _ _ (compareOp _ _ _) _ _ _); first | ((with_reducible show wpAny _ _ (compareOp CmpOp.In (Value.str _ _) (Value.ref _)) _ _ _); (k_here; k_dflt (refine' kda_in (knd := PySem.strKind _ _) ?k1 ?k2 ?k3 ?k4 (strKind_is _ _ _ _) _ ?k5 ?_; (case k1 => k_asm); (case k2 => assumption); (case k3 => assumption); (case k4 => assumption); (case k5 => assumption)))) | ((with_reducible show wpAny _ _ (compareOp CmpOp.NotEq (Value.str _ _) (Value.str _ _)) _ _ _); (refine neq_known ?k1 ?_; (case k1 => assumption))) | ((with_reducible show wpAny _ _ (compareOp CmpOp.Eq (Value.str _ _) (Value.str _ _)) _ _ _); (refine eq_known ?k1 ?_; (case k1 => assumption)))) | ((with_reducible show wpAny _ _ (exec _ _) _ _ _); first | ((with_reducible show wpAny _ _ (exec (PySem.Stmt.For _ _ _ _ _) _) _ _ _); (k_here; (rename Fr _ _ _ _ => lF'); (with_unfolding_all refine' For_invVF lF' ?k1 ?k2 ?_; (case k1 => exact rfl); (case k2 => exact rfl); k_whole)))) | ((fail_if_success (with_reducible show wpAny _ _ (pyIter _) _ _ _)); walk1) | (dsimp only; (fail_if_success (with_reducible show wpAny _ _ (pyIter _) _ _ _)); walk1) | (leave1; walk_say "STEP leave1"; try dsimp only) | fail "no step"))
    exact ret _ hp _ _ _ (by assumption) (by assumption)
  have h0' : (name == Str.ofString "") = false := beq_false_of_ne h0
  by_cases hn : name ∈ names
  · have hp : placeP names bf syms name = some (bf name) := by unfold placeP; rw [if_neg h0, if_pos hn]
    have hi : (valueAt kS name).isSome = true := by rw [hin]; simp [hn]
    obtain ⟨tb, hb⟩ := hbf _ hn
    k_dflt ktr_enter
    ((try ((show let Q' := _; let E' := _; wpAny _ _ _ Q' E' _); intro Q' E')); repeat' (first | (k_unfold; (try dsimp only)) | ((with_reducible show wpAny _ _ (subscriptTail _ _ _ _) _ _ _); first | ((k_here; (with_reducible show wpAny _ _ (subscriptTail _ _ (Value.ref _) (Value.str _ _)) _ _ _); k_dflt (refine' kda_item (knd := PySem.strKind _ _) ?k1 ?k2 ?k3 (strKind_is _ _ _ _) ?k5 ?_; (case k1 => k_asm); (case k2 => assumption); (case k3 => assumption); (case k5 => assumption))))) | ((with_reducible show wpAny _ _ (compareOp _ _ _) _ _ _); first | ((with_reducible show wpAny _ _ (compareOp CmpOp.In (Value.str _ _) (Value.ref _)) _ _ _); (k_here; k_dflt (refine' kda_in (knd := PySem.strKind _ _) ?k1 ?k2 ?k3 ?k4 (strKind_is _ _ _ _) _ ?k5 ?_; (case k1 => k_asm); (case k2 => assumption); (case k3 => assumption); (case k4 => assumption); (case k5 => assumption)))) | ((with_reducible show wpAny _ _ (compareOp CmpOp.NotEq (Value.str _ _) (Value.str _ _)) _ _ _); (refine neq_known ?k1 ?_; (case k1 => assumption))) | ((with_reducible show wpAny _ _ (compareOp CmpOp.Eq (Value.str _ _) (Value.str _ _)) _ _ _); (refine eq_known ?k1 ?_; (case k1 => assumption)))) | ((with_reducible show wpAny _ _ (exec _ _) _ _ _); first | ((with_reducible show wpAny _ _ (exec (PySem.Stmt.For _ _ _ _ _) _) _ _ _); (k_here; (rename Fr _ _ _ _ => lF'); (with_unfolding_all refine' For_invVF lF' ?k1 ?k2 ?_; (case k1 => exact rfl); (case k2 => exact rfl); k_whole)))) | ((fail_if_success (with_reducible show wpAny _ _ (pyIter _) _ _ _)); walk1) | (dsimp only; (fail_if_success (with_reducible show wpAny _ _ (pyIter _) _ _ _)); walk1) | (leave1; walk_say "STEP leave1"; try dsimp only) | fail "no step"))
    exact ret _ hp _ _ _ (by assumption) (by assumption)
  have hi : (valueAt kS name).isSome = false := by rw [hin]; simp [hn]
  have hpl := place_lawSym (bf := bf) h0 hn hdis
  k_dflt ktr_enter
  ((try ((show let Q' := _; let E' := _; wpAny _ _ _ Q' E' _); intro Q' E')); repeat' (first | (k_unfold; (try dsimp only)) | ((with_reducible show wpAny _ _ (subscriptTail _ _ _ _) _ _ _); first | ((k_here; (with_reducible show wpAny _ _ (subscriptTail _ _ (Value.ref _) (Value.str _ _)) _ _ _); k_dflt (refine' kda_item (knd := PySem.strKind _ _) ?k1 ?k2 ?k3 (strKind_is _ _ _ _) ?k5 ?_; (case k1 => k_asm); (case k2 => assumption); (case k3 => assumption); (case k5 => assumption))))) | ((with_reducible show wpAny _ _ (compareOp _ _ _) _ _ _); first | ((with_reducible show wpAny _ _ (compareOp CmpOp.In (Value.str _ _) (Value.ref _)) _ _ _); (k_here; k_dflt (refine' kda_in (knd := PySem.strKind _ _) ?k1 ?k2 ?k3 ?k4 (strKind_is _ _ _ _) _ ?k5 ?_; (case k1 => k_asm); (case k2 => assumption); (case k3 => assumption); (case k4 => assumption); (case k5 => assumption)))) | ((with_reducible show wpAny _ _ (compareOp CmpOp.NotEq (Value.str _ _) (Value.str _ _)) _ _ _); (refine neq_known ?k1 ?_; (case k1 => assumption))) | ((with_reducible show wpAny _ _ (compareOp CmpOp.Eq (Value.str _ _) (Value.str _ _)) _ _ _); (refine eq_known ?k1 ?_; (case k1 => assumption)))) | ((with_reducible show wpAny _ _ (exec _ _) _ _ _); first | ((with_reducible show wpAny _ _ (exec (PySem.Stmt.For _ _ _ _ _) _) _ _ _); (k_here; (rename Fr _ _ _ _ => lF'); (with_unfolding_all refine' For_invVF lF' ?k1 ?k2 ?_; (case k1 => exact rfl); (case k2 => exact rfl); k_whole)))) | ((fail_if_success (with_reducible show wpAny _ _ (pyIter _) _ _ _)); walk1) | (dsimp only; (fail_if_success (with_reducible show wpAny _ _ (pyIter _) _ _ _)); walk1) | (leave1; walk_say "STEP leave1"; try dsimp only) | fail "no step"))
  refine forList ?eL (lpJ bf name u B syms news) rfl (by assumption) (by assumption) hY (fun i m n hj => hj.2.2.2 ▸ hY) ⟨rfl, rfl, by rw [List.drop_zero], rfl⟩ ?turn ?done
  case eL => rfl
  case turn =>
    intro i v m₁ news₁ h tk own hi2 hJ0' off F1 N1
    refine Classical.byContradiction fun hG => ?_
    obtain ⟨ho, hb, hz, rfl⟩ := hJ0'
    rw [List.getElem?_toArray] at hi2
    obtain ⟨y, hy, hv⟩ := hs.get hi2
    obtain ⟨x, u1, u2, u3, rfl, hx⟩ := hv
    refine hG ?_
    clear hG
    replace hx := List.mem_append_left own hx
    replace hB := List.mem_append_left own hB
    replace F1 := pinsT F1 (.cons ho (.cons hb .nil))
    have hcons := hz.trans (lawSym_drop hy)
    by_cases q : y.name = name
    · have qB : (y.name == name) = true := beq_iff_eq.mpr q
      by_cases q2 : y.sect = Str.ofString ""
      · have q2B : (y.sect == Str.ofString "") = true := beq_iff_eq.mpr q2
        have hgo := hcons.trans (lawSym_miss fun _ => q2)
        ((try ((show let Q' := _; let E' := _; wpAny _ _ _ Q' E' _); intro Q' E')); repeat' (first | (k_unfold; (try dsimp only)) | ((with_reducible show wpAny _ _ (subscriptTail _ _ _ _) _ _ _); first | ((k_here; (with_reducible show wpAny _ _ (subscriptTail _ _ (Value.ref _) (Value.str _ _)) _ _ _); k_dflt (refine' kda_item (knd := PySem.strKind _ _) ?k1 ?k2 ?k3 (strKind_is _ _ _ _) ?k5 ?_; (case k1 => k_asm); (case k2 => assumption); (case k3 => assumption); (case k5 => assumption))))) | ((with_reducible show wpAny _ _ (compareOp _ _ _) _ _ _); first | ((with_reducible show wpAny _ _ (compareOp CmpOp.In (Value.str _ _) (Value.ref _)) _ _ _); (k_here; k_dflt (refine' kda_in (knd := PySem.strKind _ _) ?k1 ?k2 ?k3 ?k4 (strKind_is _ _ _ _) _ ?k5 ?_; (case k1 => k_asm); (case k2 => assumption); (case k3 => assumption); (case k4 => assumption); (case k5 => assumption)))) | ((with_reducible show wpAny _ _ (compareOp CmpOp.NotEq (Value.str _ _) (Value.str _ _)) _ _ _); (refine neq_known ?k1 ?_; (case k1 => assumption))) | ((with_reducible show wpAny _ _ (compareOp CmpOp.Eq (Value.str _ _) (Value.str _ _)) _ _ _); (refine eq_known ?k1 ?_; (case k1 => assumption)))) | ((with_reducible show wpAny _ _ (exec _ _) _ _ _); first | ((with_reducible show wpAny _ _ (exec (PySem.Stmt.For _ _ _ _ _) _) _ _ _); (k_here; (rename Fr _ _ _ _ => lF'); (with_unfolding_all refine' For_invVF lF' ?k1 ?k2 ?_; (case k1 => exact rfl); (case k2 => exact rfl); k_whole)))) | ((fail_if_success (with_reducible show wpAny _ _ (pyIter _) _ _ _)); walk1) | (dsimp only; (fail_if_success (with_reducible show wpAny _ _ (pyIter _) _ _ _)); walk1) | (leave1; walk_say "STEP leave1"; try dsimp only) | fail "no step"))
        all_goals first
          | exact absurd q2 (ne_of_bne' (by assumption))
          | skip
        exact turn_end (by assumption) (by assumption) rfl off ⟨by with_unfolding_all rfl, by with_unfolding_all rfl, hgo, rfl⟩
      · have q2B : (y.sect == Str.ofString "") = false := beq_false_of_ne q2
        by_cases q3 : y.sect = Str.ofString "*"
        · have q3B : (y.sect == Str.ofString "*") = true := beq_iff_eq.mpr q3
          have hgo := hpl.trans (hcons.trans ((lawSym_hit q q2).trans (congrArg some (if_pos q3))))
          ((try ((show let Q' := _; let E' := _; wpAny _ _ _ Q' E' _); intro Q' E')); repeat' (first | (k_unfold; (try dsimp only)) | ((with_reducible show wpAny _ _ (subscriptTail _ _ _ _) _ _ _); first | ((k_here; (with_reducible show wpAny _ _ (subscriptTail _ _ (Value.ref _) (Value.str _ _)) _ _ _); k_dflt (refine' kda_item (knd := PySem.strKind _ _) ?k1 ?k2 ?k3 (strKind_is _ _ _ _) ?k5 ?_; (case k1 => k_asm); (case k2 => assumption); (case k3 => assumption); (case k5 => assumption))))) | ((with_reducible show wpAny _ _ (compareOp _ _ _) _ _ _); first | ((with_reducible show wpAny _ _ (compareOp CmpOp.In (Value.str _ _) (Value.ref _)) _ _ _); (k_here; k_dflt (refine' kda_in (knd := PySem.strKind _ _) ?k1 ?k2 ?k3 ?k4 (strKind_is _ _ _ _) _ ?k5 ?_; (case k1 => k_asm); (case k2 => assumption); (case k3 => assumption); (case k4 => assumption); (case k5 => assumption)))) | ((with_reducible show wpAny _ _ (compareOp CmpOp.NotEq (Value.str _ _) (Value.str _ _)) _ _ _); (refine neq_known ?k1 ?_; (case k1 => assumption))) | ((with_reducible show wpAny _ _ (compareOp CmpOp.Eq (Value.str _ _) (Value.str _ _)) _ _ _); (refine eq_known ?k1 ?_; (case k1 => assumption)))) | ((with_reducible show wpAny _ _ (exec _ _) _ _ _); first | ((with_reducible show wpAny _ _ (exec (PySem.Stmt.For _ _ _ _ _) _) _ _ _); (k_here; (rename Fr _ _ _ _ => lF'); (with_unfolding_all refine' For_invVF lF' ?k1 ?k2 ?_; (case k1 => exact rfl); (case k2 => exact rfl); k_whole)))) | ((fail_if_success (with_reducible show wpAny _ _ (pyIter _) _ _ _)); walk1) | (dsimp only; (fail_if_success (with_reducible show wpAny _ _ (pyIter _) _ _ _)); walk1) | (leave1; walk_say "STEP leave1"; try dsimp only) | fail "no step"))
          all_goals first
            | exact absurd (eq_of_bne (by assumption)) q2
            | skip
          refine turn_ret ?_
          dsimp only
          ((try ((show let Q' := _; let E' := _; wpAny _ _ _ Q' E' _); intro Q' E')); repeat' (first | (k_unfold; (try dsimp only)) | ((with_reducible show wpAny _ _ (subscriptTail _ _ _ _) _ _ _); first | ((k_here; (with_reducible show wpAny _ _ (subscriptTail _ _ (Value.ref _) (Value.str _ _)) _ _ _); k_dflt (refine' kda_item (knd := PySem.strKind _ _) ?k1 ?k2 ?k3 (strKind_is _ _ _ _) ?k5 ?_; (case k1 => k_asm); (case k2 => assumption); (case k3 => assumption); (case k5 => assumption))))) | ((with_reducible show wpAny _ _ (compareOp _ _ _) _ _ _); first | ((with_reducible show wpAny _ _ (compareOp CmpOp.In (Value.str _ _) (Value.ref _)) _ _ _); (k_here; k_dflt (refine' kda_in (knd := PySem.strKind _ _) ?k1 ?k2 ?k3 ?k4 (strKind_is _ _ _ _) _ ?k5 ?_; (case k1 => k_asm); (case k2 => assumption); (case k3 => assumption); (case k4 => assumption); (case k5 => assumption)))) | ((with_reducible show wpAny _ _ (compareOp CmpOp.NotEq (Value.str _ _) (Value.str _ _)) _ _ _); (refine neq_known ?k1 ?_; (case k1 => assumption))) | ((with_reducible show wpAny _ _ (compareOp CmpOp.Eq (Value.str _ _) (Value.str _ _)) _ _ _); (refine eq_known ?k1 ?_; (case k1 => assumption)))) | ((with_reducible show wpAny _ _ (exec _ _) _ _ _); first | ((with_reducible show wpAny _ _ (exec (PySem.Stmt.For _ _ _ _ _) _) _ _ _); (k_here; (rename Fr _ _ _ _ => lF'); (with_unfolding_all refine' For_invVF lF' ?k1 ?k2 ?_; (case k1 => exact rfl); (case k2 => exact rfl); k_whole)))) | ((fail_if_success (with_reducible show wpAny _ _ (pyIter _) _ _ _)); walk1) | (dsimp only; (fail_if_success (with_reducible show wpAny _ _ (pyIter _) _ _ _)); walk1) | (leave1; walk_say "STEP leave1"; try dsimp only) | fail "no step"))
          exact ret _ hgo _ _ _ (by assumption) (cb_drop (by assumption) fun p hp => List.mem_append_left _ hp)
        · have q3B : (y.sect == Str.ofString "*") = false := beq_false_of_ne q3
          have hgo := hpl.trans (hcons.trans ((lawSym_hit q q2).trans (congrArg some (if_neg q3))))
          obtain ⟨tb, hb⟩ := hbf y.sect (by rcases hsy y (List.mem_of_getElem? hy) with h | h | h; exact absurd h q2; exact absurd h q3; exact h)
          ((try ((show let Q' := _; let E' := _; wpAny _ _ _ Q' E' _); intro Q' E')); repeat' (first | (k_unfold; (try dsimp only)) | ((with_reducible show wpAny _ _ (subscriptTail _ _ _ _) _ _ _); first | ((k_here; (with_reducible show wpAny _ _ (subscriptTail _ _ (Value.ref _) (Value.str _ _)) _ _ _); k_dflt (refine' kda_item (knd := PySem.strKind _ _) ?k1 ?k2 ?k3 (strKind_is _ _ _ _) ?k5 ?_; (case k1 => k_asm); (case k2 => assumption); (case k3 => assumption); (case k5 => assumption))))) | ((with_reducible show wpAny _ _ (compareOp _ _ _) _ _ _); first | ((with_reducible show wpAny _ _ (compareOp CmpOp.In (Value.str _ _) (Value.ref _)) _ _ _); (k_here; k_dflt (refine' kda_in (knd := PySem.strKind _ _) ?k1 ?k2 ?k3 ?k4 (strKind_is _ _ _ _) _ ?k5 ?_; (case k1 => k_asm); (case k2 => assumption); (case k3 => assumption); (case k4 => assumption); (case k5 => assumption)))) | ((with_reducible show wpAny _ _ (compareOp CmpOp.NotEq (Value.str _ _) (Value.str _ _)) _ _ _); (refine neq_known ?k1 ?_; (case k1 => assumption))) | ((with_reducible show wpAny _ _ (compareOp CmpOp.Eq (Value.str _ _) (Value.str _ _)) _ _ _); (refine eq_known ?k1 ?_; (case k1 => assumption)))) | ((with_reducible show wpAny _ _ (exec _ _) _ _ _); first | ((with_reducible show wpAny _ _ (exec (PySem.Stmt.For _ _ _ _ _) _) _ _ _); (k_here; (rename Fr _ _ _ _ => lF'); (with_unfolding_all refine' For_invVF lF' ?k1 ?k2 ?_; (case k1 => exact rfl); (case k2 => exact rfl); k_whole)))) | ((fail_if_success (with_reducible show wpAny _ _ (pyIter _) _ _ _)); walk1) | (dsimp only; (fail_if_success (with_reducible show wpAny _ _ (pyIter _) _ _ _)); walk1) | (leave1; walk_say "STEP leave1"; try dsimp only) | fail "no step"))
          all_goals first
            | exact absurd (eq_of_bne (by assumption)) q2
            | skip
          refine turn_ret ?_
          dsimp only
          ((try ((show let Q' := _; let E' := _; wpAny _ _ _ Q' E' _); intro Q' E')); repeat' (first | (k_unfold; (try dsimp only)) | ((with_reducible show wpAny _ _ (subscriptTail _ _ _ _) _ _ _); first | ((k_here; (with_reducible show wpAny _ _ (subscriptTail _ _ (Value.ref _) (Value.str _ _)) _ _ _); k_dflt (refine' kda_item (knd := PySem.strKind _ _) ?k1 ?k2 ?k3 (strKind_is _ _ _ _) ?k5 ?_; (case k1 => k_asm); (case k2 => assumption); (case k3 => assumption); (case k5 => assumption))))) | ((with_reducible show wpAny _ _ (compareOp _ _ _) _ _ _); first | ((with_reducible show wpAny _ _ (compareOp CmpOp.In (Value.str _ _) (Value.ref _)) _ _ _); (k_here; k_dflt (refine' kda_in (knd := PySem.strKind _ _) ?k1 ?k2 ?k3 ?k4 (strKind_is _ _ _ _) _ ?k5 ?_; (case k1 => k_asm); (case k2 => assumption); (case k3 => assumption); (case k4 => assumption); (case k5 => assumption)))) | ((with_reducible show wpAny _ _ (compareOp CmpOp.NotEq (Value.str _ _) (Value.str _ _)) _ _ _); (refine neq_known ?k1 ?_; (case k1 => assumption))) | ((with_reducible show wpAny _ _ (compareOp CmpOp.Eq (Value.str _ _) (Value.str _ _)) _ _ _); (refine eq_known ?k1 ?_; (case k1 => assumption)))) | ((with_reducible show wpAny _ _ (exec _ _) _ _ _); first | ((with_reducible show wpAny _ _ (exec (PySem.Stmt.For _ _ _ _ _) _) _ _ _); (k_here; (rename Fr _ _ _ _ => lF'); (with_unfolding_all refine' For_invVF lF' ?k1 ?k2 ?_; (case k1 => exact rfl); (case k2 => exact rfl); k_whole)))) | ((fail_if_success (with_reducible show wpAny _ _ (pyIter _) _ _ _)); walk1) | (dsimp only; (fail_if_success (with_reducible show wpAny _ _ (pyIter _) _ _ _)); walk1) | (leave1; walk_say "STEP leave1"; try dsimp only) | fail "no step"))
          exact ret _ hgo _ _ _ (by assumption) (cb_drop (by assumption) fun p hp => List.mem_append_left _ hp)
    · have qB : (y.name == name) = false := beq_false_of_ne q
      have hgo := hcons.trans (lawSym_miss fun z => absurd z q)
      ((try ((show let Q' := _; let E' := _; wpAny _ _ _ Q' E' _); intro Q' E')); repeat' (first | (k_unfold; (try dsimp only)) | ((with_reducible show wpAny _ _ (subscriptTail _ _ _ _) _ _ _); first | ((k_here; (with_reducible show wpAny _ _ (subscriptTail _ _ (Value.ref _) (Value.str _ _)) _ _ _); k_dflt (refine' kda_item (knd := PySem.strKind _ _) ?k1 ?k2 ?k3 (strKind_is _ _ _ _) ?k5 ?_; (case k1 => k_asm); (case k2 => assumption); (case k3 => assumption); (case k5 => assumption))))) | ((with_reducible show wpAny _ _ (compareOp _ _ _) _ _ _); first | ((with_reducible show wpAny _ _ (compareOp CmpOp.In (Value.str _ _) (Value.ref _)) _ _ _); (k_here; k_dflt (refine' kda_in (knd := PySem.strKind _ _) ?k1 ?k2 ?k3 ?k4 (strKind_is _ _ _ _) _ ?k5 ?_; (case k1 => k_asm); (case k2 => assumption); (case k3 => assumption); (case k4 => assumption); (case k5 => assumption)))) | ((with_reducible show wpAny _ _ (compareOp CmpOp.NotEq (Value.str _ _) (Value.str _ _)) _ _ _); (refine neq_known ?k1 ?_; (case k1 => assumption))) | ((with_reducible show wpAny _ _ (compareOp CmpOp.Eq (Value.str _ _) (Value.str _ _)) _ _ _); (refine eq_known ?k1 ?_; (case k1 => assumption)))) | ((with_reducible show wpAny _ _ (exec _ _) _ _ _); first | ((with_reducible show wpAny _ _ (exec (PySem.Stmt.For _ _ _ _ _) _) _ _ _); (k_here; (rename Fr _ _ _ _ => lF'); (with_unfolding_all refine' For_invVF lF' ?k1 ?k2 ?_; (case k1 => exact rfl); (case k2 => exact rfl); k_whole)))) | ((fail_if_success (with_reducible show wpAny _ _ (pyIter _) _ _ _)); walk1) | (dsimp only; (fail_if_success (with_reducible show wpAny _ _ (pyIter _) _ _ _)); walk1) | (leave1; walk_say "STEP leave1"; try dsimp only) | fail "no step"))
      exact turn_end (by assumption) (by assumption) rfl off ⟨by with_unfolding_all rfl, by with_unfolding_all rfl, hgo, rfl⟩
  case done =>
    intro m₁ news₁ h tk hJ0' F1 N1
    refine Classical.byContradiction fun hG => ?_
    obtain ⟨ho, hb, hz, rfl⟩ := hJ0'
    refine hG ?_
    clear hG
    rw [List.size_toArray, hs.length, List.drop_length] at hz
    ((try ((show let Q' := _; let E' := _; wpAny _ _ _ Q' E' _); intro Q' E')); repeat' (first | (k_unfold; (try dsimp only)) | ((with_reducible show wpAny _ _ (subscriptTail _ _ _ _) _ _ _); first | ((k_here; (with_reducible show wpAny _ _ (subscriptTail _ _ (Value.ref _) (Value.str _ _)) _ _ _); k_dflt (refine' kda_item (knd := PySem.strKind _ _) ?k1 ?k2 ?k3 (strKind_is _ _ _ _) ?k5 ?_; (case k1 => k_asm); (case k2 => assumption); (case k3 => assumption); (case k5 => assumption))))) | ((with_reducible show wpAny _ _ (compareOp _ _ _) _ _ _); first | ((with_reducible show wpAny _ _ (compareOp CmpOp.In (Value.str _ _) (Value.ref _)) _ _ _); (k_here; k_dflt (refine' kda_in (knd := PySem.strKind _ _) ?k1 ?k2 ?k3 ?k4 (strKind_is _ _ _ _) _ ?k5 ?_; (case k1 => k_asm); (case k2 => assumption); (case k3 => assumption); (case k4 => assumption); (case k5 => assumption)))) | ((with_reducible show wpAny _ _ (compareOp CmpOp.NotEq (Value.str _ _) (Value.str _ _)) _ _ _); (refine neq_known ?k1 ?_; (case k1 => assumption))) | ((with_reducible show wpAny _ _ (compareOp CmpOp.Eq (Value.str _ _) (Value.str _ _)) _ _ _); (refine eq_known ?k1 ?_; (case k1 => assumption)))) | ((with_reducible show wpAny _ _ (exec _ _) _ _ _); first | ((with_reducible show wpAny _ _ (exec (PySem.Stmt.For _ _ _ _ _) _) _ _ _); (k_here; (rename Fr _ _ _ _ => lF'); (with_unfolding_all refine' For_invVF lF' ?k1 ?k2 ?_; (case k1 => exact rfl); (case k2 => exact rfl); k_whole)))) | ((fail_if_success (with_reducible show wpAny _ _ (pyIter _) _ _ _)); walk1) | (dsimp only; (fail_if_success (with_reducible show wpAny _ _ (pyIter _) _ _ _)); walk1) | (leave1; walk_say "STEP leave1"; try dsimp only) | fail "no step"))
    exact non (hpl.trans hz) _ _ (by assumption) (by assumption)))
end

end
/-! part Lb -/
section
theorem atLb : True := by
  w_top off
  exact trivial
section
variable {prog : Program} {w : World} {A : Around} {E : Value → Shared → Prop} {s : Shared} {b : Array UInt8} {t : Tok}
theorem lb_hint {Q : Bool → Shared → Prop} (h : Q false s) : wpAny (model prog w) A (Builtin.List.listLengthHint (.bytes b t)) Q E s := out_of (by exact trivial : Hold (by
  unfold Builtin.List.listLengthHint
  refine wpAny_bind (wpAny_specialOf (typeIs_bytes s b t) FB.slot_bytes_len.lookup ?_)
  generalize hid : ("bytes.__len__" : String) = id0
  wp_delta
  rw [show splitId id0 = some ("bytes", "__len__") from by subst hid; decide +kernel]
  subst hid
  refine wpAny_bind (wpAny_isInstance (T := "bytes") (b := true) (typeIs_bytes s b t) (by rw [isSubtype_type]; kernel_rfl) ?_)
  refine wpAny_ite_split (fun hab => absurd hab (by decide)) (fun _ => ?_)
  refine wpAny_ite_split (fun _ => ?_) (fun hab => absurd (by decide +kernel) hab)
  exact wpAny_bind (wpAny_typeOf (typeIs_bytes s b t) (wpAny_pure h))))
theorem lb_extend {R : Result → Shared → Prop} (hh : A.handled = none) (hlen : b.size ≤ 2 ^ 24) (S : Addr) (res : Value) (c₀ : Nat) (hS : s.heap.get? S = some { cls := .type "list", data := .seq #[] c₀ })
    (hR : ∀ h' tk acc' c', (∀ b o, b ≠ S → s.heap.get? b = some o → h'.get? b = some o) → h'.get? S = some { cls := .type "list", dict := none, data := .seq acc' c', slots := #[] } →
      ItemsOf (fun i v => ∃ c u, b[i]? = some c ∧ v = .int (c.toNat : Int) u) acc' b.size → R (.ok (.ret res)) { s with heap := h', toks := tk }) :
    wpAny (model prog w) A.in1 (Builtin.List.listExtendWith (.ref S) (.bytes b t) res)
      (fun fin s' => match fin with | .done f => R (.ok f) s' | .again c' => c'.quiet = true ∧ codeAny (model prog w) A c' R s') (fun e s' => R (.error e) s') s := out_of (by exact trivial : Hold (by
  have hSlt : S < s.heap.objs.size := Heap.lt_size hS
  have hSI : S ≠ s.heap.objs.size := Nat.ne_of_lt hSlt
  have hSf : S ∉ [s.heap.objs.size] := fun hm => hSI (List.mem_singleton.mp hm)
  have W := (KBw.walks (prog := prog) (w := w) (A := A.in1) hh s.heap.objs.size b t).toS
  have key : ∀ (h : Heap) (c₁ tk : Nat), KBw.IsBytesIter h s.heap.objs.size b t 0 → (∀ b o, b ≠ S → s.heap.get? b = some o → h.get? b = some o) →
      h.get? S = some { cls := .type "list", data := .seq #[] c₁ } → codeAny (model prog w) A (.builtin "list.extend.loop" ⟨[.ref S, .ref s.heap.objs.size, res], []⟩) R { s with heap := h, toks := tk } := by
    intro h c₁ tk hit hk hS₁
    refine codeAny_extend_loopS W (by rw [sizeLine_eq]; omega) S hSf res b.size 0 _ #[] c₁ rfl (Nat.zero_le _) hit hS₁ (ItemsOf.nil _) fun s' acc' c' hm hS' hacc => ?_
    rw [Moved.eq_with hm]
    refine hR s'.heap s'.toks acc' c' (fun b o hb e => hm.heap b o (fun hmem => ?_) (hk b o hb e)) hS' hacc
    rcases List.mem_cons.mp hmem with e' | hmem
    · exact hb e'
    · exact absurd (Heap.lt_size e) (by rw [List.mem_singleton.mp hmem]; exact Nat.lt_irrefl _)
  unfold Builtin.List.listExtendWith
  refine wpAny_bind (wpAny_typeOf (typeIs_bytes s b t) ?_)
  have h1 : Builtin.List.listSameRef (.ref S) (.bytes b t) = false := rfl
  have h2 : (Value.type "bytes" == Value.type "list") = false := by decide
  have h3 : (Value.type "bytes" == Value.type "tuple") = false := by decide
  simp only [h1, h2, h3, Bool.or_false, Bool.false_eq_true, if_false]
  refine wpAny_bind (KBw.pyIter_bytes ?_)
  refine wpAny_bind (wpAny_holding (lb_hint ?_))
  have hS₁ := Heap.get?_push_of_some { cls := .type "bytes_iterator", data := .fields #[.bytes b t, .int 0 0] } hS
  refine wpAny_ite_split (fun hab => absurd hab (by decide +kernel)) (fun _ => wpAny_pure ⟨plainId_quiet F.plain_extend_loop _, key _ c₀ _ ⟨_, Heap.get?_push_size _ rfl, rfl, rfl⟩ (fun b o _ e => Heap.get?_push_of_some _ e) hS₁⟩)))
theorem lb_init {R : Result → Shared → Prop} (hh : A.handled = none) (hlen : b.size ≤ 2 ^ 24) (S : Addr) (hS : s.heap.get? S = some { cls := .type "list", data := .seq #[] })
    (hR : ∀ h' tk acc' c', (∀ b o, b ≠ S → s.heap.get? b = some o → h'.get? b = some o) → h'.get? S = some { cls := .type "list", dict := none, data := .seq acc' c', slots := #[] } →
      ItemsOf (fun i v => ∃ c u, b[i]? = some c ∧ v = .int (c.toNat : Int) u) acc' b.size → R (.ok (.ret .none)) { s with heap := h', toks := tk }) :
    wpAny (model prog w) A.in1 (Builtin.«list.__init__» ⟨[.ref S, .bytes b t], []⟩)
      (fun fin s' => match fin with | .done f => R (.ok f) s' | .again c' => c'.quiet = true ∧ codeAny (model prog w) A c' R s') (fun e s' => R (.error e) s') s := out_of (by exact trivial : Hold (by
  show wpAny _ _ (do let old ← Builtin.List.listItems (.ref S); Builtin.List.listUpdate (.ref S) (fun _ => #[]); letGo old.toList.reverse; Builtin.List.listExtendWith (.ref S) (.bytes b t) .none) _ _ s
  refine wpAny_bind ?_
  unfold Builtin.List.listItems
  refine wpAny_bind (wpAny_seqItems hS rfl (wpAny_pure ?_))
  show wpAny _ _ (updateSeq S (fun _ => #[]) >>= fun _ => letGo (#[] : Array Value).toList.reverse >>= fun _ => Builtin.List.listExtendWith (.ref S) (.bytes b t) .none) _ _ s
  refine wpAny_bind (wpAny_updateSeq hS rfl ?_)
  have hS₂ := Heap.get?_update_self (Obj.mapSeq (fun _ => (#[] : Array Value))) hS rfl
  have oth : ∀ b o, b ≠ S → s.heap.get? b = some o → (s.heap.update S (Obj.mapSeq (fun _ => (#[] : Array Value)))).get? b = some o :=
    fun b o hb e => (Heap.get?_update_other _ _ (Ne.symm hb)).trans e
  refine wpAny_bind (wpAny_letGo ?_)
  refine lb_extend hh hlen S .none _ hS₂ fun h' tk acc' c' hk hS' hacc => ?_
  exact hR h' tk acc' c' (fun b o hb e => hk b o hb (oth b o hb e)) hS' hacc))
theorem lb_call {Q : Value → Shared → Prop} (hh : A.handled = none) (hlen : b.size ≤ 2 ^ 24)
    (hQ : ∀ h' tk acc' c', (∀ b o, s.heap.get? b = some o → h'.get? b = some o) →
      h'.get? s.heap.objs.size = some { cls := .type "list", dict := none, data := .seq acc' c', slots := #[] } → ItemsOf (fun i v => ∃ c u, b[i]? = some c ∧ v = .int (c.toNat : Int) u) acc' b.size → Q (.ref s.heap.objs.size) { s with heap := h', toks := tk }) :
    wpAny (model prog w) A (call (.type "list") [.bytes b t]) Q E s := out_of (by exact trivial : Hold (by
  refine callType_codes (Q₁ := fun obj s₁ => obj = .ref s.heap.objs.size ∧ s₁ = { s with heap := s.heap.push { cls := .type "list", data := .seq #[] } }) F.called_list (F.typeCall_list_1 _) F.entry_list_init
    (code_list_new _ ⟨rfl, rfl⟩) fun obj s₁ h₁ => ?_
  obtain ⟨rfl, rfl⟩ := h₁
  have hS : (s.heap.push { cls := .type "list", data := .seq #[] }).get? s.heap.objs.size = some { cls := .type "list", data := .seq #[] } := Heap.get?_push_size _ rfl
  refine ⟨⟨_, hS, rfl⟩, F.args_list_init_2 _ _, lb_init (A := A.in1) hh hlen _ hS fun h' tk acc' c' hk hS' hacc => ?_⟩
  exact ⟨rfl, hQ h' tk acc' c' (fun b o e => hk b o (Nat.ne_of_lt (Heap.lt_size e)) (Heap.get?_push_of_some _ e)) hS' hacc⟩))
theorem ints_at : ∀ {vs : List Value} {ks : List Int}, vs.length = ks.length → (∀ (j : Nat) (v : Value), vs[j]? = some v → ∃ (k : Int) (u : Tok), ks[j]? = some k ∧ v = Value.int k u) → IntsAre vs ks
  | [], [], _, _ => .nil
  | [], _ :: _, h, _ => nomatch h
  | _ :: _, [], h, _ => nomatch h
  | v :: vs, k :: ks, h, q => by
    obtain ⟨k', u, e1, rfl⟩ := q 0 v rfl
    cases e1
    exact .cons k u (ints_at (Nat.succ.inj h) fun j v hj => q (j + 1) v hj)
theorem list_bytes_K {h₀ : Heap} {L : Addr} {m : Str → Option Value} {news : List (Addr × Obj)} {Q : Value → Shared → Prop} (hh : A.handled = none) (F : Fr h₀ L s.heap m) (N : News h₀ L s.heap news) (hz : (KBw.bInts b).length ≤ 1000)
    (h : ∀ us c h' tk D, Fr h₀ L h' m → News h₀ L h' ((D, PySem.W.listOf (List.toArray us) c) :: news) → (∀ p ∈ news, p.1 < D) → IntsAre us (KBw.bInts b) → Q (.ref D) { s with heap := h', toks := tk }) :
    wpAny (model prog w) A (call (.type "list") [.bytes b t]) Q E s := out_of (by exact trivial : Hold (by
  refine lb_call hh (by rw [← KBw.ints_length]; omega) fun h' tk acc c hk hD hI => ?_
  have hD' : h'.get? s.heap.objs.size = some (PySem.W.listOf (List.toArray acc.toList) c) := by
    rw [Array.toArray_toList]
    exact hD
  refine h acc.toList c h' tk _ (F.keeps hk) (news_pushed F N hk hD' rfl) (fun p hp => Heap.lt_size (N p hp).1) (ints_at (by rw [Array.length_toList, hI.1, KBw.ints_length]) fun j v hj => ?_)
  obtain ⟨c, u, e, rfl⟩ := hI.2 j v (by rw [← hj, Array.getElem?_toList])
  exact ⟨_, u, KBw.ints_get e, rfl⟩))
end

end
/-! part LLoad -/
section
theorem atLLoad : True := by
  w_top off
  exact trivial
section
variable {prog : Program} {w : World} {A : Around} {E : Value → Shared → Prop} {s : Shared} {a b : Int} {t u : Tok} {Q : Value → Shared → Prop}
theorem pow2_x {n : Int} (h0 : 0 ≤ n) (h1 : n ≤ 64) (h : Q (.int (2 ^ n.toNat) s.toks) { s with toks := s.toks + 1 }) : wpAny (model prog w) A (binaryOp .Pow (.int 2 t) (.int n u)) Q E s :=
  pow_int_small h0 (by omega) (by decide) h
theorem pow256_x {n : Nat} (h1 : (n : Int) ≤ 8) (h : Q (.int (256 ^ n) s.toks) { s with toks := s.toks + 1 }) : wpAny (model prog w) A (binaryOp .Pow (.int 256 t) (.int n u)) Q E s :=
  pow_int_small (by omega) (by omega) (by decide) h
theorem log_256 : ∀ n : Fin 8, ((256 : Int) ^ n.1).natAbs.log2 < 9000 := by decide +kernel
theorem fdiv_256 {n : Nat} (hn : n < 8) (h : Q (.int (a / 256 ^ n) s.toks) { s with toks := s.toks + 1 }) : wpAny (model prog w) A (binaryOp .FloorDiv (.int a t) (.int (256 ^ n) u)) Q E s := by
  have p : (0 : Int) < 256 ^ n := Int.pow_pos (by decide)
  exact floordiv_int (by omega) (by rw [Int.fdiv_eq_ediv_of_nonneg _ (Int.le_of_lt p)]; exact h) (.inl (PyProof.noPylong_of_log2 (log_256 ⟨n, hn⟩)))
theorem mod_256 (h : Q (.int (a % 256) s.toks) { s with toks := s.toks + 1 }) : wpAny (model prog w) A (binaryOp .Mod (.int a t) (.int 256 u)) Q E s :=
  mod_int' (by decide) (by rw [Int.fmod_eq_emod_of_nonneg _ (by decide)]; exact h)
theorem set_at {h₀ : Heap} {L D : Addr} {m : Str → Option Value} {news news' : List (Addr × Obj)} {vs : List Value} {ns : List Int} {n k : Nat} {j x : Int} {Q : Unit → Shared → Prop} (F : Fr h₀ L s.heap m) (N : News h₀ L s.heap news) (hj : j = (k : Int)) (U : Upd D (PySem.W.listOf vs.toArray n) (PySem.W.listOf (vs.set k (.int x u)).toArray n) news news') (hi : IntsAre vs ns) (h1 : k < ns.length ∧ ns.length ≤ 1000)
    (h : ∀ h', Fr h₀ L h' m → News h₀ L h' news' → IntsAre (vs.set k (.int x u)) (ns.set k x) → Q () { s with heap := h' }) :
    wpAny (model prog w) A (setItem (.ref D) (.int j t) (.int x u)) Q E s := by
  subst hj
  exact ksa_set F N U hi (by omega) (by omega) (by omega) fun h' F' N' i _ _ => h h' F' N' i
end
theorem with_list {h₀ h' : Heap} {L O : Addr} {us : List Value} {c : Nat} {rest : List (Addr × Obj)} {G : Prop} (_ : News h₀ L h' ((O, PySem.W.listOf (List.toArray us) c) :: rest)) (_ : ∀ p ∈ rest, p.1 < O) (k : ∀ O' c', O' = O → c' = c → G) : G := k O c rfl rfl
theorem with_top {l : List (Addr × Obj)} {D : Addr} {G : Prop} (_ : ∀ p ∈ l, p.1 < D) (k : ∀ O, O = D → G) : G := k D rfl
theorem news_tail {h₀ h : Heap} {L : Addr} {x : Addr × Obj} {l : List (Addr × Obj)} (N : News h₀ L h (x :: l)) : News h₀ L h l := cb_drop N fun p hp => .tail _ hp
theorem secF_goL {names : List Str} {bf : Str → Int} {syms : List Sym} {nm : Str} {ks : List Int} {rels : List Rel} {r : Rel} {v : Int} {j : Nat} (hr : rels[j]? = some r) (hsc : r.sect = nm) (hp : worthP names bf syms nm r = some v) (hf : fitsP v r.width r.way) :
    secF names bf syms nm ks (rels.drop j) = secF names bf syms nm (putP ks r.at_ r.width v) (rels.drop (j + 1)) := by
  rw [secF_drop hr]; show (if r.sect = nm then _ else _) = _; rw [if_pos hsc, hp]; exact if_pos hf
theorem fitL {worth : Int} {n : Nat} {way : Str} (a : (way == Str.ofString "abs") = true) (b : -2 ^ Int.toNat (8 * (n : Int) - 1) ≤ worth) (c : worth < 2 ^ Int.toNat (8 * (n : Int))) : fitsP worth n way := by
  rw [eM] at b; rw [eN] at c; refine ⟨b, ?_⟩; rw [if_pos (beq_iff_eq.mp a)]; exact c
theorem nofL {worth : Int} {n : Nat} {way : Str} (a : (way == Str.ofString "abs") = true) (c : ¬ worth < 2 ^ Int.toNat (8 * (n : Int))) : ¬ fitsP worth n way := by
  rw [eN] at c; rintro ⟨_, q⟩; rw [if_pos (beq_iff_eq.mp a)] at q; exact c q
def putI (ks : List Int) (at' : Nat) (v : Int) (i : Nat) : List Int := ks.take at' ++ digs v i ++ ks.drop (at' + i)
theorem putI_zero (ks : List Int) (at' : Nat) (v : Int) : putI ks at' v 0 = ks := by simp [putI, digs]
theorem putI_length {ks : List Int} {at' i : Nat} {v : Int} (h : at' + i ≤ ks.length) : (putI ks at' v i).length = ks.length := by
  simp only [putI, List.length_append, List.length_take, List.length_drop, digs_length]; omega
theorem putI_succ {ks : List Int} {at' i : Nat} {v : Int} (h : at' + i < ks.length) : (putI ks at' v i).set (at' + i) (v / 256 ^ i % 256) = putI ks at' v (i + 1) := out_of (by exact trivial : Hold (by
  have hl : (ks.take at' ++ digs v i).length = at' + i := by simp only [List.length_append, List.length_take, digs_length]; omega
  unfold putI
  rw [List.drop_eq_getElem_cons h, List.set_append_right _ _ (by omega), hl, Nat.sub_self, List.set_cons_zero, digs_succ]
  simp [Nat.add_assoc]))
theorem putI_in {ks : List Int} {at' i : Nat} {v : Int} (h : ∀ k ∈ ks, 0 ≤ k ∧ k < 256) : ∀ k ∈ putI ks at' v i, 0 ≤ k ∧ k < 256 := out_of (by exact trivial : Hold (by
  intro k hk
  rcases List.mem_append.mp hk with hk | hk
  · rcases List.mem_append.mp hk with hk | hk
    · exact h k (List.mem_of_mem_take hk)
    · exact digs_in _ _ k hk
  · exact h k (List.mem_of_mem_drop hk)))
section
variable {w : World} {A : Around} {base h₀ : Heap} {l : List Env} {L : Addr} {m : Str → Option Value} {s : Shared} {Q E : Value → Shared → Prop} {news : List (Addr × Obj)} {D Y B : Addr} {u : Tok} {name : Str} {vs : List Value} {c : Nat} {syms : List Sym} {oS oB : Obj} {kS kB : List (Str × Value)} {names : List Str} {bf : Str → Int}
theorem lplace_okS {i : Int}
    (H : Here 3 w A base l h₀ L m s.heap news) (hp : placeP names bf syms name = some i) (hY : (Y, PySem.W.listOf vs.toArray c) ∈ news) (hs : All2 (SymTup news) vs syms)
    (hS : (D, oS) ∈ news) (hSd : oS.IsDictOf (PySem.strKind PySem.Challenge.pw_nn0048_01 w) kS) (hSl : (D == sysModules) = false) (hin : ∀ k, (valueAt kS k).isSome = decide (k ∈ names))
    (hB : (B, oB) ∈ news) (hBd : oB.IsDictOf (PySem.strKind PySem.Challenge.pw_nn0048_01 w) kB) (hbf : ∀ k ∈ names, ∃ t, valueAt kB k = some (.int (bf k) t)) (hsy : ∀ y ∈ syms, y.sect = Str.ofString "" ∨ y.sect = Str.ofString "*" ∨ y.sect ∈ names)
    (hdis : (syms.map (·.name)).Nodup)
    (ret : ∀ t h' tk', Fr h₀ L h' m → News h₀ L h' news → Q (.int i t) { s with heap := h', toks := tk' }) :
    wpAny (model PySem.Challenge.pw_nn0048_01 w) A (call (.ref 244) [.ref D, .ref Y, .ref B, .str name u]) Q E s :=
  lplace_ok H hY hs hS hSd hSl hin hB hBd hbf hsy hdis (fun j hj => by rw [hp] at hj; cases hj; exact ret) fun q => by rw [hp] at q; cases q
theorem lplace_okN
    (H : Here 3 w A base l h₀ L m s.heap news) (hp : placeP names bf syms name = none) (hY : (Y, PySem.W.listOf vs.toArray c) ∈ news) (hs : All2 (SymTup news) vs syms)
    (hS : (D, oS) ∈ news) (hSd : oS.IsDictOf (PySem.strKind PySem.Challenge.pw_nn0048_01 w) kS) (hSl : (D == sysModules) = false) (hin : ∀ k, (valueAt kS k).isSome = decide (k ∈ names))
    (hB : (B, oB) ∈ news) (hBd : oB.IsDictOf (PySem.strKind PySem.Challenge.pw_nn0048_01 w) kB) (hbf : ∀ k ∈ names, ∃ t, valueAt kB k = some (.int (bf k) t)) (hsy : ∀ y ∈ syms, y.sect = Str.ofString "" ∨ y.sect = Str.ofString "*" ∨ y.sect ∈ names)
    (hdis : (syms.map (·.name)).Nodup)
    (non : ∀ h' tk', Fr h₀ L h' m → News h₀ L h' news → Q .none { s with heap := h', toks := tk' }) :
    wpAny (model PySem.Challenge.pw_nn0048_01 w) A (call (.ref 244) [.ref D, .ref Y, .ref B, .str name u]) Q E s :=
  lplace_ok H hY hs hS hSd hSl hin hB hBd hbf hsy hdis (fun j hj => by rw [hp] at hj; cases hj) fun _ => non
end
def llJ1 (w : World) (names : List Str) (bf : Str → Int) (syms : List Sym) (rels : List Rel) (secs : List (Str × List Int)) (D Y R B d : Addr) (news : List (Addr × Obj)) (i : Nat) (m : Str → Option Value) (ns : List (Addr × Obj)) : Prop :=
  m (Str.ofString "sections") = some (.ref D) ∧ m (Str.ofString "symbols") = some (.ref Y) ∧ m (Str.ofString "rows") = some (.ref R) ∧ m (Str.ofString "homes") = some (.ref B) ∧ m (Str.ofString "found") = some (.ref d) ∧
  ∃ o kf acc, ns = (d, o) :: news ∧ o.IsDictOf (PySem.strKind PySem.Challenge.pw_nn0048_01 w) kf ∧ All2 KvAt kf acc ∧ loadF names bf syms rels [] secs = loadF names bf syms rels acc (secs.drop i) ∧ acc.map (·.1) = (secs.take i).map (·.1)
def llJ2 (names : List Str) (bf : Str → Int) (syms : List Sym) (rels : List Rel) (D Y R B d O : Addr) (k : Str) (tk : Tok) (bs : List Int) (cO : Nat) (rest : List (Addr × Obj)) (i : Nat) (m : Str → Option Value) (ns : List (Addr × Obj)) : Prop :=
  m (Str.ofString "sections") = some (.ref D) ∧ m (Str.ofString "symbols") = some (.ref Y) ∧ m (Str.ofString "rows") = some (.ref R) ∧ m (Str.ofString "homes") = some (.ref B) ∧ m (Str.ofString "found") = some (.ref d) ∧
  m (Str.ofString "name") = some (.str k tk) ∧ m (Str.ofString "octets") = some (.ref O) ∧
  ∃ us ks, ns = (O, PySem.W.listOf (List.toArray us) cO) :: rest ∧ IntsAre us ks ∧ secF names bf syms k bs rels = secF names bf syms k ks (rels.drop i) ∧ ks.length = bs.length ∧ (∀ x ∈ ks, 0 ≤ x ∧ x < 256)
def llJ3 (D Y R B d O x : Addr) (k : Str) (tk : Tok) (ks : List Int) (at' : Nat) (v : Int) (cO : Nat) (rest : List (Addr × Obj)) (i : Nat) (m : Str → Option Value) (ns : List (Addr × Obj)) : Prop :=
  m (Str.ofString "sections") = some (.ref D) ∧ m (Str.ofString "symbols") = some (.ref Y) ∧ m (Str.ofString "rows") = some (.ref R) ∧ m (Str.ofString "homes") = some (.ref B) ∧ m (Str.ofString "found") = some (.ref d) ∧
  m (Str.ofString "name") = some (.str k tk) ∧ m (Str.ofString "octets") = some (.ref O) ∧ m (Str.ofString "row") = some (.ref x) ∧ (∃ t, m (Str.ofString "worth") = some (.int v t)) ∧
  ∃ us, ns = (O, PySem.W.listOf (List.toArray us) cO) :: rest ∧ IntsAre us (putI ks at' v i)
section
set_option maxHeartbeats 8000000 in
theorem lload_ok {w : World} {A : Around} {base h₀ : Heap} {l : List Env} {L : Addr} {m : Str → Option Value} {s : Shared} {Q E : Value → Shared → Prop} {news : List (Addr × Obj)} {D Y R B : Addr} {vs rs : List Value} {c c2 : Nat} {syms : List Sym} {rels : List Rel} {oS oB : Obj} {kS kB : List (Str × Value)} {secs : List (Str × List Int)} {bf : Str → Int}
    (H : Here 8 w A base l h₀ L m s.heap news) (hY : (Y, PySem.W.listOf vs.toArray c) ∈ news) (hs : All2 (SymTup news) vs syms)
    (hR : (R, PySem.W.listOf rs.toArray c2) ∈ news) (hr : All2 (RelTup news) rs rels)
    (hS : (D, oS) ∈ news) (hSd : oS.IsDictOf (PySem.strKind PySem.Challenge.pw_nn0048_01 w) kS) (hSl : (D == sysModules) = false) (hkS : All2 KvAt kS secs) (hnd : (secs.map (·.1)).Nodup) (hlen : ∀ p ∈ secs, p.2.length ≤ 1000) (hkz : kS.length ≤ sizeLine)
    (hB : (B, oB) ∈ news) (hBd : oB.IsDictOf (PySem.strKind PySem.Challenge.pw_nn0048_01 w) kB) (hbf : ∀ k ∈ secs.map (·.1), ∃ t, valueAt kB k = some (.int (bf k) t)) (hsy : ∀ y ∈ syms, y.sect = Str.ofString "" ∨ y.sect = Str.ofString "*" ∨ y.sect ∈ secs.map (·.1)) (hdis : (syms.map (·.name)).Nodup)
    (hrel : ∀ r ∈ rels, ∀ p ∈ secs, r.sect = p.1 → 1 ≤ r.width ∧ r.width ≤ 8 ∧ r.at_ + r.width ≤ p.2.length)
    (ret : ∀ fs, loadF (secs.map (·.1)) bf syms rels [] secs = .ok fs → ∀ d o kf h' tk', Fr h₀ L h' m → News h₀ L h' ((d, o) :: news) → (∀ p ∈ news, p.1 ≠ d) → (d == sysModules) = false → o.IsDictOf (PySem.strKind PySem.Challenge.pw_nn0048_01 w) kf → All2 KvAt kf fs → Q (.ref d) { s with heap := h', toks := tk' })
    (exc : ∀ x, loadF (secs.map (·.1)) bf syms rels [] secs = .error x → ∀ t h' tk', Fr h₀ L h' m → News h₀ L h' news → Q (.str (if x then Str.ofString "reach" else Str.ofString "name") t) { s with heap := h', toks := tk' }) :
    wpAny (model PySem.Challenge.pw_nn0048_01 w) A (call (.ref 251) [.ref D, .ref Y, .ref R, .ref B]) Q E s := out_of (by exact trivial : Hold (by
  obtain ⟨e, el, Bl, F, X, N, T, hk, hd, hu⟩ := H
  subst e el
  refine wpAny_call ?_
  k_dflt ktr_enter
  ((try ((show let Q' := _; let E' := _; wpAny _ _ _ Q' E' _); intro Q' E')); repeat' (first | (k_unfold; (try dsimp only)) | ((with_reducible show wpAny _ _ (setItem _ _ _) _ _ _); first | ((with_reducible show wpAny _ _ (setItem (Value.ref _) (Value.str _ _) _) _ _ _); (k_here; k_dflt (refine' kda_set (knd := PySem.strKind _ _) ?F ?N ?U ?d (strKind_is _ _ _ _) ?z ?_; (case F => k_asm); (case N => k_asm); (case U => exact UpdF.tail (by assumption) (UpdF.head (by assumption))); (case d => assumption); (case z => assumption)); intro h' o' F' N' hd')) | ((with_reducible show wpAny _ _ (setItem (Value.ref _) (Value.int _ _) (Value.int _ _)) _ _ _); (k_here; k_dflt (refine' set_at ?k1 ?k2 ?k3 ?k4 ?k5 ?k6 ?_; (case k1 => k_asm); (case k2 => k_asm); (case k3 => exact (Int.natCast_add _ _).symm); (case k4 => exact Upd.head (by assumption)); (case k5 => assumption); (case k6 => assumption); k_whole); intro h' F' N' hi'))) | ((with_reducible show wpAny _ _ (binaryOp _ _ _) _ _ _); first | ((with_reducible show wpAny _ _ (binaryOp Operator.Mod (Value.int _ _) (Value.int _ _)) _ _ _); (k_here; (with_reducible refine mod_256 ?_))) | ((with_reducible show wpAny _ _ (binaryOp Operator.FloorDiv (Value.int _ _) (Value.int _ _)) _ _ _); (k_here; (with_reducible refine fdiv_256 ?k1 ?_); (case k1 => omega))) | ((with_reducible show wpAny _ _ (binaryOp Operator.Pow (Value.int _ _) (Value.int _ _)) _ _ _); (k_here; (with_reducible show wpAny _ _ (binaryOp Operator.Pow (Value.int 256 _) _) _ _ _); (with_reducible refine pow256_x ?k2 ?_); (case k2 => omega))) | ((with_reducible show wpAny _ _ (binaryOp Operator.Pow (Value.int _ _) (Value.int _ _)) _ _ _); (k_here; (with_reducible show wpAny _ _ (binaryOp Operator.Pow (Value.int 2 _) _) _ _ _); (with_reducible refine pow2_x ?k1 ?k2 ?_); (case k1 => omega); (case k2 => omega)))) | ((with_reducible show wpAny _ _ (call _ _) _ _ _); first | ((with_reducible show wpAny _ _ (call (Value.type "range") _) _ _ _); (k_here; k_dflt (refine' range1 ?k1 ?k2 ?_; (case k1 => k_asm); (case k2 => k_asm); k_whole); intro r' t1' t2' t3' h' tk' R' F' N')) | ((with_reducible show wpAny _ _ (call (Value.type "bytes") _) _ _ _); walk_at "M bytes") | ((with_reducible show wpAny _ _ (call (Value.type "list") _) _ _ _); (k_here; (with_reducible show wpAny _ _ (call (Value.type "list") [Value.bytes _ _]) _ _ _); k_dflt (refine' list_bytes_K ?k0 ?k1 ?k2 ?k3 ?_; (case k0 => exact rfl); (case k1 => k_asm); (case k2 => k_asm); (case k3 => assumption); k_whole); intro us' c' h' tk' D' F' N' l1' hi')) | ((k_here; (with_reducible show wpAny _ _ (call (Value.ref 244) [Value.ref _, Value.ref _, Value.ref _, Value.str _ _]) _ _ _); k_dflt (refine' lplace_okN ?kH ?hp ?p0 ?p1 ?p2 ?p3 ?p4 ?p5 ?p6 ?p7 ?p8 ?p9 ?p10 ?_; (case hp => assumption); (case kH => walk_at "M here"); (case p0 => assumption); (case p1 => assumption); (case p2 => assumption); (case p3 => assumption); (case p4 => assumption); (case p5 => assumption); (case p6 => assumption); (case p7 => assumption); (case p8 => assumption); (case p9 => assumption); (case p10 => assumption); k_whole); intro h' tk' F' N')) | ((k_here; (with_reducible show wpAny _ _ (call (Value.ref 244) [Value.ref _, Value.ref _, Value.ref _, Value.str _ _]) _ _ _); k_dflt (refine' lplace_okS ?kH ?hp ?p0 ?p1 ?p2 ?p3 ?p4 ?p5 ?p6 ?p7 ?p8 ?p9 ?p10 ?_; (case hp => assumption); (case kH => walk_at "M here"); (case p0 => assumption); (case p1 => assumption); (case p2 => assumption); (case p3 => assumption); (case p4 => assumption); (case p5 => assumption); (case p6 => assumption); (case p7 => assumption); (case p8 => assumption); (case p9 => assumption); (case p10 => assumption); k_whole); intro t' h' tk' F' N'))) | ((with_reducible show wpAny _ _ (subscriptTail _ _ _ _) _ _ _); first | ((k_here; (with_reducible show wpAny _ _ (subscriptTail _ _ (Value.ref _) (Value.str _ _)) _ _ _); k_dflt (refine' kda_item (knd := PySem.strKind _ _) ?k1 ?k2 ?k3 (strKind_is _ _ _ _) ?k5 ?_; (case k1 => k_asm); (case k2 => k_mem); (case k3 => assumption); (case k5 => assumption))))) | ((with_reducible show wpAny _ _ (compareOp _ _ _) _ _ _); first | ((with_reducible show wpAny _ _ (compareOp CmpOp.Eq (Value.str _ _) (Value.str _ _)) _ _ _); (refine eq_known ?k1 ?_; (case k1 => assumption)))) | ((with_reducible show wpAny _ _ (exec _ _) _ _ _); first | ((with_reducible show wpAny _ _ (exec (PySem.Stmt.For _ _ _ _ _) _) _ _ _); (k_here; (rename Fr _ _ _ _ => lF'); (with_unfolding_all refine' For_invVF lF' ?k1 ?k2 ?_; (case k1 => exact rfl); (case k2 => exact rfl); k_whole)))) | ((fail_if_success (with_reducible show wpAny _ _ (pyIter _) _ _ _)); walk1) | (dsimp only; (fail_if_success (with_reducible show wpAny _ _ (pyIter _) _ _ _)); walk1) | (leave1; walk_say "STEP leave1"; try dsimp only) | fail "no step"))
  rename Addr => d
  rename (∀ p ∈ news, p.1 < d) => hlt
  rename Obj.IsDictOf (PySem.strKind _ _) _ [] => hfd
  rename (_ == sysModules) = false => hlo
  have hin := kv_in hkS
  refine forDict ?eL (llJ1 w (secs.map (·.1)) bf syms rels secs D Y R B d news) rfl (by assumption) (by assumption) (.tail _ hS) hSd hSl ?hJ ⟨rfl, rfl, rfl, rfl, rfl, _, _, [], rfl, hfd, .nil, by rw [List.drop_zero], by simp⟩ ?turn ?done
  case eL => rfl
  case hJ => rintro i m n ⟨_, _, _, _, _, o, kf, acc, rfl, -⟩; exact .tail _ hS
  case turn =>
    intro i k v t m₁ news₁ h tk own hi hJ0' off F1 N1
    refine Classical.byContradiction fun hG => ?_
    obtain ⟨n1, n2, n3, n4, n5, o, kf, acc, rfl, hod, hacc, hlf, hkeys⟩ := hJ0'
    have hv := kv_get hkS hnd hi
    obtain ⟨⟨nm, bs⟩, hi2, hk1, b, tb, hvb, hbs⟩ := hkS.get hi
    dsimp only at hk1 hvb hbs
    subst hk1 hvb hbs
    refine hG ?_
    clear hG
    replace F1 := pinsT F1 (.cons n1 (.cons n2 (.cons n3 (.cons n4 (.cons n5 .nil)))))
    have hne0 := off_cons off
    dsimp only at hne0
    have hne := all_app (lt_ne hlt) hne0
    have hmem : (k, KBw.bInts b) ∈ secs := List.mem_of_getElem? hi2
    have hblen := hlen _ hmem
    dsimp only at hblen
    have up : ∀ p ∈ news, p ∈ ((d, o) :: news) ++ own := fun p hp => List.mem_append_left _ (.tail _ hp)
    have hS := up _ hS
    ((try ((show let Q' := _; let E' := _; wpAny _ _ _ Q' E' _); intro Q' E')); repeat' (first | (k_unfold; (try dsimp only)) | ((with_reducible show wpAny _ _ (setItem _ _ _) _ _ _); first | ((with_reducible show wpAny _ _ (setItem (Value.ref _) (Value.str _ _) _) _ _ _); (k_here; k_dflt (refine' kda_set (knd := PySem.strKind _ _) ?F ?N ?U ?d (strKind_is _ _ _ _) ?z ?_; (case F => k_asm); (case N => k_asm); (case U => exact UpdF.tail (by assumption) (UpdF.head (by assumption))); (case d => assumption); (case z => assumption)); intro h' o' F' N' hd')) | ((with_reducible show wpAny _ _ (setItem (Value.ref _) (Value.int _ _) (Value.int _ _)) _ _ _); (k_here; k_dflt (refine' set_at ?k1 ?k2 ?k3 ?k4 ?k5 ?k6 ?_; (case k1 => k_asm); (case k2 => k_asm); (case k3 => exact (Int.natCast_add _ _).symm); (case k4 => exact Upd.head (by assumption)); (case k5 => assumption); (case k6 => assumption); k_whole); intro h' F' N' hi'))) | ((with_reducible show wpAny _ _ (binaryOp _ _ _) _ _ _); first | ((with_reducible show wpAny _ _ (binaryOp Operator.Mod (Value.int _ _) (Value.int _ _)) _ _ _); (k_here; (with_reducible refine mod_256 ?_))) | ((with_reducible show wpAny _ _ (binaryOp Operator.FloorDiv (Value.int _ _) (Value.int _ _)) _ _ _); (k_here; (with_reducible refine fdiv_256 ?k1 ?_); (case k1 => omega))) | ((with_reducible show wpAny _ _ (binaryOp Operator.Pow (Value.int _ _) (Value.int _ _)) _ _ _); (k_here; (with_reducible show wpAny _ _ (binaryOp Operator.Pow (Value.int 256 _) _) _ _ _); (with_reducible refine pow256_x ?k2 ?_); (case k2 => omega))) | ((with_reducible show wpAny _ _ (binaryOp Operator.Pow (Value.int _ _) (Value.int _ _)) _ _ _); (k_here; (with_reducible show wpAny _ _ (binaryOp Operator.Pow (Value.int 2 _) _) _ _ _); (with_reducible refine pow2_x ?k1 ?k2 ?_); (case k1 => omega); (case k2 => omega)))) | ((with_reducible show wpAny _ _ (call _ _) _ _ _); first | ((with_reducible show wpAny _ _ (call (Value.type "range") _) _ _ _); (k_here; k_dflt (refine' range1 ?k1 ?k2 ?_; (case k1 => k_asm); (case k2 => k_asm); k_whole); intro r' t1' t2' t3' h' tk' R' F' N')) | ((with_reducible show wpAny _ _ (call (Value.type "bytes") _) _ _ _); walk_at "M bytes") | ((with_reducible show wpAny _ _ (call (Value.type "list") _) _ _ _); (k_here; (with_reducible show wpAny _ _ (call (Value.type "list") [Value.bytes _ _]) _ _ _); k_dflt (refine' list_bytes_K ?k0 ?k1 ?k2 ?k3 ?_; (case k0 => exact rfl); (case k1 => k_asm); (case k2 => k_asm); (case k3 => assumption); k_whole); intro us' c' h' tk' D' F' N' l1' hi')) | ((k_here; (with_reducible show wpAny _ _ (call (Value.ref 244) [Value.ref _, Value.ref _, Value.ref _, Value.str _ _]) _ _ _); k_dflt (refine' lplace_okN ?kH ?hp ?p0 ?p1 ?p2 ?p3 ?p4 ?p5 ?p6 ?p7 ?p8 ?p9 ?p10 ?_; (case hp => assumption); (case kH => walk_at "M here"); (case p0 => assumption); (case p1 => assumption); (case p2 => assumption); (case p3 => assumption); (case p4 => assumption); (case p5 => assumption); (case p6 => assumption); (case p7 => assumption); (case p8 => assumption); (case p9 => assumption); (case p10 => assumption); k_whole); intro h' tk' F' N')) | ((k_here; (with_reducible show wpAny _ _ (call (Value.ref 244) [Value.ref _, Value.ref _, Value.ref _, Value.str _ _]) _ _ _); k_dflt (refine' lplace_okS ?kH ?hp ?p0 ?p1 ?p2 ?p3 ?p4 ?p5 ?p6 ?p7 ?p8 ?p9 ?p10 ?_; (case hp => assumption); (case kH => walk_at "M here"); (case p0 => assumption); (case p1 => assumption); (case p2 => assumption); (case p3 => assumption); (case p4 => assumption); (case p5 => assumption); (case p6 => assumption); (case p7 => assumption); (case p8 => assumption); (case p9 => assumption); (case p10 => assumption); k_whole); intro t' h' tk' F' N'))) | ((with_reducible show wpAny _ _ (subscriptTail _ _ _ _) _ _ _); first | ((k_here; (with_reducible show wpAny _ _ (subscriptTail _ _ (Value.ref _) (Value.str _ _)) _ _ _); k_dflt (refine' kda_item (knd := PySem.strKind _ _) ?k1 ?k2 ?k3 (strKind_is _ _ _ _) ?k5 ?_; (case k1 => k_asm); (case k2 => k_mem); (case k3 => assumption); (case k5 => assumption))))) | ((with_reducible show wpAny _ _ (compareOp _ _ _) _ _ _); first | ((with_reducible show wpAny _ _ (compareOp CmpOp.Eq (Value.str _ _) (Value.str _ _)) _ _ _); (refine eq_known ?k1 ?_; (case k1 => assumption)))) | ((with_reducible show wpAny _ _ (exec _ _) _ _ _); first | ((with_reducible show wpAny _ _ (exec (PySem.Stmt.For _ _ _ _ _) _) _ _ _); (k_here; (rename Fr _ _ _ _ => lF'); (with_unfolding_all refine' For_invVF lF' ?k1 ?k2 ?_; (case k1 => exact rfl); (case k2 => exact rfl); k_whole)))) | ((fail_if_success (with_reducible show wpAny _ _ (pyIter _) _ _ _)); walk1) | (dsimp only; (fail_if_success (with_reducible show wpAny _ _ (pyIter _) _ _ _)); walk1) | (leave1; walk_say "STEP leave1"; try dsimp only) | fail "no step"))
    rename (∀ p ∈ ((d, o) :: news) ++ own, p.1 < _) => hltO
    refine Classical.byContradiction fun hG => ?_
    refine with_list (by assumption) hltO fun O cO eO ec => ?_
    subst eO ec
    refine hG ?_
    clear hG
    rename (IntsAre _ (KBw.bInts b)) => hiO
    have hneO := lt_ne hltO
    have hdO : d ≠ O := hneO _ (List.mem_append_left _ (.head _))
    refine forList ?eL2 (llJ2 (secs.map (·.1)) bf syms rels D Y R B d O k t (KBw.bInts b) cO (((d, o) :: news) ++ own)) rfl (by assumption) (by assumption) (.tail _ (up _ hR)) ?hJ2 ⟨rfl, rfl, rfl, rfl, rfl, rfl, rfl, _, _, rfl, hiO, by rw [List.drop_zero], rfl, fun _ z => KBw.ints_in z⟩ ?turn2 ?done2
    case eL2 => rfl
    case hJ2 => rintro i m n ⟨_, _, _, _, _, _, _, us, ks, rfl, -⟩; exact .tail _ (up _ hR)
    case turn2 =>
      intro j v2 m₂ news₂ h2 tk2 own2 hj hJ0' off2 F2 N2
      refine Classical.byContradiction fun hG => ?_
      obtain ⟨n1, n2, n3, n4, n5, n6, n7, us, ks, rfl, hus, hsec, hl2, hin2⟩ := hJ0'
      rw [List.getElem?_toArray] at hj
      obtain ⟨r, hr2, hv2⟩ := hr.get hj
      obtain ⟨x, u1, u2, u3, u4, u5, u6, rfl, hx1⟩ := hv2
      replace F2 := pinsT F2 (.cons n1 (.cons n2 (.cons n3 (.cons n4 (.cons n5 (.cons n6 (.cons n7 .nil)))))))
      have up2 : ∀ p ∈ news, p ∈ ((O, PySem.W.listOf (List.toArray us) cO) :: (((d, o) :: news) ++ own)) ++ own2 := fun p hp => List.mem_append_left _ (.tail _ (up p hp))
      have hxN := hx1
      replace hx1 := up2 _ hx1
      have hS := up2 _ ‹(D, oS) ∈ news›
      have hY := up2 _ hY
      have hB := up2 _ hB
      have hs := hs.mono fun _ _ z => z.keeps up2
      have hneO0 := off_cons off2
      dsimp only at hneO0
      have hneO2 := all_app hneO hneO0
      obtain ⟨tq, hbq⟩ := hbf k (List.mem_map_of_mem hmem)
      refine hG ?_
      clear hG
      by_cases hsc : r.sect = k
      · obtain ⟨w1, w8, wl⟩ := hrel r (List.mem_of_getElem? hr2) _ hmem hsc
        dsimp only at wl
        have wl2 : r.at_ + r.width ≤ ks.length := by rw [hl2]; exact wl
        have hscB : (r.sect == k) = true := beq_iff_eq.mpr hsc
        cases hp : placeP (secs.map (·.1)) bf syms r.name with
        | none =>
          have herr := hlf.trans (loadF_err hi2 (hsec.trans (secF_name hr2 hsc hp)))
          ((try ((show let Q' := _; let E' := _; wpAny _ _ _ Q' E' _); intro Q' E')); repeat' (first | (k_unfold; (try dsimp only)) | ((with_reducible show wpAny _ _ (setItem _ _ _) _ _ _); first | ((with_reducible show wpAny _ _ (setItem (Value.ref _) (Value.str _ _) _) _ _ _); (k_here; k_dflt (refine' kda_set (knd := PySem.strKind _ _) ?F ?N ?U ?d (strKind_is _ _ _ _) ?z ?_; (case F => k_asm); (case N => k_asm); (case U => exact UpdF.tail (by assumption) (UpdF.head (by assumption))); (case d => assumption); (case z => assumption)); intro h' o' F' N' hd')) | ((with_reducible show wpAny _ _ (setItem (Value.ref _) (Value.int _ _) (Value.int _ _)) _ _ _); (k_here; k_dflt (refine' set_at ?k1 ?k2 ?k3 ?k4 ?k5 ?k6 ?_; (case k1 => k_asm); (case k2 => k_asm); (case k3 => exact (Int.natCast_add _ _).symm); (case k4 => exact Upd.head (by assumption)); (case k5 => assumption); (case k6 => assumption); k_whole); intro h' F' N' hi'))) | ((with_reducible show wpAny _ _ (binaryOp _ _ _) _ _ _); first | ((with_reducible show wpAny _ _ (binaryOp Operator.Mod (Value.int _ _) (Value.int _ _)) _ _ _); (k_here; (with_reducible refine mod_256 ?_))) | ((with_reducible show wpAny _ _ (binaryOp Operator.FloorDiv (Value.int _ _) (Value.int _ _)) _ _ _); (k_here; (with_reducible refine fdiv_256 ?k1 ?_); (case k1 => omega))) | ((with_reducible show wpAny _ _ (binaryOp Operator.Pow (Value.int _ _) (Value.int _ _)) _ _ _); (k_here; (with_reducible show wpAny _ _ (binaryOp Operator.Pow (Value.int 256 _) _) _ _ _); (with_reducible refine pow256_x ?k2 ?_); (case k2 => omega))) | ((with_reducible show wpAny _ _ (binaryOp Operator.Pow (Value.int _ _) (Value.int _ _)) _ _ _); (k_here; (with_reducible show wpAny _ _ (binaryOp Operator.Pow (Value.int 2 _) _) _ _ _); (with_reducible refine pow2_x ?k1 ?k2 ?_); (case k1 => omega); (case k2 => omega)))) | ((with_reducible show wpAny _ _ (call _ _) _ _ _); first | ((with_reducible show wpAny _ _ (call (Value.type "range") _) _ _ _); (k_here; k_dflt (refine' range1 ?k1 ?k2 ?_; (case k1 => k_asm); (case k2 => k_asm); k_whole); intro r' t1' t2' t3' h' tk' R' F' N')) | ((with_reducible show wpAny _ _ (call (Value.type "bytes") _) _ _ _); walk_at "M bytes") | ((with_reducible show wpAny _ _ (call (Value.type "list") _) _ _ _); (k_here; (with_reducible show wpAny _ _ (call (Value.type "list") [Value.bytes _ _]) _ _ _); k_dflt (refine' list_bytes_K ?k0 ?k1 ?k2 ?k3 ?_; (case k0 => exact rfl); (case k1 => k_asm); (case k2 => k_asm); (case k3 => assumption); k_whole); intro us' c' h' tk' D' F' N' l1' hi')) | ((k_here; (with_reducible show wpAny _ _ (call (Value.ref 244) [Value.ref _, Value.ref _, Value.ref _, Value.str _ _]) _ _ _); k_dflt (refine' lplace_okN ?kH ?hp ?p0 ?p1 ?p2 ?p3 ?p4 ?p5 ?p6 ?p7 ?p8 ?p9 ?p10 ?_; (case hp => assumption); (case kH => walk_at "M here"); (case p0 => assumption); (case p1 => assumption); (case p2 => assumption); (case p3 => assumption); (case p4 => assumption); (case p5 => assumption); (case p6 => assumption); (case p7 => assumption); (case p8 => assumption); (case p9 => assumption); (case p10 => assumption); k_whole); intro h' tk' F' N')) | ((k_here; (with_reducible show wpAny _ _ (call (Value.ref 244) [Value.ref _, Value.ref _, Value.ref _, Value.str _ _]) _ _ _); k_dflt (refine' lplace_okS ?kH ?hp ?p0 ?p1 ?p2 ?p3 ?p4 ?p5 ?p6 ?p7 ?p8 ?p9 ?p10 ?_; (case hp => assumption); (case kH => walk_at "M here"); (case p0 => assumption); (case p1 => assumption); (case p2 => assumption); (case p3 => assumption); (case p4 => assumption); (case p5 => assumption); (case p6 => assumption); (case p7 => assumption); (case p8 => assumption); (case p9 => assumption); (case p10 => assumption); k_whole); intro t' h' tk' F' N'))) | ((with_reducible show wpAny _ _ (subscriptTail _ _ _ _) _ _ _); first | ((k_here; (with_reducible show wpAny _ _ (subscriptTail _ _ (Value.ref _) (Value.str _ _)) _ _ _); k_dflt (refine' kda_item (knd := PySem.strKind _ _) ?k1 ?k2 ?k3 (strKind_is _ _ _ _) ?k5 ?_; (case k1 => k_asm); (case k2 => k_mem); (case k3 => assumption); (case k5 => assumption))))) | ((with_reducible show wpAny _ _ (compareOp _ _ _) _ _ _); first | ((with_reducible show wpAny _ _ (compareOp CmpOp.Eq (Value.str _ _) (Value.str _ _)) _ _ _); (refine eq_known ?k1 ?_; (case k1 => assumption)))) | ((with_reducible show wpAny _ _ (exec _ _) _ _ _); first | ((with_reducible show wpAny _ _ (exec (PySem.Stmt.For _ _ _ _ _) _) _ _ _); (k_here; (rename Fr _ _ _ _ => lF'); (with_unfolding_all refine' For_invVF lF' ?k1 ?k2 ?_; (case k1 => exact rfl); (case k2 => exact rfl); k_whole)))) | ((fail_if_success (with_reducible show wpAny _ _ (pyIter _) _ _ _)); walk1) | (dsimp only; (fail_if_success (with_reducible show wpAny _ _ (pyIter _) _ _ _)); walk1) | (leave1; walk_say "STEP leave1"; try dsimp only) | fail "no step"))
          refine turn_ret ?_
          dsimp only
          refine turn_ret ?_
          dsimp only
          ((try ((show let Q' := _; let E' := _; wpAny _ _ _ Q' E' _); intro Q' E')); repeat' (first | (k_unfold; (try dsimp only)) | ((with_reducible show wpAny _ _ (setItem _ _ _) _ _ _); first | ((with_reducible show wpAny _ _ (setItem (Value.ref _) (Value.str _ _) _) _ _ _); (k_here; k_dflt (refine' kda_set (knd := PySem.strKind _ _) ?F ?N ?U ?d (strKind_is _ _ _ _) ?z ?_; (case F => k_asm); (case N => k_asm); (case U => exact UpdF.tail (by assumption) (UpdF.head (by assumption))); (case d => assumption); (case z => assumption)); intro h' o' F' N' hd')) | ((with_reducible show wpAny _ _ (setItem (Value.ref _) (Value.int _ _) (Value.int _ _)) _ _ _); (k_here; k_dflt (refine' set_at ?k1 ?k2 ?k3 ?k4 ?k5 ?k6 ?_; (case k1 => k_asm); (case k2 => k_asm); (case k3 => exact (Int.natCast_add _ _).symm); (case k4 => exact Upd.head (by assumption)); (case k5 => assumption); (case k6 => assumption); k_whole); intro h' F' N' hi'))) | ((with_reducible show wpAny _ _ (binaryOp _ _ _) _ _ _); first | ((with_reducible show wpAny _ _ (binaryOp Operator.Mod (Value.int _ _) (Value.int _ _)) _ _ _); (k_here; (with_reducible refine mod_256 ?_))) | ((with_reducible show wpAny _ _ (binaryOp Operator.FloorDiv (Value.int _ _) (Value.int _ _)) _ _ _); (k_here; (with_reducible refine fdiv_256 ?k1 ?_); (case k1 => omega))) | ((with_reducible show wpAny _ _ (binaryOp Operator.Pow (Value.int _ _) (Value.int _ _)) _ _ _); (k_here; (with_reducible show wpAny _ _ (binaryOp Operator.Pow (Value.int 256 _) _) _ _ _); (with_reducible refine pow256_x ?k2 ?_); (case k2 => omega))) | ((with_reducible show wpAny _ _ (binaryOp Operator.Pow (Value.int _ _) (Value.int _ _)) _ _ _); (k_here; (with_reducible show wpAny _ _ (binaryOp Operator.Pow (Value.int 2 _) _) _ _ _); (with_reducible refine pow2_x ?k1 ?k2 ?_); (case k1 => omega); (case k2 => omega)))) | ((with_reducible show wpAny _ _ (call _ _) _ _ _); first | ((with_reducible show wpAny _ _ (call (Value.type "range") _) _ _ _); (k_here; k_dflt (refine' range1 ?k1 ?k2 ?_; (case k1 => k_asm); (case k2 => k_asm); k_whole); intro r' t1' t2' t3' h' tk' R' F' N')) | ((with_reducible show wpAny _ _ (call (Value.type "bytes") _) _ _ _); walk_at "M bytes") | ((with_reducible show wpAny _ _ (call (Value.type "list") _) _ _ _); (k_here; (with_reducible show wpAny _ _ (call (Value.type "list") [Value.bytes _ _]) _ _ _); k_dflt (refine' list_bytes_K ?k0 ?k1 ?k2 ?k3 ?_; (case k0 => exact rfl); (case k1 => k_asm); (case k2 => k_asm); (case k3 => assumption); k_whole); intro us' c' h' tk' D' F' N' l1' hi')) | ((k_here; (with_reducible show wpAny _ _ (call (Value.ref 244) [Value.ref _, Value.ref _, Value.ref _, Value.str _ _]) _ _ _); k_dflt (refine' lplace_okN ?kH ?hp ?p0 ?p1 ?p2 ?p3 ?p4 ?p5 ?p6 ?p7 ?p8 ?p9 ?p10 ?_; (case hp => assumption); (case kH => walk_at "M here"); (case p0 => assumption); (case p1 => assumption); (case p2 => assumption); (case p3 => assumption); (case p4 => assumption); (case p5 => assumption); (case p6 => assumption); (case p7 => assumption); (case p8 => assumption); (case p9 => assumption); (case p10 => assumption); k_whole); intro h' tk' F' N')) | ((k_here; (with_reducible show wpAny _ _ (call (Value.ref 244) [Value.ref _, Value.ref _, Value.ref _, Value.str _ _]) _ _ _); k_dflt (refine' lplace_okS ?kH ?hp ?p0 ?p1 ?p2 ?p3 ?p4 ?p5 ?p6 ?p7 ?p8 ?p9 ?p10 ?_; (case hp => assumption); (case kH => walk_at "M here"); (case p0 => assumption); (case p1 => assumption); (case p2 => assumption); (case p3 => assumption); (case p4 => assumption); (case p5 => assumption); (case p6 => assumption); (case p7 => assumption); (case p8 => assumption); (case p9 => assumption); (case p10 => assumption); k_whole); intro t' h' tk' F' N'))) | ((with_reducible show wpAny _ _ (subscriptTail _ _ _ _) _ _ _); first | ((k_here; (with_reducible show wpAny _ _ (subscriptTail _ _ (Value.ref _) (Value.str _ _)) _ _ _); k_dflt (refine' kda_item (knd := PySem.strKind _ _) ?k1 ?k2 ?k3 (strKind_is _ _ _ _) ?k5 ?_; (case k1 => k_asm); (case k2 => k_mem); (case k3 => assumption); (case k5 => assumption))))) | ((with_reducible show wpAny _ _ (compareOp _ _ _) _ _ _); first | ((with_reducible show wpAny _ _ (compareOp CmpOp.Eq (Value.str _ _) (Value.str _ _)) _ _ _); (refine eq_known ?k1 ?_; (case k1 => assumption)))) | ((with_reducible show wpAny _ _ (exec _ _) _ _ _); first | ((with_reducible show wpAny _ _ (exec (PySem.Stmt.For _ _ _ _ _) _) _ _ _); (k_here; (rename Fr _ _ _ _ => lF'); (with_unfolding_all refine' For_invVF lF' ?k1 ?k2 ?_; (case k1 => exact rfl); (case k2 => exact rfl); k_whole)))) | ((fail_if_success (with_reducible show wpAny _ _ (pyIter _) _ _ _)); walk1) | (dsimp only; (fail_if_success (with_reducible show wpAny _ _ (pyIter _) _ _ _)); walk1) | (leave1; walk_say "STEP leave1"; try dsimp only) | fail "no step"))
          exact exc _ herr _ _ _ (by assumption) (cb_drop (by assumption) up2)
        | some p =>
          by_cases hpc : r.way = Str.ofString "pc"
          · have hpcB : (r.way == Str.ofString "pc") = true := beq_iff_eq.mpr hpc
            have habsB : (r.way == Str.ofString "abs") = false := by rw [hpc]; decide
            have hwp : worthP (secs.map (·.1)) bf syms k r = some (p + r.worth - bf k - (r.at_ : Int)) := (worthP_pc hp hpc).trans (congrArg some (by omega))
            ((try ((show let Q' := _; let E' := _; wpAny _ _ _ Q' E' _); intro Q' E')); repeat' (first | (k_unfold; (try dsimp only)) | ((with_reducible show wpAny _ _ (setItem _ _ _) _ _ _); first | ((with_reducible show wpAny _ _ (setItem (Value.ref _) (Value.str _ _) _) _ _ _); (k_here; k_dflt (refine' kda_set (knd := PySem.strKind _ _) ?F ?N ?U ?d (strKind_is _ _ _ _) ?z ?_; (case F => k_asm); (case N => k_asm); (case U => exact UpdF.tail (by assumption) (UpdF.head (by assumption))); (case d => assumption); (case z => assumption)); intro h' o' F' N' hd')) | ((with_reducible show wpAny _ _ (setItem (Value.ref _) (Value.int _ _) (Value.int _ _)) _ _ _); (k_here; k_dflt (refine' set_at ?k1 ?k2 ?k3 ?k4 ?k5 ?k6 ?_; (case k1 => k_asm); (case k2 => k_asm); (case k3 => exact (Int.natCast_add _ _).symm); (case k4 => exact Upd.head (by assumption)); (case k5 => assumption); (case k6 => assumption); k_whole); intro h' F' N' hi'))) | ((with_reducible show wpAny _ _ (binaryOp _ _ _) _ _ _); first | ((with_reducible show wpAny _ _ (binaryOp Operator.Mod (Value.int _ _) (Value.int _ _)) _ _ _); (k_here; (with_reducible refine mod_256 ?_))) | ((with_reducible show wpAny _ _ (binaryOp Operator.FloorDiv (Value.int _ _) (Value.int _ _)) _ _ _); (k_here; (with_reducible refine fdiv_256 ?k1 ?_); (case k1 => omega))) | ((with_reducible show wpAny _ _ (binaryOp Operator.Pow (Value.int _ _) (Value.int _ _)) _ _ _); (k_here; (with_reducible show wpAny _ _ (binaryOp Operator.Pow (Value.int 256 _) _) _ _ _); (with_reducible refine pow256_x ?k2 ?_); (case k2 => omega))) | ((with_reducible show wpAny _ _ (binaryOp Operator.Pow (Value.int _ _) (Value.int _ _)) _ _ _); (k_here; (with_reducible show wpAny _ _ (binaryOp Operator.Pow (Value.int 2 _) _) _ _ _); (with_reducible refine pow2_x ?k1 ?k2 ?_); (case k1 => omega); (case k2 => omega)))) | ((with_reducible show wpAny _ _ (call _ _) _ _ _); first | ((with_reducible show wpAny _ _ (call (Value.type "range") _) _ _ _); (k_here; k_dflt (refine' range1 ?k1 ?k2 ?_; (case k1 => k_asm); (case k2 => k_asm); k_whole); intro r' t1' t2' t3' h' tk' R' F' N')) | ((with_reducible show wpAny _ _ (call (Value.type "bytes") _) _ _ _); walk_at "M bytes") | ((with_reducible show wpAny _ _ (call (Value.type "list") _) _ _ _); (k_here; (with_reducible show wpAny _ _ (call (Value.type "list") [Value.bytes _ _]) _ _ _); k_dflt (refine' list_bytes_K ?k0 ?k1 ?k2 ?k3 ?_; (case k0 => exact rfl); (case k1 => k_asm); (case k2 => k_asm); (case k3 => assumption); k_whole); intro us' c' h' tk' D' F' N' l1' hi')) | ((k_here; (with_reducible show wpAny _ _ (call (Value.ref 244) [Value.ref _, Value.ref _, Value.ref _, Value.str _ _]) _ _ _); k_dflt (refine' lplace_okN ?kH ?hp ?p0 ?p1 ?p2 ?p3 ?p4 ?p5 ?p6 ?p7 ?p8 ?p9 ?p10 ?_; (case hp => assumption); (case kH => walk_at "M here"); (case p0 => assumption); (case p1 => assumption); (case p2 => assumption); (case p3 => assumption); (case p4 => assumption); (case p5 => assumption); (case p6 => assumption); (case p7 => assumption); (case p8 => assumption); (case p9 => assumption); (case p10 => assumption); k_whole); intro h' tk' F' N')) | ((k_here; (with_reducible show wpAny _ _ (call (Value.ref 244) [Value.ref _, Value.ref _, Value.ref _, Value.str _ _]) _ _ _); k_dflt (refine' lplace_okS ?kH ?hp ?p0 ?p1 ?p2 ?p3 ?p4 ?p5 ?p6 ?p7 ?p8 ?p9 ?p10 ?_; (case hp => assumption); (case kH => walk_at "M here"); (case p0 => assumption); (case p1 => assumption); (case p2 => assumption); (case p3 => assumption); (case p4 => assumption); (case p5 => assumption); (case p6 => assumption); (case p7 => assumption); (case p8 => assumption); (case p9 => assumption); (case p10 => assumption); k_whole); intro t' h' tk' F' N'))) | ((with_reducible show wpAny _ _ (subscriptTail _ _ _ _) _ _ _); first | ((k_here; (with_reducible show wpAny _ _ (subscriptTail _ _ (Value.ref _) (Value.str _ _)) _ _ _); k_dflt (refine' kda_item (knd := PySem.strKind _ _) ?k1 ?k2 ?k3 (strKind_is _ _ _ _) ?k5 ?_; (case k1 => k_asm); (case k2 => k_mem); (case k3 => assumption); (case k5 => assumption))))) | ((with_reducible show wpAny _ _ (compareOp _ _ _) _ _ _); first | ((with_reducible show wpAny _ _ (compareOp CmpOp.Eq (Value.str _ _) (Value.str _ _)) _ _ _); (refine eq_known ?k1 ?_; (case k1 => assumption)))) | ((with_reducible show wpAny _ _ (exec _ _) _ _ _); first | ((with_reducible show wpAny _ _ (exec (PySem.Stmt.For _ _ _ _ _) _) _ _ _); (k_here; (rename Fr _ _ _ _ => lF'); (with_unfolding_all refine' For_invVF lF' ?k1 ?k2 ?_; (case k1 => exact rfl); (case k2 => exact rfl); k_whole)))) | ((fail_if_success (with_reducible show wpAny _ _ (pyIter _) _ _ _)); walk1) | (dsimp only; (fail_if_success (with_reducible show wpAny _ _ (pyIter _) _ _ _)); walk1) | (leave1; walk_say "STEP leave1"; try dsimp only) | fail "no step"))
            · rename IsRange _ _ _ _ _ _ _ _ => Rg
              have hfit := fit2 habsB (by assumption) (by assumption)
              have hgo := hsec.trans (secF_goL hr2 hsc hwp hfit)
              refine forRange (n := r.width) ?eL3 (llJ3 D Y R B d O x k t ks r.at_ (p + r.worth - bf k - (r.at_ : Int)) cO ((((d, o) :: news) ++ own) ++ own2)) rfl (by assumption) (news_tail (by assumption)) Rg ?small ?hn ⟨rfl, rfl, rfl, rfl, rfl, rfl, rfl, rfl, ⟨_, rfl⟩, us, rfl, by rw [putI_zero]; exact hus⟩ ?turn3 ?done3
              case eL3 => rfl
              case small => exact range_small _ (by omega)
              case hn => exact range_size _
              case turn3 =>
                intro i3 t3 m₃ news₃ h3 tk3 own3 hi3 hJ0' off3 F3 N3
                refine Classical.byContradiction fun hG => ?_
                obtain ⟨n1, n2, n3, n4, n5, n6, n7, n8, ⟨tw, n9⟩, us3, rfl, hus3⟩ := hJ0'
                refine hG ?_
                clear hG
                rw [show (0 : Int) + (i3 : Int) * 1 = (i3 : Int) by omega] at F3
                replace F3 := pinsT F3 (.cons n1 (.cons n2 (.cons n3 (.cons n4 (.cons n5 (.cons n6 (.cons n7 (.cons n8 (.cons n9 .nil)))))))))
                have hx3 : (x, tup6 (.str r.sect u1) (.int r.at_ u2) (.int r.width u3) (.str r.name u4) (.int r.worth u5) (.str r.way u6)) ∈ ((O, PySem.W.listOf (List.toArray us3) cO) :: ((((d, o) :: news) ++ own) ++ own2)) ++ own3 := List.mem_append_left _ (.tail _ (List.mem_append_left _ (up _ hxN)))
                have hneO3 := off_cons off3
                dsimp only at hneO3
                have hneO4 := all_app hneO2 hneO3
                have hb3 : r.at_ + i3 < (putI ks r.at_ (p + r.worth - bf k - (r.at_ : Int)) i3).length ∧ (putI ks r.at_ (p + r.worth - bf k - (r.at_ : Int)) i3).length ≤ 1000 := by
                  rw [putI_length (by omega), hl2]; omega
                ((try ((show let Q' := _; let E' := _; wpAny _ _ _ Q' E' _); intro Q' E')); repeat' (first | (k_unfold; (try dsimp only)) | ((with_reducible show wpAny _ _ (setItem _ _ _) _ _ _); first | ((with_reducible show wpAny _ _ (setItem (Value.ref _) (Value.str _ _) _) _ _ _); (k_here; k_dflt (refine' kda_set (knd := PySem.strKind _ _) ?F ?N ?U ?d (strKind_is _ _ _ _) ?z ?_; (case F => k_asm); (case N => k_asm); (case U => exact UpdF.tail (by assumption) (UpdF.head (by assumption))); (case d => assumption); (case z => assumption)); intro h' o' F' N' hd')) | ((with_reducible show wpAny _ _ (setItem (Value.ref _) (Value.int _ _) (Value.int _ _)) _ _ _); (k_here; k_dflt (refine' set_at ?k1 ?k2 ?k3 ?k4 ?k5 ?k6 ?_; (case k1 => k_asm); (case k2 => k_asm); (case k3 => exact (Int.natCast_add _ _).symm); (case k4 => exact Upd.head (by assumption)); (case k5 => assumption); (case k6 => assumption); k_whole); intro h' F' N' hi'))) | ((with_reducible show wpAny _ _ (binaryOp _ _ _) _ _ _); first | ((with_reducible show wpAny _ _ (binaryOp Operator.Mod (Value.int _ _) (Value.int _ _)) _ _ _); (k_here; (with_reducible refine mod_256 ?_))) | ((with_reducible show wpAny _ _ (binaryOp Operator.FloorDiv (Value.int _ _) (Value.int _ _)) _ _ _); (k_here; (with_reducible refine fdiv_256 ?k1 ?_); (case k1 => omega))) | ((with_reducible show wpAny _ _ (binaryOp Operator.Pow (Value.int _ _) (Value.int _ _)) _ _ _); (k_here; (with_reducible show wpAny _ _ (binaryOp Operator.Pow (Value.int 256 _) _) _ _ _); (with_reducible refine pow256_x ?k2 ?_); (case k2 => omega))) | ((with_reducible show wpAny _ _ (binaryOp Operator.Pow (Value.int _ _) (Value.int _ _)) _ _ _); (k_here; (with_reducible show wpAny _ _ (binaryOp Operator.Pow (Value.int 2 _) _) _ _ _); (with_reducible refine pow2_x ?k1 ?k2 ?_); (case k1 => omega); (case k2 => omega)))) | ((with_reducible show wpAny _ _ (call _ _) _ _ _); first | ((with_reducible show wpAny _ _ (call (Value.type "range") _) _ _ _); (k_here; k_dflt (refine' range1 ?k1 ?k2 ?_; (case k1 => k_asm); (case k2 => k_asm); k_whole); intro r' t1' t2' t3' h' tk' R' F' N')) | ((with_reducible show wpAny _ _ (call (Value.type "bytes") _) _ _ _); walk_at "M bytes") | ((with_reducible show wpAny _ _ (call (Value.type "list") _) _ _ _); (k_here; (with_reducible show wpAny _ _ (call (Value.type "list") [Value.bytes _ _]) _ _ _); k_dflt (refine' list_bytes_K ?k0 ?k1 ?k2 ?k3 ?_; (case k0 => exact rfl); (case k1 => k_asm); (case k2 => k_asm); (case k3 => assumption); k_whole); intro us' c' h' tk' D' F' N' l1' hi')) | ((k_here; (with_reducible show wpAny _ _ (call (Value.ref 244) [Value.ref _, Value.ref _, Value.ref _, Value.str _ _]) _ _ _); k_dflt (refine' lplace_okN ?kH ?hp ?p0 ?p1 ?p2 ?p3 ?p4 ?p5 ?p6 ?p7 ?p8 ?p9 ?p10 ?_; (case hp => assumption); (case kH => walk_at "M here"); (case p0 => assumption); (case p1 => assumption); (case p2 => assumption); (case p3 => assumption); (case p4 => assumption); (case p5 => assumption); (case p6 => assumption); (case p7 => assumption); (case p8 => assumption); (case p9 => assumption); (case p10 => assumption); k_whole); intro h' tk' F' N')) | ((k_here; (with_reducible show wpAny _ _ (call (Value.ref 244) [Value.ref _, Value.ref _, Value.ref _, Value.str _ _]) _ _ _); k_dflt (refine' lplace_okS ?kH ?hp ?p0 ?p1 ?p2 ?p3 ?p4 ?p5 ?p6 ?p7 ?p8 ?p9 ?p10 ?_; (case hp => assumption); (case kH => walk_at "M here"); (case p0 => assumption); (case p1 => assumption); (case p2 => assumption); (case p3 => assumption); (case p4 => assumption); (case p5 => assumption); (case p6 => assumption); (case p7 => assumption); (case p8 => assumption); (case p9 => assumption); (case p10 => assumption); k_whole); intro t' h' tk' F' N'))) | ((with_reducible show wpAny _ _ (subscriptTail _ _ _ _) _ _ _); first | ((k_here; (with_reducible show wpAny _ _ (subscriptTail _ _ (Value.ref _) (Value.str _ _)) _ _ _); k_dflt (refine' kda_item (knd := PySem.strKind _ _) ?k1 ?k2 ?k3 (strKind_is _ _ _ _) ?k5 ?_; (case k1 => k_asm); (case k2 => k_mem); (case k3 => assumption); (case k5 => assumption))))) | ((with_reducible show wpAny _ _ (compareOp _ _ _) _ _ _); first | ((with_reducible show wpAny _ _ (compareOp CmpOp.Eq (Value.str _ _) (Value.str _ _)) _ _ _); (refine eq_known ?k1 ?_; (case k1 => assumption)))) | ((with_reducible show wpAny _ _ (exec _ _) _ _ _); first | ((with_reducible show wpAny _ _ (exec (PySem.Stmt.For _ _ _ _ _) _) _ _ _); (k_here; (rename Fr _ _ _ _ => lF'); (with_unfolding_all refine' For_invVF lF' ?k1 ?k2 ?_; (case k1 => exact rfl); (case k2 => exact rfl); k_whole)))) | ((fail_if_success (with_reducible show wpAny _ _ (pyIter _) _ _ _)); walk1) | (dsimp only; (fail_if_success (with_reducible show wpAny _ _ (pyIter _) _ _ _)); walk1) | (leave1; walk_say "STEP leave1"; try dsimp only) | fail "no step"))
                exact turn_end (news' := (O, _) :: ((((d, o) :: news) ++ own) ++ own2)) (by assumption) (by assumption) rfl (off_new off3) ⟨by with_unfolding_all rfl, by with_unfolding_all rfl, by with_unfolding_all rfl, by with_unfolding_all rfl, by with_unfolding_all rfl, by with_unfolding_all rfl, by with_unfolding_all rfl, by with_unfolding_all rfl, ⟨_, by with_unfolding_all rfl⟩, _, rfl, by rw [← putI_succ (by omega)]; assumption⟩
              case done3 =>
                intro m₃ news₃ h3 tk3 hJ0' F3 N3
                refine Classical.byContradiction fun hG => ?_
                obtain ⟨n1, n2, n3, n4, n5, n6, n7, n8, ⟨tw, n9⟩, us3, rfl, hus3⟩ := hJ0'
                refine hG ?_
                clear hG
                ((try ((show let Q' := _; let E' := _; wpAny _ _ _ Q' E' _); intro Q' E')); repeat' (first | (k_unfold; (try dsimp only)) | ((with_reducible show wpAny _ _ (setItem _ _ _) _ _ _); first | ((with_reducible show wpAny _ _ (setItem (Value.ref _) (Value.str _ _) _) _ _ _); (k_here; k_dflt (refine' kda_set (knd := PySem.strKind _ _) ?F ?N ?U ?d (strKind_is _ _ _ _) ?z ?_; (case F => k_asm); (case N => k_asm); (case U => exact UpdF.tail (by assumption) (UpdF.head (by assumption))); (case d => assumption); (case z => assumption)); intro h' o' F' N' hd')) | ((with_reducible show wpAny _ _ (setItem (Value.ref _) (Value.int _ _) (Value.int _ _)) _ _ _); (k_here; k_dflt (refine' set_at ?k1 ?k2 ?k3 ?k4 ?k5 ?k6 ?_; (case k1 => k_asm); (case k2 => k_asm); (case k3 => exact (Int.natCast_add _ _).symm); (case k4 => exact Upd.head (by assumption)); (case k5 => assumption); (case k6 => assumption); k_whole); intro h' F' N' hi'))) | ((with_reducible show wpAny _ _ (binaryOp _ _ _) _ _ _); first | ((with_reducible show wpAny _ _ (binaryOp Operator.Mod (Value.int _ _) (Value.int _ _)) _ _ _); (k_here; (with_reducible refine mod_256 ?_))) | ((with_reducible show wpAny _ _ (binaryOp Operator.FloorDiv (Value.int _ _) (Value.int _ _)) _ _ _); (k_here; (with_reducible refine fdiv_256 ?k1 ?_); (case k1 => omega))) | ((with_reducible show wpAny _ _ (binaryOp Operator.Pow (Value.int _ _) (Value.int _ _)) _ _ _); (k_here; (with_reducible show wpAny _ _ (binaryOp Operator.Pow (Value.int 256 _) _) _ _ _); (with_reducible refine pow256_x ?k2 ?_); (case k2 => omega))) | ((with_reducible show wpAny _ _ (binaryOp Operator.Pow (Value.int _ _) (Value.int _ _)) _ _ _); (k_here; (with_reducible show wpAny _ _ (binaryOp Operator.Pow (Value.int 2 _) _) _ _ _); (with_reducible refine pow2_x ?k1 ?k2 ?_); (case k1 => omega); (case k2 => omega)))) | ((with_reducible show wpAny _ _ (call _ _) _ _ _); first | ((with_reducible show wpAny _ _ (call (Value.type "range") _) _ _ _); (k_here; k_dflt (refine' range1 ?k1 ?k2 ?_; (case k1 => k_asm); (case k2 => k_asm); k_whole); intro r' t1' t2' t3' h' tk' R' F' N')) | ((with_reducible show wpAny _ _ (call (Value.type "bytes") _) _ _ _); walk_at "M bytes") | ((with_reducible show wpAny _ _ (call (Value.type "list") _) _ _ _); (k_here; (with_reducible show wpAny _ _ (call (Value.type "list") [Value.bytes _ _]) _ _ _); k_dflt (refine' list_bytes_K ?k0 ?k1 ?k2 ?k3 ?_; (case k0 => exact rfl); (case k1 => k_asm); (case k2 => k_asm); (case k3 => assumption); k_whole); intro us' c' h' tk' D' F' N' l1' hi')) | ((k_here; (with_reducible show wpAny _ _ (call (Value.ref 244) [Value.ref _, Value.ref _, Value.ref _, Value.str _ _]) _ _ _); k_dflt (refine' lplace_okN ?kH ?hp ?p0 ?p1 ?p2 ?p3 ?p4 ?p5 ?p6 ?p7 ?p8 ?p9 ?p10 ?_; (case hp => assumption); (case kH => walk_at "M here"); (case p0 => assumption); (case p1 => assumption); (case p2 => assumption); (case p3 => assumption); (case p4 => assumption); (case p5 => assumption); (case p6 => assumption); (case p7 => assumption); (case p8 => assumption); (case p9 => assumption); (case p10 => assumption); k_whole); intro h' tk' F' N')) | ((k_here; (with_reducible show wpAny _ _ (call (Value.ref 244) [Value.ref _, Value.ref _, Value.ref _, Value.str _ _]) _ _ _); k_dflt (refine' lplace_okS ?kH ?hp ?p0 ?p1 ?p2 ?p3 ?p4 ?p5 ?p6 ?p7 ?p8 ?p9 ?p10 ?_; (case hp => assumption); (case kH => walk_at "M here"); (case p0 => assumption); (case p1 => assumption); (case p2 => assumption); (case p3 => assumption); (case p4 => assumption); (case p5 => assumption); (case p6 => assumption); (case p7 => assumption); (case p8 => assumption); (case p9 => assumption); (case p10 => assumption); k_whole); intro t' h' tk' F' N'))) | ((with_reducible show wpAny _ _ (subscriptTail _ _ _ _) _ _ _); first | ((k_here; (with_reducible show wpAny _ _ (subscriptTail _ _ (Value.ref _) (Value.str _ _)) _ _ _); k_dflt (refine' kda_item (knd := PySem.strKind _ _) ?k1 ?k2 ?k3 (strKind_is _ _ _ _) ?k5 ?_; (case k1 => k_asm); (case k2 => k_mem); (case k3 => assumption); (case k5 => assumption))))) | ((with_reducible show wpAny _ _ (compareOp _ _ _) _ _ _); first | ((with_reducible show wpAny _ _ (compareOp CmpOp.Eq (Value.str _ _) (Value.str _ _)) _ _ _); (refine eq_known ?k1 ?_; (case k1 => assumption)))) | ((with_reducible show wpAny _ _ (exec _ _) _ _ _); first | ((with_reducible show wpAny _ _ (exec (PySem.Stmt.For _ _ _ _ _) _) _ _ _); (k_here; (rename Fr _ _ _ _ => lF'); (with_unfolding_all refine' For_invVF lF' ?k1 ?k2 ?_; (case k1 => exact rfl); (case k2 => exact rfl); k_whole)))) | ((fail_if_success (with_reducible show wpAny _ _ (pyIter _) _ _ _)); walk1) | (dsimp only; (fail_if_success (with_reducible show wpAny _ _ (pyIter _) _ _ _)); walk1) | (leave1; walk_say "STEP leave1"; try dsimp only) | fail "no step"))
                exact turn_end (news' := (O, _) :: (((d, o) :: news) ++ own)) (by assumption) (by assumption) rfl (off_new off2) ⟨n1, n2, n3, n4, n5, n6, n7, us3, _, rfl, hus3, hgo, (putI_length wl2).trans hl2, putI_in hin2⟩
            all_goals
              refine turn_ret ?_
              dsimp only
              refine turn_ret ?_
              dsimp only
              ((try ((show let Q' := _; let E' := _; wpAny _ _ _ Q' E' _); intro Q' E')); repeat' (first | (k_unfold; (try dsimp only)) | ((with_reducible show wpAny _ _ (setItem _ _ _) _ _ _); first | ((with_reducible show wpAny _ _ (setItem (Value.ref _) (Value.str _ _) _) _ _ _); (k_here; k_dflt (refine' kda_set (knd := PySem.strKind _ _) ?F ?N ?U ?d (strKind_is _ _ _ _) ?z ?_; (case F => k_asm); (case N => k_asm); (case U => exact UpdF.tail (by assumption) (UpdF.head (by assumption))); (case d => assumption); (case z => assumption)); intro h' o' F' N' hd')) | ((with_reducible show wpAny _ _ (setItem (Value.ref _) (Value.int _ _) (Value.int _ _)) _ _ _); (k_here; k_dflt (refine' set_at ?k1 ?k2 ?k3 ?k4 ?k5 ?k6 ?_; (case k1 => k_asm); (case k2 => k_asm); (case k3 => exact (Int.natCast_add _ _).symm); (case k4 => exact Upd.head (by assumption)); (case k5 => assumption); (case k6 => assumption); k_whole); intro h' F' N' hi'))) | ((with_reducible show wpAny _ _ (binaryOp _ _ _) _ _ _); first | ((with_reducible show wpAny _ _ (binaryOp Operator.Mod (Value.int _ _) (Value.int _ _)) _ _ _); (k_here; (with_reducible refine mod_256 ?_))) | ((with_reducible show wpAny _ _ (binaryOp Operator.FloorDiv (Value.int _ _) (Value.int _ _)) _ _ _); (k_here; (with_reducible refine fdiv_256 ?k1 ?_); (case k1 => omega))) | ((with_reducible show wpAny _ _ (binaryOp Operator.Pow (Value.int _ _) (Value.int _ _)) _ _ _); (k_here; (with_reducible show wpAny _ _ (binaryOp Operator.Pow (Value.int 256 _) _) _ _ _); (with_reducible refine pow256_x ?k2 ?_); (case k2 => omega))) | ((with_reducible show wpAny _ _ (binaryOp Operator.Pow (Value.int _ _) (Value.int _ _)) _ _ _); (k_here; (with_reducible show wpAny _ _ (binaryOp Operator.Pow (Value.int 2 _) _) _ _ _); (with_reducible refine pow2_x ?k1 ?k2 ?_); (case k1 => omega); (case k2 => omega)))) | ((with_reducible show wpAny _ _ (call _ _) _ _ _); first | ((with_reducible show wpAny _ _ (call (Value.type "range") _) _ _ _); (k_here; k_dflt (refine' range1 ?k1 ?k2 ?_; (case k1 => k_asm); (case k2 => k_asm); k_whole); intro r' t1' t2' t3' h' tk' R' F' N')) | ((with_reducible show wpAny _ _ (call (Value.type "bytes") _) _ _ _); walk_at "M bytes") | ((with_reducible show wpAny _ _ (call (Value.type "list") _) _ _ _); (k_here; (with_reducible show wpAny _ _ (call (Value.type "list") [Value.bytes _ _]) _ _ _); k_dflt (refine' list_bytes_K ?k0 ?k1 ?k2 ?k3 ?_; (case k0 => exact rfl); (case k1 => k_asm); (case k2 => k_asm); (case k3 => assumption); k_whole); intro us' c' h' tk' D' F' N' l1' hi')) | ((k_here; (with_reducible show wpAny _ _ (call (Value.ref 244) [Value.ref _, Value.ref _, Value.ref _, Value.str _ _]) _ _ _); k_dflt (refine' lplace_okN ?kH ?hp ?p0 ?p1 ?p2 ?p3 ?p4 ?p5 ?p6 ?p7 ?p8 ?p9 ?p10 ?_; (case hp => assumption); (case kH => walk_at "M here"); (case p0 => assumption); (case p1 => assumption); (case p2 => assumption); (case p3 => assumption); (case p4 => assumption); (case p5 => assumption); (case p6 => assumption); (case p7 => assumption); (case p8 => assumption); (case p9 => assumption); (case p10 => assumption); k_whole); intro h' tk' F' N')) | ((k_here; (with_reducible show wpAny _ _ (call (Value.ref 244) [Value.ref _, Value.ref _, Value.ref _, Value.str _ _]) _ _ _); k_dflt (refine' lplace_okS ?kH ?hp ?p0 ?p1 ?p2 ?p3 ?p4 ?p5 ?p6 ?p7 ?p8 ?p9 ?p10 ?_; (case hp => assumption); (case kH => walk_at "M here"); (case p0 => assumption); (case p1 => assumption); (case p2 => assumption); (case p3 => assumption); (case p4 => assumption); (case p5 => assumption); (case p6 => assumption); (case p7 => assumption); (case p8 => assumption); (case p9 => assumption); (case p10 => assumption); k_whole); intro t' h' tk' F' N'))) | ((with_reducible show wpAny _ _ (subscriptTail _ _ _ _) _ _ _); first | ((k_here; (with_reducible show wpAny _ _ (subscriptTail _ _ (Value.ref _) (Value.str _ _)) _ _ _); k_dflt (refine' kda_item (knd := PySem.strKind _ _) ?k1 ?k2 ?k3 (strKind_is _ _ _ _) ?k5 ?_; (case k1 => k_asm); (case k2 => k_mem); (case k3 => assumption); (case k5 => assumption))))) | ((with_reducible show wpAny _ _ (compareOp _ _ _) _ _ _); first | ((with_reducible show wpAny _ _ (compareOp CmpOp.Eq (Value.str _ _) (Value.str _ _)) _ _ _); (refine eq_known ?k1 ?_; (case k1 => assumption)))) | ((with_reducible show wpAny _ _ (exec _ _) _ _ _); first | ((with_reducible show wpAny _ _ (exec (PySem.Stmt.For _ _ _ _ _) _) _ _ _); (k_here; (rename Fr _ _ _ _ => lF'); (with_unfolding_all refine' For_invVF lF' ?k1 ?k2 ?_; (case k1 => exact rfl); (case k2 => exact rfl); k_whole)))) | ((fail_if_success (with_reducible show wpAny _ _ (pyIter _) _ _ _)); walk1) | (dsimp only; (fail_if_success (with_reducible show wpAny _ _ (pyIter _) _ _ _)); walk1) | (leave1; walk_say "STEP leave1"; try dsimp only) | fail "no step"))
              exact exc _ (hlf.trans (loadF_err hi2 (hsec.trans (secF_reach hr2 hsc hwp (by first | exact nof3 (by assumption) | exact nof2 habsB (by assumption)))))) _ _ _ (by assumption) (cb_drop (news_tail (by assumption)) up2)
          · have hpcB : (r.way == Str.ofString "pc") = false := beq_false_of_ne hpc
            have hwp : worthP (secs.map (·.1)) bf syms k r = some (p + r.worth) := worthP_np hp hpc
            by_cases habs : r.way = Str.ofString "abs"
            · have habsB : (r.way == Str.ofString "abs") = true := beq_iff_eq.mpr habs
              ((try ((show let Q' := _; let E' := _; wpAny _ _ _ Q' E' _); intro Q' E')); repeat' (first | (k_unfold; (try dsimp only)) | ((with_reducible show wpAny _ _ (setItem _ _ _) _ _ _); first | ((with_reducible show wpAny _ _ (setItem (Value.ref _) (Value.str _ _) _) _ _ _); (k_here; k_dflt (refine' kda_set (knd := PySem.strKind _ _) ?F ?N ?U ?d (strKind_is _ _ _ _) ?z ?_; (case F => k_asm); (case N => k_asm); (case U => exact UpdF.tail (by assumption) (UpdF.head (by assumption))); (case d => assumption); (case z => assumption)); intro h' o' F' N' hd')) | ((with_reducible show wpAny _ _ (setItem (Value.ref _) (Value.int _ _) (Value.int _ _)) _ _ _); (k_here; k_dflt (refine' set_at ?k1 ?k2 ?k3 ?k4 ?k5 ?k6 ?_; (case k1 => k_asm); (case k2 => k_asm); (case k3 => exact (Int.natCast_add _ _).symm); (case k4 => exact Upd.head (by assumption)); (case k5 => assumption); (case k6 => assumption); k_whole); intro h' F' N' hi'))) | ((with_reducible show wpAny _ _ (binaryOp _ _ _) _ _ _); first | ((with_reducible show wpAny _ _ (binaryOp Operator.Mod (Value.int _ _) (Value.int _ _)) _ _ _); (k_here; (with_reducible refine mod_256 ?_))) | ((with_reducible show wpAny _ _ (binaryOp Operator.FloorDiv (Value.int _ _) (Value.int _ _)) _ _ _); (k_here; (with_reducible refine fdiv_256 ?k1 ?_); (case k1 => omega))) | ((with_reducible show wpAny _ _ (binaryOp Operator.Pow (Value.int _ _) (Value.int _ _)) _ _ _); (k_here; (with_reducible show wpAny _ _ (binaryOp Operator.Pow (Value.int 256 _) _) _ _ _); (with_reducible refine pow256_x ?k2 ?_); (case k2 => omega))) | ((with_reducible show wpAny _ _ (binaryOp Operator.Pow (Value.int _ _) (Value.int _ _)) _ _ _); (k_here; (with_reducible show wpAny _ _ (binaryOp Operator.Pow (Value.int 2 _) _) _ _ _); (with_reducible refine pow2_x ?k1 ?k2 ?_); (case k1 => omega); (case k2 => omega)))) | ((with_reducible show wpAny _ _ (call _ _) _ _ _); first | ((with_reducible show wpAny _ _ (call (Value.type "range") _) _ _ _); (k_here; k_dflt (refine' range1 ?k1 ?k2 ?_; (case k1 => k_asm); (case k2 => k_asm); k_whole); intro r' t1' t2' t3' h' tk' R' F' N')) | ((with_reducible show wpAny _ _ (call (Value.type "bytes") _) _ _ _); walk_at "M bytes") | ((with_reducible show wpAny _ _ (call (Value.type "list") _) _ _ _); (k_here; (with_reducible show wpAny _ _ (call (Value.type "list") [Value.bytes _ _]) _ _ _); k_dflt (refine' list_bytes_K ?k0 ?k1 ?k2 ?k3 ?_; (case k0 => exact rfl); (case k1 => k_asm); (case k2 => k_asm); (case k3 => assumption); k_whole); intro us' c' h' tk' D' F' N' l1' hi')) | ((k_here; (with_reducible show wpAny _ _ (call (Value.ref 244) [Value.ref _, Value.ref _, Value.ref _, Value.str _ _]) _ _ _); k_dflt (refine' lplace_okN ?kH ?hp ?p0 ?p1 ?p2 ?p3 ?p4 ?p5 ?p6 ?p7 ?p8 ?p9 ?p10 ?_; (case hp => assumption); (case kH => walk_at "M here"); (case p0 => assumption); (case p1 => assumption); (case p2 => assumption); (case p3 => assumption); (case p4 => assumption); (case p5 => assumption); (case p6 => assumption); (case p7 => assumption); (case p8 => assumption); (case p9 => assumption); (case p10 => assumption); k_whole); intro h' tk' F' N')) | ((k_here; (with_reducible show wpAny _ _ (call (Value.ref 244) [Value.ref _, Value.ref _, Value.ref _, Value.str _ _]) _ _ _); k_dflt (refine' lplace_okS ?kH ?hp ?p0 ?p1 ?p2 ?p3 ?p4 ?p5 ?p6 ?p7 ?p8 ?p9 ?p10 ?_; (case hp => assumption); (case kH => walk_at "M here"); (case p0 => assumption); (case p1 => assumption); (case p2 => assumption); (case p3 => assumption); (case p4 => assumption); (case p5 => assumption); (case p6 => assumption); (case p7 => assumption); (case p8 => assumption); (case p9 => assumption); (case p10 => assumption); k_whole); intro t' h' tk' F' N'))) | ((with_reducible show wpAny _ _ (subscriptTail _ _ _ _) _ _ _); first | ((k_here; (with_reducible show wpAny _ _ (subscriptTail _ _ (Value.ref _) (Value.str _ _)) _ _ _); k_dflt (refine' kda_item (knd := PySem.strKind _ _) ?k1 ?k2 ?k3 (strKind_is _ _ _ _) ?k5 ?_; (case k1 => k_asm); (case k2 => k_mem); (case k3 => assumption); (case k5 => assumption))))) | ((with_reducible show wpAny _ _ (compareOp _ _ _) _ _ _); first | ((with_reducible show wpAny _ _ (compareOp CmpOp.Eq (Value.str _ _) (Value.str _ _)) _ _ _); (refine eq_known ?k1 ?_; (case k1 => assumption)))) | ((with_reducible show wpAny _ _ (exec _ _) _ _ _); first | ((with_reducible show wpAny _ _ (exec (PySem.Stmt.For _ _ _ _ _) _) _ _ _); (k_here; (rename Fr _ _ _ _ => lF'); (with_unfolding_all refine' For_invVF lF' ?k1 ?k2 ?_; (case k1 => exact rfl); (case k2 => exact rfl); k_whole)))) | ((fail_if_success (with_reducible show wpAny _ _ (pyIter _) _ _ _)); walk1) | (dsimp only; (fail_if_success (with_reducible show wpAny _ _ (pyIter _) _ _ _)); walk1) | (leave1; walk_say "STEP leave1"; try dsimp only) | fail "no step"))
              · rename IsRange _ _ _ _ _ _ _ _ => Rg
                have hfit := fitL habsB (by assumption) (by assumption)
                have hgo := hsec.trans (secF_goL hr2 hsc hwp hfit)
                refine forRange (n := r.width) ?eL3 (llJ3 D Y R B d O x k t ks r.at_ (p + r.worth) cO ((((d, o) :: news) ++ own) ++ own2)) rfl (by assumption) (news_tail (by assumption)) Rg ?small ?hn ⟨rfl, rfl, rfl, rfl, rfl, rfl, rfl, rfl, ⟨_, rfl⟩, us, rfl, by rw [putI_zero]; exact hus⟩ ?turn3 ?done3
                case eL3 => rfl
                case small => exact range_small _ (by omega)
                case hn => exact range_size _
                case turn3 =>
                  intro i3 t3 m₃ news₃ h3 tk3 own3 hi3 hJ0' off3 F3 N3
                  refine Classical.byContradiction fun hG => ?_
                  obtain ⟨n1, n2, n3, n4, n5, n6, n7, n8, ⟨tw, n9⟩, us3, rfl, hus3⟩ := hJ0'
                  refine hG ?_
                  clear hG
                  rw [show (0 : Int) + (i3 : Int) * 1 = (i3 : Int) by omega] at F3
                  replace F3 := pinsT F3 (.cons n1 (.cons n2 (.cons n3 (.cons n4 (.cons n5 (.cons n6 (.cons n7 (.cons n8 (.cons n9 .nil)))))))))
                  have hx3 : (x, tup6 (.str r.sect u1) (.int r.at_ u2) (.int r.width u3) (.str r.name u4) (.int r.worth u5) (.str r.way u6)) ∈ ((O, PySem.W.listOf (List.toArray us3) cO) :: ((((d, o) :: news) ++ own) ++ own2)) ++ own3 := List.mem_append_left _ (.tail _ (List.mem_append_left _ (up _ hxN)))
                  have hneO3 := off_cons off3
                  dsimp only at hneO3
                  have hneO4 := all_app hneO2 hneO3
                  have hb3 : r.at_ + i3 < (putI ks r.at_ (p + r.worth) i3).length ∧ (putI ks r.at_ (p + r.worth) i3).length ≤ 1000 := by
                    rw [putI_length (by omega), hl2]; omega
                  ((try ((show let Q' := _; let E' := _; wpAny _ _ _ Q' E' _); intro Q' E')); repeat' (first | (k_unfold; (try dsimp only)) | ((with_reducible show wpAny _ _ (setItem _ _ _) _ _ _); first | ((with_reducible show wpAny _ _ (setItem (Value.ref _) (Value.str _ _) _) _ _ _); (k_here; k_dflt (refine' kda_set (knd := PySem.strKind _ _) ?F ?N ?U ?d (strKind_is _ _ _ _) ?z ?_; (case F => k_asm); (case N => k_asm); (case U => exact UpdF.tail (by assumption) (UpdF.head (by assumption))); (case d => assumption); (case z => assumption)); intro h' o' F' N' hd')) | ((with_reducible show wpAny _ _ (setItem (Value.ref _) (Value.int _ _) (Value.int _ _)) _ _ _); (k_here; k_dflt (refine' set_at ?k1 ?k2 ?k3 ?k4 ?k5 ?k6 ?_; (case k1 => k_asm); (case k2 => k_asm); (case k3 => exact (Int.natCast_add _ _).symm); (case k4 => exact Upd.head (by assumption)); (case k5 => assumption); (case k6 => assumption); k_whole); intro h' F' N' hi'))) | ((with_reducible show wpAny _ _ (binaryOp _ _ _) _ _ _); first | ((with_reducible show wpAny _ _ (binaryOp Operator.Mod (Value.int _ _) (Value.int _ _)) _ _ _); (k_here; (with_reducible refine mod_256 ?_))) | ((with_reducible show wpAny _ _ (binaryOp Operator.FloorDiv (Value.int _ _) (Value.int _ _)) _ _ _); (k_here; (with_reducible refine fdiv_256 ?k1 ?_); (case k1 => omega))) | ((with_reducible show wpAny _ _ (binaryOp Operator.Pow (Value.int _ _) (Value.int _ _)) _ _ _); (k_here; (with_reducible show wpAny _ _ (binaryOp Operator.Pow (Value.int 256 _) _) _ _ _); (with_reducible refine pow256_x ?k2 ?_); (case k2 => omega))) | ((with_reducible show wpAny _ _ (binaryOp Operator.Pow (Value.int _ _) (Value.int _ _)) _ _ _); (k_here; (with_reducible show wpAny _ _ (binaryOp Operator.Pow (Value.int 2 _) _) _ _ _); (with_reducible refine pow2_x ?k1 ?k2 ?_); (case k1 => omega); (case k2 => omega)))) | ((with_reducible show wpAny _ _ (call _ _) _ _ _); first | ((with_reducible show wpAny _ _ (call (Value.type "range") _) _ _ _); (k_here; k_dflt (refine' range1 ?k1 ?k2 ?_; (case k1 => k_asm); (case k2 => k_asm); k_whole); intro r' t1' t2' t3' h' tk' R' F' N')) | ((with_reducible show wpAny _ _ (call (Value.type "bytes") _) _ _ _); walk_at "M bytes") | ((with_reducible show wpAny _ _ (call (Value.type "list") _) _ _ _); (k_here; (with_reducible show wpAny _ _ (call (Value.type "list") [Value.bytes _ _]) _ _ _); k_dflt (refine' list_bytes_K ?k0 ?k1 ?k2 ?k3 ?_; (case k0 => exact rfl); (case k1 => k_asm); (case k2 => k_asm); (case k3 => assumption); k_whole); intro us' c' h' tk' D' F' N' l1' hi')) | ((k_here; (with_reducible show wpAny _ _ (call (Value.ref 244) [Value.ref _, Value.ref _, Value.ref _, Value.str _ _]) _ _ _); k_dflt (refine' lplace_okN ?kH ?hp ?p0 ?p1 ?p2 ?p3 ?p4 ?p5 ?p6 ?p7 ?p8 ?p9 ?p10 ?_; (case hp => assumption); (case kH => walk_at "M here"); (case p0 => assumption); (case p1 => assumption); (case p2 => assumption); (case p3 => assumption); (case p4 => assumption); (case p5 => assumption); (case p6 => assumption); (case p7 => assumption); (case p8 => assumption); (case p9 => assumption); (case p10 => assumption); k_whole); intro h' tk' F' N')) | ((k_here; (with_reducible show wpAny _ _ (call (Value.ref 244) [Value.ref _, Value.ref _, Value.ref _, Value.str _ _]) _ _ _); k_dflt (refine' lplace_okS ?kH ?hp ?p0 ?p1 ?p2 ?p3 ?p4 ?p5 ?p6 ?p7 ?p8 ?p9 ?p10 ?_; (case hp => assumption); (case kH => walk_at "M here"); (case p0 => assumption); (case p1 => assumption); (case p2 => assumption); (case p3 => assumption); (case p4 => assumption); (case p5 => assumption); (case p6 => assumption); (case p7 => assumption); (case p8 => assumption); (case p9 => assumption); (case p10 => assumption); k_whole); intro t' h' tk' F' N'))) | ((with_reducible show wpAny _ _ (subscriptTail _ _ _ _) _ _ _); first | ((k_here; (with_reducible show wpAny _ _ (subscriptTail _ _ (Value.ref _) (Value.str _ _)) _ _ _); k_dflt (refine' kda_item (knd := PySem.strKind _ _) ?k1 ?k2 ?k3 (strKind_is _ _ _ _) ?k5 ?_; (case k1 => k_asm); (case k2 => k_mem); (case k3 => assumption); (case k5 => assumption))))) | ((with_reducible show wpAny _ _ (compareOp _ _ _) _ _ _); first | ((with_reducible show wpAny _ _ (compareOp CmpOp.Eq (Value.str _ _) (Value.str _ _)) _ _ _); (refine eq_known ?k1 ?_; (case k1 => assumption)))) | ((with_reducible show wpAny _ _ (exec _ _) _ _ _); first | ((with_reducible show wpAny _ _ (exec (PySem.Stmt.For _ _ _ _ _) _) _ _ _); (k_here; (rename Fr _ _ _ _ => lF'); (with_unfolding_all refine' For_invVF lF' ?k1 ?k2 ?_; (case k1 => exact rfl); (case k2 => exact rfl); k_whole)))) | ((fail_if_success (with_reducible show wpAny _ _ (pyIter _) _ _ _)); walk1) | (dsimp only; (fail_if_success (with_reducible show wpAny _ _ (pyIter _) _ _ _)); walk1) | (leave1; walk_say "STEP leave1"; try dsimp only) | fail "no step"))
                  exact turn_end (news' := (O, _) :: ((((d, o) :: news) ++ own) ++ own2)) (by assumption) (by assumption) rfl (off_new off3) ⟨by with_unfolding_all rfl, by with_unfolding_all rfl, by with_unfolding_all rfl, by with_unfolding_all rfl, by with_unfolding_all rfl, by with_unfolding_all rfl, by with_unfolding_all rfl, by with_unfolding_all rfl, ⟨_, by with_unfolding_all rfl⟩, _, rfl, by rw [← putI_succ (by omega)]; assumption⟩
                case done3 =>
                  intro m₃ news₃ h3 tk3 hJ0' F3 N3
                  refine Classical.byContradiction fun hG => ?_
                  obtain ⟨n1, n2, n3, n4, n5, n6, n7, n8, ⟨tw, n9⟩, us3, rfl, hus3⟩ := hJ0'
                  refine hG ?_
                  clear hG
                  ((try ((show let Q' := _; let E' := _; wpAny _ _ _ Q' E' _); intro Q' E')); repeat' (first | (k_unfold; (try dsimp only)) | ((with_reducible show wpAny _ _ (setItem _ _ _) _ _ _); first | ((with_reducible show wpAny _ _ (setItem (Value.ref _) (Value.str _ _) _) _ _ _); (k_here; k_dflt (refine' kda_set (knd := PySem.strKind _ _) ?F ?N ?U ?d (strKind_is _ _ _ _) ?z ?_; (case F => k_asm); (case N => k_asm); (case U => exact UpdF.tail (by assumption) (UpdF.head (by assumption))); (case d => assumption); (case z => assumption)); intro h' o' F' N' hd')) | ((with_reducible show wpAny _ _ (setItem (Value.ref _) (Value.int _ _) (Value.int _ _)) _ _ _); (k_here; k_dflt (refine' set_at ?k1 ?k2 ?k3 ?k4 ?k5 ?k6 ?_; (case k1 => k_asm); (case k2 => k_asm); (case k3 => exact (Int.natCast_add _ _).symm); (case k4 => exact Upd.head (by assumption)); (case k5 => assumption); (case k6 => assumption); k_whole); intro h' F' N' hi'))) | ((with_reducible show wpAny _ _ (binaryOp _ _ _) _ _ _); first | ((with_reducible show wpAny _ _ (binaryOp Operator.Mod (Value.int _ _) (Value.int _ _)) _ _ _); (k_here; (with_reducible refine mod_256 ?_))) | ((with_reducible show wpAny _ _ (binaryOp Operator.FloorDiv (Value.int _ _) (Value.int _ _)) _ _ _); (k_here; (with_reducible refine fdiv_256 ?k1 ?_); (case k1 => omega))) | ((with_reducible show wpAny _ _ (binaryOp Operator.Pow (Value.int _ _) (Value.int _ _)) _ _ _); (k_here; (with_reducible show wpAny _ _ (binaryOp Operator.Pow (Value.int 256 _) _) _ _ _); (with_reducible refine pow256_x ?k2 ?_); (case k2 => omega))) | ((with_reducible show wpAny _ _ (binaryOp Operator.Pow (Value.int _ _) (Value.int _ _)) _ _ _); (k_here; (with_reducible show wpAny _ _ (binaryOp Operator.Pow (Value.int 2 _) _) _ _ _); (with_reducible refine pow2_x ?k1 ?k2 ?_); (case k1 => omega); (case k2 => omega)))) | ((with_reducible show wpAny _ _ (call _ _) _ _ _); first | ((with_reducible show wpAny _ _ (call (Value.type "range") _) _ _ _); (k_here; k_dflt (refine' range1 ?k1 ?k2 ?_; (case k1 => k_asm); (case k2 => k_asm); k_whole); intro r' t1' t2' t3' h' tk' R' F' N')) | ((with_reducible show wpAny _ _ (call (Value.type "bytes") _) _ _ _); walk_at "M bytes") | ((with_reducible show wpAny _ _ (call (Value.type "list") _) _ _ _); (k_here; (with_reducible show wpAny _ _ (call (Value.type "list") [Value.bytes _ _]) _ _ _); k_dflt (refine' list_bytes_K ?k0 ?k1 ?k2 ?k3 ?_; (case k0 => exact rfl); (case k1 => k_asm); (case k2 => k_asm); (case k3 => assumption); k_whole); intro us' c' h' tk' D' F' N' l1' hi')) | ((k_here; (with_reducible show wpAny _ _ (call (Value.ref 244) [Value.ref _, Value.ref _, Value.ref _, Value.str _ _]) _ _ _); k_dflt (refine' lplace_okN ?kH ?hp ?p0 ?p1 ?p2 ?p3 ?p4 ?p5 ?p6 ?p7 ?p8 ?p9 ?p10 ?_; (case hp => assumption); (case kH => walk_at "M here"); (case p0 => assumption); (case p1 => assumption); (case p2 => assumption); (case p3 => assumption); (case p4 => assumption); (case p5 => assumption); (case p6 => assumption); (case p7 => assumption); (case p8 => assumption); (case p9 => assumption); (case p10 => assumption); k_whole); intro h' tk' F' N')) | ((k_here; (with_reducible show wpAny _ _ (call (Value.ref 244) [Value.ref _, Value.ref _, Value.ref _, Value.str _ _]) _ _ _); k_dflt (refine' lplace_okS ?kH ?hp ?p0 ?p1 ?p2 ?p3 ?p4 ?p5 ?p6 ?p7 ?p8 ?p9 ?p10 ?_; (case hp => assumption); (case kH => walk_at "M here"); (case p0 => assumption); (case p1 => assumption); (case p2 => assumption); (case p3 => assumption); (case p4 => assumption); (case p5 => assumption); (case p6 => assumption); (case p7 => assumption); (case p8 => assumption); (case p9 => assumption); (case p10 => assumption); k_whole); intro t' h' tk' F' N'))) | ((with_reducible show wpAny _ _ (subscriptTail _ _ _ _) _ _ _); first | ((k_here; (with_reducible show wpAny _ _ (subscriptTail _ _ (Value.ref _) (Value.str _ _)) _ _ _); k_dflt (refine' kda_item (knd := PySem.strKind _ _) ?k1 ?k2 ?k3 (strKind_is _ _ _ _) ?k5 ?_; (case k1 => k_asm); (case k2 => k_mem); (case k3 => assumption); (case k5 => assumption))))) | ((with_reducible show wpAny _ _ (compareOp _ _ _) _ _ _); first | ((with_reducible show wpAny _ _ (compareOp CmpOp.Eq (Value.str _ _) (Value.str _ _)) _ _ _); (refine eq_known ?k1 ?_; (case k1 => assumption)))) | ((with_reducible show wpAny _ _ (exec _ _) _ _ _); first | ((with_reducible show wpAny _ _ (exec (PySem.Stmt.For _ _ _ _ _) _) _ _ _); (k_here; (rename Fr _ _ _ _ => lF'); (with_unfolding_all refine' For_invVF lF' ?k1 ?k2 ?_; (case k1 => exact rfl); (case k2 => exact rfl); k_whole)))) | ((fail_if_success (with_reducible show wpAny _ _ (pyIter _) _ _ _)); walk1) | (dsimp only; (fail_if_success (with_reducible show wpAny _ _ (pyIter _) _ _ _)); walk1) | (leave1; walk_say "STEP leave1"; try dsimp only) | fail "no step"))
                  exact turn_end (news' := (O, _) :: (((d, o) :: news) ++ own)) (by assumption) (by assumption) rfl (off_new off2) ⟨n1, n2, n3, n4, n5, n6, n7, us3, _, rfl, hus3, hgo, (putI_length wl2).trans hl2, putI_in hin2⟩
              all_goals
                refine turn_ret ?_
                dsimp only
                refine turn_ret ?_
                dsimp only
                ((try ((show let Q' := _; let E' := _; wpAny _ _ _ Q' E' _); intro Q' E')); repeat' (first | (k_unfold; (try dsimp only)) | ((with_reducible show wpAny _ _ (setItem _ _ _) _ _ _); first | ((with_reducible show wpAny _ _ (setItem (Value.ref _) (Value.str _ _) _) _ _ _); (k_here; k_dflt (refine' kda_set (knd := PySem.strKind _ _) ?F ?N ?U ?d (strKind_is _ _ _ _) ?z ?_; (case F => k_asm); (case N => k_asm); (case U => exact UpdF.tail (by assumption) (UpdF.head (by assumption))); (case d => assumption); (case z => assumption)); intro h' o' F' N' hd')) | ((with_reducible show wpAny _ _ (setItem (Value.ref _) (Value.int _ _) (Value.int _ _)) _ _ _); (k_here; k_dflt (refine' set_at ?k1 ?k2 ?k3 ?k4 ?k5 ?k6 ?_; (case k1 => k_asm); (case k2 => k_asm); (case k3 => exact (Int.natCast_add _ _).symm); (case k4 => exact Upd.head (by assumption)); (case k5 => assumption); (case k6 => assumption); k_whole); intro h' F' N' hi'))) | ((with_reducible show wpAny _ _ (binaryOp _ _ _) _ _ _); first | ((with_reducible show wpAny _ _ (binaryOp Operator.Mod (Value.int _ _) (Value.int _ _)) _ _ _); (k_here; (with_reducible refine mod_256 ?_))) | ((with_reducible show wpAny _ _ (binaryOp Operator.FloorDiv (Value.int _ _) (Value.int _ _)) _ _ _); (k_here; (with_reducible refine fdiv_256 ?k1 ?_); (case k1 => omega))) | ((with_reducible show wpAny _ _ (binaryOp Operator.Pow (Value.int _ _) (Value.int _ _)) _ _ _); (k_here; (with_reducible show wpAny _ _ (binaryOp Operator.Pow (Value.int 256 _) _) _ _ _); (with_reducible refine pow256_x ?k2 ?_); (case k2 => omega))) | ((with_reducible show wpAny _ _ (binaryOp Operator.Pow (Value.int _ _) (Value.int _ _)) _ _ _); (k_here; (with_reducible show wpAny _ _ (binaryOp Operator.Pow (Value.int 2 _) _) _ _ _); (with_reducible refine pow2_x ?k1 ?k2 ?_); (case k1 => omega); (case k2 => omega)))) | ((with_reducible show wpAny _ _ (call _ _) _ _ _); first | ((with_reducible show wpAny _ _ (call (Value.type "range") _) _ _ _); (k_here; k_dflt (refine' range1 ?k1 ?k2 ?_; (case k1 => k_asm); (case k2 => k_asm); k_whole); intro r' t1' t2' t3' h' tk' R' F' N')) | ((with_reducible show wpAny _ _ (call (Value.type "bytes") _) _ _ _); walk_at "M bytes") | ((with_reducible show wpAny _ _ (call (Value.type "list") _) _ _ _); (k_here; (with_reducible show wpAny _ _ (call (Value.type "list") [Value.bytes _ _]) _ _ _); k_dflt (refine' list_bytes_K ?k0 ?k1 ?k2 ?k3 ?_; (case k0 => exact rfl); (case k1 => k_asm); (case k2 => k_asm); (case k3 => assumption); k_whole); intro us' c' h' tk' D' F' N' l1' hi')) | ((k_here; (with_reducible show wpAny _ _ (call (Value.ref 244) [Value.ref _, Value.ref _, Value.ref _, Value.str _ _]) _ _ _); k_dflt (refine' lplace_okN ?kH ?hp ?p0 ?p1 ?p2 ?p3 ?p4 ?p5 ?p6 ?p7 ?p8 ?p9 ?p10 ?_; (case hp => assumption); (case kH => walk_at "M here"); (case p0 => assumption); (case p1 => assumption); (case p2 => assumption); (case p3 => assumption); (case p4 => assumption); (case p5 => assumption); (case p6 => assumption); (case p7 => assumption); (case p8 => assumption); (case p9 => assumption); (case p10 => assumption); k_whole); intro h' tk' F' N')) | ((k_here; (with_reducible show wpAny _ _ (call (Value.ref 244) [Value.ref _, Value.ref _, Value.ref _, Value.str _ _]) _ _ _); k_dflt (refine' lplace_okS ?kH ?hp ?p0 ?p1 ?p2 ?p3 ?p4 ?p5 ?p6 ?p7 ?p8 ?p9 ?p10 ?_; (case hp => assumption); (case kH => walk_at "M here"); (case p0 => assumption); (case p1 => assumption); (case p2 => assumption); (case p3 => assumption); (case p4 => assumption); (case p5 => assumption); (case p6 => assumption); (case p7 => assumption); (case p8 => assumption); (case p9 => assumption); (case p10 => assumption); k_whole); intro t' h' tk' F' N'))) | ((with_reducible show wpAny _ _ (subscriptTail _ _ _ _) _ _ _); first | ((k_here; (with_reducible show wpAny _ _ (subscriptTail _ _ (Value.ref _) (Value.str _ _)) _ _ _); k_dflt (refine' kda_item (knd := PySem.strKind _ _) ?k1 ?k2 ?k3 (strKind_is _ _ _ _) ?k5 ?_; (case k1 => k_asm); (case k2 => k_mem); (case k3 => assumption); (case k5 => assumption))))) | ((with_reducible show wpAny _ _ (compareOp _ _ _) _ _ _); first | ((with_reducible show wpAny _ _ (compareOp CmpOp.Eq (Value.str _ _) (Value.str _ _)) _ _ _); (refine eq_known ?k1 ?_; (case k1 => assumption)))) | ((with_reducible show wpAny _ _ (exec _ _) _ _ _); first | ((with_reducible show wpAny _ _ (exec (PySem.Stmt.For _ _ _ _ _) _) _ _ _); (k_here; (rename Fr _ _ _ _ => lF'); (with_unfolding_all refine' For_invVF lF' ?k1 ?k2 ?_; (case k1 => exact rfl); (case k2 => exact rfl); k_whole)))) | ((fail_if_success (with_reducible show wpAny _ _ (pyIter _) _ _ _)); walk1) | (dsimp only; (fail_if_success (with_reducible show wpAny _ _ (pyIter _) _ _ _)); walk1) | (leave1; walk_say "STEP leave1"; try dsimp only) | fail "no step"))
                exact exc _ (hlf.trans (loadF_err hi2 (hsec.trans (secF_reach hr2 hsc hwp (by first | exact nof3 (by assumption) | exact nofL habsB (by assumption)))))) _ _ _ (by assumption) (cb_drop (news_tail (by assumption)) up2)
            · have habsB : (r.way == Str.ofString "abs") = false := beq_false_of_ne habs
              ((try ((show let Q' := _; let E' := _; wpAny _ _ _ Q' E' _); intro Q' E')); repeat' (first | (k_unfold; (try dsimp only)) | ((with_reducible show wpAny _ _ (setItem _ _ _) _ _ _); first | ((with_reducible show wpAny _ _ (setItem (Value.ref _) (Value.str _ _) _) _ _ _); (k_here; k_dflt (refine' kda_set (knd := PySem.strKind _ _) ?F ?N ?U ?d (strKind_is _ _ _ _) ?z ?_; (case F => k_asm); (case N => k_asm); (case U => exact UpdF.tail (by assumption) (UpdF.head (by assumption))); (case d => assumption); (case z => assumption)); intro h' o' F' N' hd')) | ((with_reducible show wpAny _ _ (setItem (Value.ref _) (Value.int _ _) (Value.int _ _)) _ _ _); (k_here; k_dflt (refine' set_at ?k1 ?k2 ?k3 ?k4 ?k5 ?k6 ?_; (case k1 => k_asm); (case k2 => k_asm); (case k3 => exact (Int.natCast_add _ _).symm); (case k4 => exact Upd.head (by assumption)); (case k5 => assumption); (case k6 => assumption); k_whole); intro h' F' N' hi'))) | ((with_reducible show wpAny _ _ (binaryOp _ _ _) _ _ _); first | ((with_reducible show wpAny _ _ (binaryOp Operator.Mod (Value.int _ _) (Value.int _ _)) _ _ _); (k_here; (with_reducible refine mod_256 ?_))) | ((with_reducible show wpAny _ _ (binaryOp Operator.FloorDiv (Value.int _ _) (Value.int _ _)) _ _ _); (k_here; (with_reducible refine fdiv_256 ?k1 ?_); (case k1 => omega))) | ((with_reducible show wpAny _ _ (binaryOp Operator.Pow (Value.int _ _) (Value.int _ _)) _ _ _); (k_here; (with_reducible show wpAny _ _ (binaryOp Operator.Pow (Value.int 256 _) _) _ _ _); (with_reducible refine pow256_x ?k2 ?_); (case k2 => omega))) | ((with_reducible show wpAny _ _ (binaryOp Operator.Pow (Value.int _ _) (Value.int _ _)) _ _ _); (k_here; (with_reducible show wpAny _ _ (binaryOp Operator.Pow (Value.int 2 _) _) _ _ _); (with_reducible refine pow2_x ?k1 ?k2 ?_); (case k1 => omega); (case k2 => omega)))) | ((with_reducible show wpAny _ _ (call _ _) _ _ _); first | ((with_reducible show wpAny _ _ (call (Value.type "range") _) _ _ _); (k_here; k_dflt (refine' range1 ?k1 ?k2 ?_; (case k1 => k_asm); (case k2 => k_asm); k_whole); intro r' t1' t2' t3' h' tk' R' F' N')) | ((with_reducible show wpAny _ _ (call (Value.type "bytes") _) _ _ _); walk_at "M bytes") | ((with_reducible show wpAny _ _ (call (Value.type "list") _) _ _ _); (k_here; (with_reducible show wpAny _ _ (call (Value.type "list") [Value.bytes _ _]) _ _ _); k_dflt (refine' list_bytes_K ?k0 ?k1 ?k2 ?k3 ?_; (case k0 => exact rfl); (case k1 => k_asm); (case k2 => k_asm); (case k3 => assumption); k_whole); intro us' c' h' tk' D' F' N' l1' hi')) | ((k_here; (with_reducible show wpAny _ _ (call (Value.ref 244) [Value.ref _, Value.ref _, Value.ref _, Value.str _ _]) _ _ _); k_dflt (refine' lplace_okN ?kH ?hp ?p0 ?p1 ?p2 ?p3 ?p4 ?p5 ?p6 ?p7 ?p8 ?p9 ?p10 ?_; (case hp => assumption); (case kH => walk_at "M here"); (case p0 => assumption); (case p1 => assumption); (case p2 => assumption); (case p3 => assumption); (case p4 => assumption); (case p5 => assumption); (case p6 => assumption); (case p7 => assumption); (case p8 => assumption); (case p9 => assumption); (case p10 => assumption); k_whole); intro h' tk' F' N')) | ((k_here; (with_reducible show wpAny _ _ (call (Value.ref 244) [Value.ref _, Value.ref _, Value.ref _, Value.str _ _]) _ _ _); k_dflt (refine' lplace_okS ?kH ?hp ?p0 ?p1 ?p2 ?p3 ?p4 ?p5 ?p6 ?p7 ?p8 ?p9 ?p10 ?_; (case hp => assumption); (case kH => walk_at "M here"); (case p0 => assumption); (case p1 => assumption); (case p2 => assumption); (case p3 => assumption); (case p4 => assumption); (case p5 => assumption); (case p6 => assumption); (case p7 => assumption); (case p8 => assumption); (case p9 => assumption); (case p10 => assumption); k_whole); intro t' h' tk' F' N'))) | ((with_reducible show wpAny _ _ (subscriptTail _ _ _ _) _ _ _); first | ((k_here; (with_reducible show wpAny _ _ (subscriptTail _ _ (Value.ref _) (Value.str _ _)) _ _ _); k_dflt (refine' kda_item (knd := PySem.strKind _ _) ?k1 ?k2 ?k3 (strKind_is _ _ _ _) ?k5 ?_; (case k1 => k_asm); (case k2 => k_mem); (case k3 => assumption); (case k5 => assumption))))) | ((with_reducible show wpAny _ _ (compareOp _ _ _) _ _ _); first | ((with_reducible show wpAny _ _ (compareOp CmpOp.Eq (Value.str _ _) (Value.str _ _)) _ _ _); (refine eq_known ?k1 ?_; (case k1 => assumption)))) | ((with_reducible show wpAny _ _ (exec _ _) _ _ _); first | ((with_reducible show wpAny _ _ (exec (PySem.Stmt.For _ _ _ _ _) _) _ _ _); (k_here; (rename Fr _ _ _ _ => lF'); (with_unfolding_all refine' For_invVF lF' ?k1 ?k2 ?_; (case k1 => exact rfl); (case k2 => exact rfl); k_whole)))) | ((fail_if_success (with_reducible show wpAny _ _ (pyIter _) _ _ _)); walk1) | (dsimp only; (fail_if_success (with_reducible show wpAny _ _ (pyIter _) _ _ _)); walk1) | (leave1; walk_say "STEP leave1"; try dsimp only) | fail "no step"))
              · rename IsRange _ _ _ _ _ _ _ _ => Rg
                have hfit := fit2 habsB (by assumption) (by assumption)
                have hgo := hsec.trans (secF_goL hr2 hsc hwp hfit)
                refine forRange (n := r.width) ?eL3 (llJ3 D Y R B d O x k t ks r.at_ (p + r.worth) cO ((((d, o) :: news) ++ own) ++ own2)) rfl (by assumption) (news_tail (by assumption)) Rg ?small ?hn ⟨rfl, rfl, rfl, rfl, rfl, rfl, rfl, rfl, ⟨_, rfl⟩, us, rfl, by rw [putI_zero]; exact hus⟩ ?turn3 ?done3
                case eL3 => rfl
                case small => exact range_small _ (by omega)
                case hn => exact range_size _
                case turn3 =>
                  intro i3 t3 m₃ news₃ h3 tk3 own3 hi3 hJ0' off3 F3 N3
                  refine Classical.byContradiction fun hG => ?_
                  obtain ⟨n1, n2, n3, n4, n5, n6, n7, n8, ⟨tw, n9⟩, us3, rfl, hus3⟩ := hJ0'
                  refine hG ?_
                  clear hG
                  rw [show (0 : Int) + (i3 : Int) * 1 = (i3 : Int) by omega] at F3
                  replace F3 := pinsT F3 (.cons n1 (.cons n2 (.cons n3 (.cons n4 (.cons n5 (.cons n6 (.cons n7 (.cons n8 (.cons n9 .nil)))))))))
                  have hx3 : (x, tup6 (.str r.sect u1) (.int r.at_ u2) (.int r.width u3) (.str r.name u4) (.int r.worth u5) (.str r.way u6)) ∈ ((O, PySem.W.listOf (List.toArray us3) cO) :: ((((d, o) :: news) ++ own) ++ own2)) ++ own3 := List.mem_append_left _ (.tail _ (List.mem_append_left _ (up _ hxN)))
                  have hneO3 := off_cons off3
                  dsimp only at hneO3
                  have hneO4 := all_app hneO2 hneO3
                  have hb3 : r.at_ + i3 < (putI ks r.at_ (p + r.worth) i3).length ∧ (putI ks r.at_ (p + r.worth) i3).length ≤ 1000 := by
                    rw [putI_length (by omega), hl2]; omega
                  ((try ((show let Q' := _; let E' := _; wpAny _ _ _ Q' E' _); intro Q' E')); repeat' (first | (k_unfold; (try dsimp only)) | ((with_reducible show wpAny _ _ (setItem _ _ _) _ _ _); first | ((with_reducible show wpAny _ _ (setItem (Value.ref _) (Value.str _ _) _) _ _ _); (k_here; k_dflt (refine' kda_set (knd := PySem.strKind _ _) ?F ?N ?U ?d (strKind_is _ _ _ _) ?z ?_; (case F => k_asm); (case N => k_asm); (case U => exact UpdF.tail (by assumption) (UpdF.head (by assumption))); (case d => assumption); (case z => assumption)); intro h' o' F' N' hd')) | ((with_reducible show wpAny _ _ (setItem (Value.ref _) (Value.int _ _) (Value.int _ _)) _ _ _); (k_here; k_dflt (refine' set_at ?k1 ?k2 ?k3 ?k4 ?k5 ?k6 ?_; (case k1 => k_asm); (case k2 => k_asm); (case k3 => exact (Int.natCast_add _ _).symm); (case k4 => exact Upd.head (by assumption)); (case k5 => assumption); (case k6 => assumption); k_whole); intro h' F' N' hi'))) | ((with_reducible show wpAny _ _ (binaryOp _ _ _) _ _ _); first | ((with_reducible show wpAny _ _ (binaryOp Operator.Mod (Value.int _ _) (Value.int _ _)) _ _ _); (k_here; (with_reducible refine mod_256 ?_))) | ((with_reducible show wpAny _ _ (binaryOp Operator.FloorDiv (Value.int _ _) (Value.int _ _)) _ _ _); (k_here; (with_reducible refine fdiv_256 ?k1 ?_); (case k1 => omega))) | ((with_reducible show wpAny _ _ (binaryOp Operator.Pow (Value.int _ _) (Value.int _ _)) _ _ _); (k_here; (with_reducible show wpAny _ _ (binaryOp Operator.Pow (Value.int 256 _) _) _ _ _); (with_reducible refine pow256_x ?k2 ?_); (case k2 => omega))) | ((with_reducible show wpAny _ _ (binaryOp Operator.Pow (Value.int _ _) (Value.int _ _)) _ _ _); (k_here; (with_reducible show wpAny _ _ (binaryOp Operator.Pow (Value.int 2 _) _) _ _ _); (with_reducible refine pow2_x ?k1 ?k2 ?_); (case k1 => omega); (case k2 => omega)))) | ((with_reducible show wpAny _ _ (call _ _) _ _ _); first | ((with_reducible show wpAny _ _ (call (Value.type "range") _) _ _ _); (k_here; k_dflt (refine' range1 ?k1 ?k2 ?_; (case k1 => k_asm); (case k2 => k_asm); k_whole); intro r' t1' t2' t3' h' tk' R' F' N')) | ((with_reducible show wpAny _ _ (call (Value.type "bytes") _) _ _ _); walk_at "M bytes") | ((with_reducible show wpAny _ _ (call (Value.type "list") _) _ _ _); (k_here; (with_reducible show wpAny _ _ (call (Value.type "list") [Value.bytes _ _]) _ _ _); k_dflt (refine' list_bytes_K ?k0 ?k1 ?k2 ?k3 ?_; (case k0 => exact rfl); (case k1 => k_asm); (case k2 => k_asm); (case k3 => assumption); k_whole); intro us' c' h' tk' D' F' N' l1' hi')) | ((k_here; (with_reducible show wpAny _ _ (call (Value.ref 244) [Value.ref _, Value.ref _, Value.ref _, Value.str _ _]) _ _ _); k_dflt (refine' lplace_okN ?kH ?hp ?p0 ?p1 ?p2 ?p3 ?p4 ?p5 ?p6 ?p7 ?p8 ?p9 ?p10 ?_; (case hp => assumption); (case kH => walk_at "M here"); (case p0 => assumption); (case p1 => assumption); (case p2 => assumption); (case p3 => assumption); (case p4 => assumption); (case p5 => assumption); (case p6 => assumption); (case p7 => assumption); (case p8 => assumption); (case p9 => assumption); (case p10 => assumption); k_whole); intro h' tk' F' N')) | ((k_here; (with_reducible show wpAny _ _ (call (Value.ref 244) [Value.ref _, Value.ref _, Value.ref _, Value.str _ _]) _ _ _); k_dflt (refine' lplace_okS ?kH ?hp ?p0 ?p1 ?p2 ?p3 ?p4 ?p5 ?p6 ?p7 ?p8 ?p9 ?p10 ?_; (case hp => assumption); (case kH => walk_at "M here"); (case p0 => assumption); (case p1 => assumption); (case p2 => assumption); (case p3 => assumption); (case p4 => assumption); (case p5 => assumption); (case p6 => assumption); (case p7 => assumption); (case p8 => assumption); (case p9 => assumption); (case p10 => assumption); k_whole); intro t' h' tk' F' N'))) | ((with_reducible show wpAny _ _ (subscriptTail _ _ _ _) _ _ _); first | ((k_here; (with_reducible show wpAny _ _ (subscriptTail _ _ (Value.ref _) (Value.str _ _)) _ _ _); k_dflt (refine' kda_item (knd := PySem.strKind _ _) ?k1 ?k2 ?k3 (strKind_is _ _ _ _) ?k5 ?_; (case k1 => k_asm); (case k2 => k_mem); (case k3 => assumption); (case k5 => assumption))))) | ((with_reducible show wpAny _ _ (compareOp _ _ _) _ _ _); first | ((with_reducible show wpAny _ _ (compareOp CmpOp.Eq (Value.str _ _) (Value.str _ _)) _ _ _); (refine eq_known ?k1 ?_; (case k1 => assumption)))) | ((with_reducible show wpAny _ _ (exec _ _) _ _ _); first | ((with_reducible show wpAny _ _ (exec (PySem.Stmt.For _ _ _ _ _) _) _ _ _); (k_here; (rename Fr _ _ _ _ => lF'); (with_unfolding_all refine' For_invVF lF' ?k1 ?k2 ?_; (case k1 => exact rfl); (case k2 => exact rfl); k_whole)))) | ((fail_if_success (with_reducible show wpAny _ _ (pyIter _) _ _ _)); walk1) | (dsimp only; (fail_if_success (with_reducible show wpAny _ _ (pyIter _) _ _ _)); walk1) | (leave1; walk_say "STEP leave1"; try dsimp only) | fail "no step"))
                  exact turn_end (news' := (O, _) :: ((((d, o) :: news) ++ own) ++ own2)) (by assumption) (by assumption) rfl (off_new off3) ⟨by with_unfolding_all rfl, by with_unfolding_all rfl, by with_unfolding_all rfl, by with_unfolding_all rfl, by with_unfolding_all rfl, by with_unfolding_all rfl, by with_unfolding_all rfl, by with_unfolding_all rfl, ⟨_, by with_unfolding_all rfl⟩, _, rfl, by rw [← putI_succ (by omega)]; assumption⟩
                case done3 =>
                  intro m₃ news₃ h3 tk3 hJ0' F3 N3
                  refine Classical.byContradiction fun hG => ?_
                  obtain ⟨n1, n2, n3, n4, n5, n6, n7, n8, ⟨tw, n9⟩, us3, rfl, hus3⟩ := hJ0'
                  refine hG ?_
                  clear hG
                  ((try ((show let Q' := _; let E' := _; wpAny _ _ _ Q' E' _); intro Q' E')); repeat' (first | (k_unfold; (try dsimp only)) | ((with_reducible show wpAny _ _ (setItem _ _ _) _ _ _); first | ((with_reducible show wpAny _ _ (setItem (Value.ref _) (Value.str _ _) _) _ _ _); (k_here; k_dflt (refine' kda_set (knd := PySem.strKind _ _) ?F ?N ?U ?d (strKind_is _ _ _ _) ?z ?_; (case F => k_asm); (case N => k_asm); (case U => exact UpdF.tail (by assumption) (UpdF.head (by assumption))); (case d => assumption); (case z => assumption)); intro h' o' F' N' hd')) | ((with_reducible show wpAny _ _ (setItem (Value.ref _) (Value.int _ _) (Value.int _ _)) _ _ _); (k_here; k_dflt (refine' set_at ?k1 ?k2 ?k3 ?k4 ?k5 ?k6 ?_; (case k1 => k_asm); (case k2 => k_asm); (case k3 => exact (Int.natCast_add _ _).symm); (case k4 => exact Upd.head (by assumption)); (case k5 => assumption); (case k6 => assumption); k_whole); intro h' F' N' hi'))) | ((with_reducible show wpAny _ _ (binaryOp _ _ _) _ _ _); first | ((with_reducible show wpAny _ _ (binaryOp Operator.Mod (Value.int _ _) (Value.int _ _)) _ _ _); (k_here; (with_reducible refine mod_256 ?_))) | ((with_reducible show wpAny _ _ (binaryOp Operator.FloorDiv (Value.int _ _) (Value.int _ _)) _ _ _); (k_here; (with_reducible refine fdiv_256 ?k1 ?_); (case k1 => omega))) | ((with_reducible show wpAny _ _ (binaryOp Operator.Pow (Value.int _ _) (Value.int _ _)) _ _ _); (k_here; (with_reducible show wpAny _ _ (binaryOp Operator.Pow (Value.int 256 _) _) _ _ _); (with_reducible refine pow256_x ?k2 ?_); (case k2 => omega))) | ((with_reducible show wpAny _ _ (binaryOp Operator.Pow (Value.int _ _) (Value.int _ _)) _ _ _); (k_here; (with_reducible show wpAny _ _ (binaryOp Operator.Pow (Value.int 2 _) _) _ _ _); (with_reducible refine pow2_x ?k1 ?k2 ?_); (case k1 => omega); (case k2 => omega)))) | ((with_reducible show wpAny _ _ (call _ _) _ _ _); first | ((with_reducible show wpAny _ _ (call (Value.type "range") _) _ _ _); (k_here; k_dflt (refine' range1 ?k1 ?k2 ?_; (case k1 => k_asm); (case k2 => k_asm); k_whole); intro r' t1' t2' t3' h' tk' R' F' N')) | ((with_reducible show wpAny _ _ (call (Value.type "bytes") _) _ _ _); walk_at "M bytes") | ((with_reducible show wpAny _ _ (call (Value.type "list") _) _ _ _); (k_here; (with_reducible show wpAny _ _ (call (Value.type "list") [Value.bytes _ _]) _ _ _); k_dflt (refine' list_bytes_K ?k0 ?k1 ?k2 ?k3 ?_; (case k0 => exact rfl); (case k1 => k_asm); (case k2 => k_asm); (case k3 => assumption); k_whole); intro us' c' h' tk' D' F' N' l1' hi')) | ((k_here; (with_reducible show wpAny _ _ (call (Value.ref 244) [Value.ref _, Value.ref _, Value.ref _, Value.str _ _]) _ _ _); k_dflt (refine' lplace_okN ?kH ?hp ?p0 ?p1 ?p2 ?p3 ?p4 ?p5 ?p6 ?p7 ?p8 ?p9 ?p10 ?_; (case hp => assumption); (case kH => walk_at "M here"); (case p0 => assumption); (case p1 => assumption); (case p2 => assumption); (case p3 => assumption); (case p4 => assumption); (case p5 => assumption); (case p6 => assumption); (case p7 => assumption); (case p8 => assumption); (case p9 => assumption); (case p10 => assumption); k_whole); intro h' tk' F' N')) | ((k_here; (with_reducible show wpAny _ _ (call (Value.ref 244) [Value.ref _, Value.ref _, Value.ref _, Value.str _ _]) _ _ _); k_dflt (refine' lplace_okS ?kH ?hp ?p0 ?p1 ?p2 ?p3 ?p4 ?p5 ?p6 ?p7 ?p8 ?p9 ?p10 ?_; (case hp => assumption); (case kH => walk_at "M here"); (case p0 => assumption); (case p1 => assumption); (case p2 => assumption); (case p3 => assumption); (case p4 => assumption); (case p5 => assumption); (case p6 => assumption); (case p7 => assumption); (case p8 => assumption); (case p9 => assumption); (case p10 => assumption); k_whole); intro t' h' tk' F' N'))) | ((with_reducible show wpAny _ _ (subscriptTail _ _ _ _) _ _ _); first | ((k_here; (with_reducible show wpAny _ _ (subscriptTail _ _ (Value.ref _) (Value.str _ _)) _ _ _); k_dflt (refine' kda_item (knd := PySem.strKind _ _) ?k1 ?k2 ?k3 (strKind_is _ _ _ _) ?k5 ?_; (case k1 => k_asm); (case k2 => k_mem); (case k3 => assumption); (case k5 => assumption))))) | ((with_reducible show wpAny _ _ (compareOp _ _ _) _ _ _); first | ((with_reducible show wpAny _ _ (compareOp CmpOp.Eq (Value.str _ _) (Value.str _ _)) _ _ _); (refine eq_known ?k1 ?_; (case k1 => assumption)))) | ((with_reducible show wpAny _ _ (exec _ _) _ _ _); first | ((with_reducible show wpAny _ _ (exec (PySem.Stmt.For _ _ _ _ _) _) _ _ _); (k_here; (rename Fr _ _ _ _ => lF'); (with_unfolding_all refine' For_invVF lF' ?k1 ?k2 ?_; (case k1 => exact rfl); (case k2 => exact rfl); k_whole)))) | ((fail_if_success (with_reducible show wpAny _ _ (pyIter _) _ _ _)); walk1) | (dsimp only; (fail_if_success (with_reducible show wpAny _ _ (pyIter _) _ _ _)); walk1) | (leave1; walk_say "STEP leave1"; try dsimp only) | fail "no step"))
                  exact turn_end (news' := (O, _) :: (((d, o) :: news) ++ own)) (by assumption) (by assumption) rfl (off_new off2) ⟨n1, n2, n3, n4, n5, n6, n7, us3, _, rfl, hus3, hgo, (putI_length wl2).trans hl2, putI_in hin2⟩
              all_goals
                refine turn_ret ?_
                dsimp only
                refine turn_ret ?_
                dsimp only
                ((try ((show let Q' := _; let E' := _; wpAny _ _ _ Q' E' _); intro Q' E')); repeat' (first | (k_unfold; (try dsimp only)) | ((with_reducible show wpAny _ _ (setItem _ _ _) _ _ _); first | ((with_reducible show wpAny _ _ (setItem (Value.ref _) (Value.str _ _) _) _ _ _); (k_here; k_dflt (refine' kda_set (knd := PySem.strKind _ _) ?F ?N ?U ?d (strKind_is _ _ _ _) ?z ?_; (case F => k_asm); (case N => k_asm); (case U => exact UpdF.tail (by assumption) (UpdF.head (by assumption))); (case d => assumption); (case z => assumption)); intro h' o' F' N' hd')) | ((with_reducible show wpAny _ _ (setItem (Value.ref _) (Value.int _ _) (Value.int _ _)) _ _ _); (k_here; k_dflt (refine' set_at ?k1 ?k2 ?k3 ?k4 ?k5 ?k6 ?_; (case k1 => k_asm); (case k2 => k_asm); (case k3 => exact (Int.natCast_add _ _).symm); (case k4 => exact Upd.head (by assumption)); (case k5 => assumption); (case k6 => assumption); k_whole); intro h' F' N' hi'))) | ((with_reducible show wpAny _ _ (binaryOp _ _ _) _ _ _); first | ((with_reducible show wpAny _ _ (binaryOp Operator.Mod (Value.int _ _) (Value.int _ _)) _ _ _); (k_here; (with_reducible refine mod_256 ?_))) | ((with_reducible show wpAny _ _ (binaryOp Operator.FloorDiv (Value.int _ _) (Value.int _ _)) _ _ _); (k_here; (with_reducible refine fdiv_256 ?k1 ?_); (case k1 => omega))) | ((with_reducible show wpAny _ _ (binaryOp Operator.Pow (Value.int _ _) (Value.int _ _)) _ _ _); (k_here; (with_reducible show wpAny _ _ (binaryOp Operator.Pow (Value.int 256 _) _) _ _ _); (with_reducible refine pow256_x ?k2 ?_); (case k2 => omega))) | ((with_reducible show wpAny _ _ (binaryOp Operator.Pow (Value.int _ _) (Value.int _ _)) _ _ _); (k_here; (with_reducible show wpAny _ _ (binaryOp Operator.Pow (Value.int 2 _) _) _ _ _); (with_reducible refine pow2_x ?k1 ?k2 ?_); (case k1 => omega); (case k2 => omega)))) | ((with_reducible show wpAny _ _ (call _ _) _ _ _); first | ((with_reducible show wpAny _ _ (call (Value.type "range") _) _ _ _); (k_here; k_dflt (refine' range1 ?k1 ?k2 ?_; (case k1 => k_asm); (case k2 => k_asm); k_whole); intro r' t1' t2' t3' h' tk' R' F' N')) | ((with_reducible show wpAny _ _ (call (Value.type "bytes") _) _ _ _); walk_at "M bytes") | ((with_reducible show wpAny _ _ (call (Value.type "list") _) _ _ _); (k_here; (with_reducible show wpAny _ _ (call (Value.type "list") [Value.bytes _ _]) _ _ _); k_dflt (refine' list_bytes_K ?k0 ?k1 ?k2 ?k3 ?_; (case k0 => exact rfl); (case k1 => k_asm); (case k2 => k_asm); (case k3 => assumption); k_whole); intro us' c' h' tk' D' F' N' l1' hi')) | ((k_here; (with_reducible show wpAny _ _ (call (Value.ref 244) [Value.ref _, Value.ref _, Value.ref _, Value.str _ _]) _ _ _); k_dflt (refine' lplace_okN ?kH ?hp ?p0 ?p1 ?p2 ?p3 ?p4 ?p5 ?p6 ?p7 ?p8 ?p9 ?p10 ?_; (case hp => assumption); (case kH => walk_at "M here"); (case p0 => assumption); (case p1 => assumption); (case p2 => assumption); (case p3 => assumption); (case p4 => assumption); (case p5 => assumption); (case p6 => assumption); (case p7 => assumption); (case p8 => assumption); (case p9 => assumption); (case p10 => assumption); k_whole); intro h' tk' F' N')) | ((k_here; (with_reducible show wpAny _ _ (call (Value.ref 244) [Value.ref _, Value.ref _, Value.ref _, Value.str _ _]) _ _ _); k_dflt (refine' lplace_okS ?kH ?hp ?p0 ?p1 ?p2 ?p3 ?p4 ?p5 ?p6 ?p7 ?p8 ?p9 ?p10 ?_; (case hp => assumption); (case kH => walk_at "M here"); (case p0 => assumption); (case p1 => assumption); (case p2 => assumption); (case p3 => assumption); (case p4 => assumption); (case p5 => assumption); (case p6 => assumption); (case p7 => assumption); (case p8 => assumption); (case p9 => assumption); (case p10 => assumption); k_whole); intro t' h' tk' F' N'))) | ((with_reducible show wpAny _ _ (subscriptTail _ _ _ _) _ _ _); first | ((k_here; (with_reducible show wpAny _ _ (subscriptTail _ _ (Value.ref _) (Value.str _ _)) _ _ _); k_dflt (refine' kda_item (knd := PySem.strKind _ _) ?k1 ?k2 ?k3 (strKind_is _ _ _ _) ?k5 ?_; (case k1 => k_asm); (case k2 => k_mem); (case k3 => assumption); (case k5 => assumption))))) | ((with_reducible show wpAny _ _ (compareOp _ _ _) _ _ _); first | ((with_reducible show wpAny _ _ (compareOp CmpOp.Eq (Value.str _ _) (Value.str _ _)) _ _ _); (refine eq_known ?k1 ?_; (case k1 => assumption)))) | ((with_reducible show wpAny _ _ (exec _ _) _ _ _); first | ((with_reducible show wpAny _ _ (exec (PySem.Stmt.For _ _ _ _ _) _) _ _ _); (k_here; (rename Fr _ _ _ _ => lF'); (with_unfolding_all refine' For_invVF lF' ?k1 ?k2 ?_; (case k1 => exact rfl); (case k2 => exact rfl); k_whole)))) | ((fail_if_success (with_reducible show wpAny _ _ (pyIter _) _ _ _)); walk1) | (dsimp only; (fail_if_success (with_reducible show wpAny _ _ (pyIter _) _ _ _)); walk1) | (leave1; walk_say "STEP leave1"; try dsimp only) | fail "no step"))
                exact exc _ (hlf.trans (loadF_err hi2 (hsec.trans (secF_reach hr2 hsc hwp (by first | exact nof3 (by assumption) | exact nof2 habsB (by assumption)))))) _ _ _ (by assumption) (cb_drop (news_tail (by assumption)) up2)
      · have hscB : (r.sect == k) = false := beq_false_of_ne hsc
        have skip := hsec.trans (secF_skip hr2 hsc)
        ((try ((show let Q' := _; let E' := _; wpAny _ _ _ Q' E' _); intro Q' E')); repeat' (first | (k_unfold; (try dsimp only)) | ((with_reducible show wpAny _ _ (setItem _ _ _) _ _ _); first | ((with_reducible show wpAny _ _ (setItem (Value.ref _) (Value.str _ _) _) _ _ _); (k_here; k_dflt (refine' kda_set (knd := PySem.strKind _ _) ?F ?N ?U ?d (strKind_is _ _ _ _) ?z ?_; (case F => k_asm); (case N => k_asm); (case U => exact UpdF.tail (by assumption) (UpdF.head (by assumption))); (case d => assumption); (case z => assumption)); intro h' o' F' N' hd')) | ((with_reducible show wpAny _ _ (setItem (Value.ref _) (Value.int _ _) (Value.int _ _)) _ _ _); (k_here; k_dflt (refine' set_at ?k1 ?k2 ?k3 ?k4 ?k5 ?k6 ?_; (case k1 => k_asm); (case k2 => k_asm); (case k3 => exact (Int.natCast_add _ _).symm); (case k4 => exact Upd.head (by assumption)); (case k5 => assumption); (case k6 => assumption); k_whole); intro h' F' N' hi'))) | ((with_reducible show wpAny _ _ (binaryOp _ _ _) _ _ _); first | ((with_reducible show wpAny _ _ (binaryOp Operator.Mod (Value.int _ _) (Value.int _ _)) _ _ _); (k_here; (with_reducible refine mod_256 ?_))) | ((with_reducible show wpAny _ _ (binaryOp Operator.FloorDiv (Value.int _ _) (Value.int _ _)) _ _ _); (k_here; (with_reducible refine fdiv_256 ?k1 ?_); (case k1 => omega))) | ((with_reducible show wpAny _ _ (binaryOp Operator.Pow (Value.int _ _) (Value.int _ _)) _ _ _); (k_here; (with_reducible show wpAny _ _ (binaryOp Operator.Pow (Value.int 256 _) _) _ _ _); (with_reducible refine pow256_x ?k2 ?_); (case k2 => omega))) | ((with_reducible show wpAny _ _ (binaryOp Operator.Pow (Value.int _ _) (Value.int _ _)) _ _ _); (k_here; (with_reducible show wpAny _ _ (binaryOp Operator.Pow (Value.int 2 _) _) _ _ _); (with_reducible refine pow2_x ?k1 ?k2 ?_); (case k1 => omega); (case k2 => omega)))) | ((with_reducible show wpAny _ _ (call _ _) _ _ _); first | ((with_reducible show wpAny _ _ (call (Value.type "range") _) _ _ _); (k_here; k_dflt (refine' range1 ?k1 ?k2 ?_; (case k1 => k_asm); (case k2 => k_asm); k_whole); intro r' t1' t2' t3' h' tk' R' F' N')) | ((with_reducible show wpAny _ _ (call (Value.type "bytes") _) _ _ _); walk_at "M bytes") | ((with_reducible show wpAny _ _ (call (Value.type "list") _) _ _ _); (k_here; (with_reducible show wpAny _ _ (call (Value.type "list") [Value.bytes _ _]) _ _ _); k_dflt (refine' list_bytes_K ?k0 ?k1 ?k2 ?k3 ?_; (case k0 => exact rfl); (case k1 => k_asm); (case k2 => k_asm); (case k3 => assumption); k_whole); intro us' c' h' tk' D' F' N' l1' hi')) | ((k_here; (with_reducible show wpAny _ _ (call (Value.ref 244) [Value.ref _, Value.ref _, Value.ref _, Value.str _ _]) _ _ _); k_dflt (refine' lplace_okN ?kH ?hp ?p0 ?p1 ?p2 ?p3 ?p4 ?p5 ?p6 ?p7 ?p8 ?p9 ?p10 ?_; (case hp => assumption); (case kH => walk_at "M here"); (case p0 => assumption); (case p1 => assumption); (case p2 => assumption); (case p3 => assumption); (case p4 => assumption); (case p5 => assumption); (case p6 => assumption); (case p7 => assumption); (case p8 => assumption); (case p9 => assumption); (case p10 => assumption); k_whole); intro h' tk' F' N')) | ((k_here; (with_reducible show wpAny _ _ (call (Value.ref 244) [Value.ref _, Value.ref _, Value.ref _, Value.str _ _]) _ _ _); k_dflt (refine' lplace_okS ?kH ?hp ?p0 ?p1 ?p2 ?p3 ?p4 ?p5 ?p6 ?p7 ?p8 ?p9 ?p10 ?_; (case hp => assumption); (case kH => walk_at "M here"); (case p0 => assumption); (case p1 => assumption); (case p2 => assumption); (case p3 => assumption); (case p4 => assumption); (case p5 => assumption); (case p6 => assumption); (case p7 => assumption); (case p8 => assumption); (case p9 => assumption); (case p10 => assumption); k_whole); intro t' h' tk' F' N'))) | ((with_reducible show wpAny _ _ (subscriptTail _ _ _ _) _ _ _); first | ((k_here; (with_reducible show wpAny _ _ (subscriptTail _ _ (Value.ref _) (Value.str _ _)) _ _ _); k_dflt (refine' kda_item (knd := PySem.strKind _ _) ?k1 ?k2 ?k3 (strKind_is _ _ _ _) ?k5 ?_; (case k1 => k_asm); (case k2 => k_mem); (case k3 => assumption); (case k5 => assumption))))) | ((with_reducible show wpAny _ _ (compareOp _ _ _) _ _ _); first | ((with_reducible show wpAny _ _ (compareOp CmpOp.Eq (Value.str _ _) (Value.str _ _)) _ _ _); (refine eq_known ?k1 ?_; (case k1 => assumption)))) | ((with_reducible show wpAny _ _ (exec _ _) _ _ _); first | ((with_reducible show wpAny _ _ (exec (PySem.Stmt.For _ _ _ _ _) _) _ _ _); (k_here; (rename Fr _ _ _ _ => lF'); (with_unfolding_all refine' For_invVF lF' ?k1 ?k2 ?_; (case k1 => exact rfl); (case k2 => exact rfl); k_whole)))) | ((fail_if_success (with_reducible show wpAny _ _ (pyIter _) _ _ _)); walk1) | (dsimp only; (fail_if_success (with_reducible show wpAny _ _ (pyIter _) _ _ _)); walk1) | (leave1; walk_say "STEP leave1"; try dsimp only) | fail "no step"))
        exact turn_end (news' := (O, _) :: (((d, o) :: news) ++ own)) (by assumption) (by assumption) rfl off2 ⟨by with_unfolding_all rfl, by with_unfolding_all rfl, by with_unfolding_all rfl, by with_unfolding_all rfl, by with_unfolding_all rfl, by with_unfolding_all rfl, by with_unfolding_all rfl, _, _, rfl, hus, skip, hl2, hin2⟩
    case done2 =>
      intro m₂ news₂ h2 tk2 hJ0' F2 N2
      refine Classical.byContradiction fun hG => ?_
      obtain ⟨n1, n2, n3, n4, n5, n6, n7, us, ks, rfl, hus, hsec, hl2, hin2⟩ := hJ0'
      refine hG ?_
      clear hG
      rw [List.size_toArray, hr.length, List.drop_length] at hsec
      replace F2 := pins F2 (.cons n1 (.cons n2 (.cons n3 (.cons n4 (.cons n5 (.cons n6 (.cons n7 .nil)))))))
      have hz : ks.length ≤ 16777216 := by omega
      have hOd : O ≠ d := Ne.symm hdO
      have hknew : k ∉ acc.map (·.1) := by rw [hkeys]; exact nodup_take (f := fun p : Str × List Int => p.1) hnd hi2
      have hsz : kf.length ≤ sizeLine := by
        rw [hacc.length, ← List.length_map (f := (·.1)), hkeys, List.length_map, List.length_take, ← hkS.length]
        exact Nat.le_trans (Nat.min_le_right _ _) hkz
      ((try ((show let Q' := _; let E' := _; wpAny _ _ _ Q' E' _); intro Q' E')); repeat' (first | (k_unfold; (try dsimp only)) | ((with_reducible show wpAny _ _ (setItem _ _ _) _ _ _); first | ((with_reducible show wpAny _ _ (setItem (Value.ref _) (Value.str _ _) _) _ _ _); (k_here; k_dflt (refine' kda_set (knd := PySem.strKind _ _) ?F ?N ?U ?d (strKind_is _ _ _ _) ?z ?_; (case F => k_asm); (case N => k_asm); (case U => exact UpdF.tail (by assumption) (UpdF.head (by assumption))); (case d => assumption); (case z => assumption)); intro h' o' F' N' hd')) | ((with_reducible show wpAny _ _ (setItem (Value.ref _) (Value.int _ _) (Value.int _ _)) _ _ _); (k_here; k_dflt (refine' set_at ?k1 ?k2 ?k3 ?k4 ?k5 ?k6 ?_; (case k1 => k_asm); (case k2 => k_asm); (case k3 => exact (Int.natCast_add _ _).symm); (case k4 => exact Upd.head (by assumption)); (case k5 => assumption); (case k6 => assumption); k_whole); intro h' F' N' hi'))) | ((with_reducible show wpAny _ _ (binaryOp _ _ _) _ _ _); first | ((with_reducible show wpAny _ _ (binaryOp Operator.Mod (Value.int _ _) (Value.int _ _)) _ _ _); (k_here; (with_reducible refine mod_256 ?_))) | ((with_reducible show wpAny _ _ (binaryOp Operator.FloorDiv (Value.int _ _) (Value.int _ _)) _ _ _); (k_here; (with_reducible refine fdiv_256 ?k1 ?_); (case k1 => omega))) | ((with_reducible show wpAny _ _ (binaryOp Operator.Pow (Value.int _ _) (Value.int _ _)) _ _ _); (k_here; (with_reducible show wpAny _ _ (binaryOp Operator.Pow (Value.int 256 _) _) _ _ _); (with_reducible refine pow256_x ?k2 ?_); (case k2 => omega))) | ((with_reducible show wpAny _ _ (binaryOp Operator.Pow (Value.int _ _) (Value.int _ _)) _ _ _); (k_here; (with_reducible show wpAny _ _ (binaryOp Operator.Pow (Value.int 2 _) _) _ _ _); (with_reducible refine pow2_x ?k1 ?k2 ?_); (case k1 => omega); (case k2 => omega)))) | ((with_reducible show wpAny _ _ (call _ _) _ _ _); first | ((with_reducible show wpAny _ _ (call (Value.type "range") _) _ _ _); (k_here; k_dflt (refine' range1 ?k1 ?k2 ?_; (case k1 => k_asm); (case k2 => k_asm); k_whole); intro r' t1' t2' t3' h' tk' R' F' N')) | ((with_reducible show wpAny _ _ (call (Value.type "bytes") _) _ _ _); walk_at "M bytes") | ((with_reducible show wpAny _ _ (call (Value.type "list") _) _ _ _); (k_here; (with_reducible show wpAny _ _ (call (Value.type "list") [Value.bytes _ _]) _ _ _); k_dflt (refine' list_bytes_K ?k0 ?k1 ?k2 ?k3 ?_; (case k0 => exact rfl); (case k1 => k_asm); (case k2 => k_asm); (case k3 => assumption); k_whole); intro us' c' h' tk' D' F' N' l1' hi')) | ((k_here; (with_reducible show wpAny _ _ (call (Value.ref 244) [Value.ref _, Value.ref _, Value.ref _, Value.str _ _]) _ _ _); k_dflt (refine' lplace_okN ?kH ?hp ?p0 ?p1 ?p2 ?p3 ?p4 ?p5 ?p6 ?p7 ?p8 ?p9 ?p10 ?_; (case hp => assumption); (case kH => walk_at "M here"); (case p0 => assumption); (case p1 => assumption); (case p2 => assumption); (case p3 => assumption); (case p4 => assumption); (case p5 => assumption); (case p6 => assumption); (case p7 => assumption); (case p8 => assumption); (case p9 => assumption); (case p10 => assumption); k_whole); intro h' tk' F' N')) | ((k_here; (with_reducible show wpAny _ _ (call (Value.ref 244) [Value.ref _, Value.ref _, Value.ref _, Value.str _ _]) _ _ _); k_dflt (refine' lplace_okS ?kH ?hp ?p0 ?p1 ?p2 ?p3 ?p4 ?p5 ?p6 ?p7 ?p8 ?p9 ?p10 ?_; (case hp => assumption); (case kH => walk_at "M here"); (case p0 => assumption); (case p1 => assumption); (case p2 => assumption); (case p3 => assumption); (case p4 => assumption); (case p5 => assumption); (case p6 => assumption); (case p7 => assumption); (case p8 => assumption); (case p9 => assumption); (case p10 => assumption); k_whole); intro t' h' tk' F' N'))) | ((with_reducible show wpAny _ _ (subscriptTail _ _ _ _) _ _ _); first | ((k_here; (with_reducible show wpAny _ _ (subscriptTail _ _ (Value.ref _) (Value.str _ _)) _ _ _); k_dflt (refine' kda_item (knd := PySem.strKind _ _) ?k1 ?k2 ?k3 (strKind_is _ _ _ _) ?k5 ?_; (case k1 => k_asm); (case k2 => k_mem); (case k3 => assumption); (case k5 => assumption))))) | ((with_reducible show wpAny _ _ (compareOp _ _ _) _ _ _); first | ((with_reducible show wpAny _ _ (compareOp CmpOp.Eq (Value.str _ _) (Value.str _ _)) _ _ _); (refine eq_known ?k1 ?_; (case k1 => assumption)))) | ((with_reducible show wpAny _ _ (exec _ _) _ _ _); first | ((with_reducible show wpAny _ _ (exec (PySem.Stmt.For _ _ _ _ _) _) _ _ _); (k_here; (rename Fr _ _ _ _ => lF'); (with_unfolding_all refine' For_invVF lF' ?k1 ?k2 ?_; (case k1 => exact rfl); (case k2 => exact rfl); k_whole)))) | ((fail_if_success (with_reducible show wpAny _ _ (pyIter _) _ _ _)); walk1) | (dsimp only; (fail_if_success (with_reducible show wpAny _ _ (pyIter _) _ _ _)); walk1) | (leave1; walk_say "STEP leave1"; try dsimp only) | fail "no step"))
      rename (Obj.IsDictOf _ _ (stored kf k _)) => hod2
      rw [stored_new hacc hknew] at hod2
      exact turn_end (news' := (d, _) :: news) (by assumption) (cb_drop (by assumption) fun p hp => .tail _ hp) rfl (off_new off) ⟨by with_unfolding_all rfl, by with_unfolding_all rfl, by with_unfolding_all rfl, by with_unfolding_all rfl, by with_unfolding_all rfl, _, _, _, rfl, hod2, hacc.snoc ⟨rfl, _, _, rfl, KBa.ints_make hin2⟩, hlf.trans (loadF_go hi2 hsec), take_keys hkeys hi2⟩
  case done =>
    intro m₁ news₁ h tk hJ0' F1 N1
    refine Classical.byContradiction fun hG => ?_
    obtain ⟨n1, n2, n3, n4, n5, o, kf, acc, rfl, hod, hacc, hlf, hkeys⟩ := hJ0'
    refine hG ?_
    clear hG
    rw [hkS.length, List.drop_length] at hlf
    replace F1 := pins F1 (.cons n5 .nil)
    ((try ((show let Q' := _; let E' := _; wpAny _ _ _ Q' E' _); intro Q' E')); repeat' (first | (k_unfold; (try dsimp only)) | ((with_reducible show wpAny _ _ (setItem _ _ _) _ _ _); first | ((with_reducible show wpAny _ _ (setItem (Value.ref _) (Value.str _ _) _) _ _ _); (k_here; k_dflt (refine' kda_set (knd := PySem.strKind _ _) ?F ?N ?U ?d (strKind_is _ _ _ _) ?z ?_; (case F => k_asm); (case N => k_asm); (case U => exact UpdF.tail (by assumption) (UpdF.head (by assumption))); (case d => assumption); (case z => assumption)); intro h' o' F' N' hd')) | ((with_reducible show wpAny _ _ (setItem (Value.ref _) (Value.int _ _) (Value.int _ _)) _ _ _); (k_here; k_dflt (refine' set_at ?k1 ?k2 ?k3 ?k4 ?k5 ?k6 ?_; (case k1 => k_asm); (case k2 => k_asm); (case k3 => exact (Int.natCast_add _ _).symm); (case k4 => exact Upd.head (by assumption)); (case k5 => assumption); (case k6 => assumption); k_whole); intro h' F' N' hi'))) | ((with_reducible show wpAny _ _ (binaryOp _ _ _) _ _ _); first | ((with_reducible show wpAny _ _ (binaryOp Operator.Mod (Value.int _ _) (Value.int _ _)) _ _ _); (k_here; (with_reducible refine mod_256 ?_))) | ((with_reducible show wpAny _ _ (binaryOp Operator.FloorDiv (Value.int _ _) (Value.int _ _)) _ _ _); (k_here; (with_reducible refine fdiv_256 ?k1 ?_); (case k1 => omega))) | ((with_reducible show wpAny _ _ (binaryOp Operator.Pow (Value.int _ _) (Value.int _ _)) _ _ _); (k_here; (with_reducible show wpAny _ _ (binaryOp Operator.Pow (Value.int 256 _) _) _ _ _); (with_reducible refine pow256_x ?k2 ?_); (case k2 => omega))) | ((with_reducible show wpAny _ _ (binaryOp Operator.Pow (Value.int _ _) (Value.int _ _)) _ _ _); (k_here; (with_reducible show wpAny _ _ (binaryOp Operator.Pow (Value.int 2 _) _) _ _ _); (with_reducible refine pow2_x ?k1 ?k2 ?_); (case k1 => omega); (case k2 => omega)))) | ((with_reducible show wpAny _ _ (call _ _) _ _ _); first | ((with_reducible show wpAny _ _ (call (Value.type "range") _) _ _ _); (k_here; k_dflt (refine' range1 ?k1 ?k2 ?_; (case k1 => k_asm); (case k2 => k_asm); k_whole); intro r' t1' t2' t3' h' tk' R' F' N')) | ((with_reducible show wpAny _ _ (call (Value.type "bytes") _) _ _ _); walk_at "M bytes") | ((with_reducible show wpAny _ _ (call (Value.type "list") _) _ _ _); (k_here; (with_reducible show wpAny _ _ (call (Value.type "list") [Value.bytes _ _]) _ _ _); k_dflt (refine' list_bytes_K ?k0 ?k1 ?k2 ?k3 ?_; (case k0 => exact rfl); (case k1 => k_asm); (case k2 => k_asm); (case k3 => assumption); k_whole); intro us' c' h' tk' D' F' N' l1' hi')) | ((k_here; (with_reducible show wpAny _ _ (call (Value.ref 244) [Value.ref _, Value.ref _, Value.ref _, Value.str _ _]) _ _ _); k_dflt (refine' lplace_okN ?kH ?hp ?p0 ?p1 ?p2 ?p3 ?p4 ?p5 ?p6 ?p7 ?p8 ?p9 ?p10 ?_; (case hp => assumption); (case kH => walk_at "M here"); (case p0 => assumption); (case p1 => assumption); (case p2 => assumption); (case p3 => assumption); (case p4 => assumption); (case p5 => assumption); (case p6 => assumption); (case p7 => assumption); (case p8 => assumption); (case p9 => assumption); (case p10 => assumption); k_whole); intro h' tk' F' N')) | ((k_here; (with_reducible show wpAny _ _ (call (Value.ref 244) [Value.ref _, Value.ref _, Value.ref _, Value.str _ _]) _ _ _); k_dflt (refine' lplace_okS ?kH ?hp ?p0 ?p1 ?p2 ?p3 ?p4 ?p5 ?p6 ?p7 ?p8 ?p9 ?p10 ?_; (case hp => assumption); (case kH => walk_at "M here"); (case p0 => assumption); (case p1 => assumption); (case p2 => assumption); (case p3 => assumption); (case p4 => assumption); (case p5 => assumption); (case p6 => assumption); (case p7 => assumption); (case p8 => assumption); (case p9 => assumption); (case p10 => assumption); k_whole); intro t' h' tk' F' N'))) | ((with_reducible show wpAny _ _ (subscriptTail _ _ _ _) _ _ _); first | ((k_here; (with_reducible show wpAny _ _ (subscriptTail _ _ (Value.ref _) (Value.str _ _)) _ _ _); k_dflt (refine' kda_item (knd := PySem.strKind _ _) ?k1 ?k2 ?k3 (strKind_is _ _ _ _) ?k5 ?_; (case k1 => k_asm); (case k2 => k_mem); (case k3 => assumption); (case k5 => assumption))))) | ((with_reducible show wpAny _ _ (compareOp _ _ _) _ _ _); first | ((with_reducible show wpAny _ _ (compareOp CmpOp.Eq (Value.str _ _) (Value.str _ _)) _ _ _); (refine eq_known ?k1 ?_; (case k1 => assumption)))) | ((with_reducible show wpAny _ _ (exec _ _) _ _ _); first | ((with_reducible show wpAny _ _ (exec (PySem.Stmt.For _ _ _ _ _) _) _ _ _); (k_here; (rename Fr _ _ _ _ => lF'); (with_unfolding_all refine' For_invVF lF' ?k1 ?k2 ?_; (case k1 => exact rfl); (case k2 => exact rfl); k_whole)))) | ((fail_if_success (with_reducible show wpAny _ _ (pyIter _) _ _ _)); walk1) | (dsimp only; (fail_if_success (with_reducible show wpAny _ _ (pyIter _) _ _ _)); walk1) | (leave1; walk_say "STEP leave1"; try dsimp only) | fail "no step"))
    refine ret _ hlf _ _ _ _ _ (by assumption) (by assumption) (lt_ne hlt) hlo hod hacc))
end

end
/-! part Worth2 -/
section
theorem atWorth2 : True := by
  w_top off
  exact trivial
theorem worth_u {w : World} {A : Around} {base h₀ : Heap} {l : List Env} {L : Addr} {m : Str → Option Value} {s : Shared} {Q E : Value → Shared → Prop} {news : List (Addr × Obj)} {news' : Tok → List (Addr × Obj)} {pen cells : Addr} {pn cap : Nat} {vs : List Value} {ns : List Int} {t : Tok} {at' : Int} {width : Int} {tm : Tok}
    (H : Here 4 w A base l h₀ L m s.heap news)
    (U : ∀ t1, Upd pen (PySem.W.listOf #[.ref cells, .int at' t] pn) (PySem.W.listOf #[.ref cells, .int (at' + 1 + 1) t1] pn) news (news' t1)) (hc : (cells, PySem.W.listOf vs.toArray cap) ∈ news) (hi : IntsAre vs ns) (hl : ns.length ≤ 50)
    (ha : 0 ≤ at') (hb : at' < 2 ^ 20 - 1) (hw1 : 0 < width) (hw2 : width ≤ 8)
    (ret : ∀ (v : Int) t1 t2 h' tk', Fr h₀ L h' m → News h₀ L h' (news' t1) → Q (.int v t2) { s with heap := h', toks := tk' }) :
    wpAny (model PySem.Challenge.pw_nn0048_01 w) A (call (.ref 232) [.ref pen, .int width tm]) Q E s := out_of (by exact trivial : Hold (by
  obtain ⟨pre, post, rfl, -, h1, h2⟩ := (U t).split
  obtain ⟨e, el, B, F, X, N, T, hk, hd, hu⟩ := H
  have hne : cells ≠ pen := by
    intro q
    subst q
    have e1 := (N _ hc).1
    have e2 := (N (cells, _) (List.mem_append_right pre (List.Mem.head post))).1
    rw [e1] at e2
    have e3 := congrArg Obj.data (Option.some.inj e2)
    have e4 : vs = [.ref cells, .int at' t] := by
      have e5 := (Data.seq.inj e3).1
      have := congrArg Array.toList e5; simpa using this
    subst e4
    nomatch hi
  refine worth_ok (cells := cells) (cap := cap) (vs := vs) (pn := pn) (t := t) (at' := at') (rest := pre ++ post) (.mk e el B F X (fun p hp => N p ?_) T hk hd hu) (fun p hp => (List.mem_append.mp hp).elim (h1 p) (h2 p)) ?_ hi hl ha hb hw1 hw2
    fun v t1 t2 h' tk' a1 a2 F' N' => ret v t1 t2 h' tk' F' fun p hp => N' p ?_
  · rcases List.mem_cons.mp hp with rfl | hp
    · exact List.mem_append_right _ (.head _)
    · exact (List.mem_append.mp hp).elim (fun x => List.mem_append_left _ x) fun x => List.mem_append_right _ (.tail _ x)
  · rcases List.mem_append.mp hc with hc | hc
    · exact List.mem_append_left _ hc
    · rcases List.mem_cons.mp hc with hc | hc
      · exact absurd (congrArg Prod.fst hc) hne
      · exact List.mem_append_right _ hc
  · rcases upd_mem (U t1) p hp with rfl | ⟨q, r⟩
    · exact .head _
    · refine .tail _ ?_
      rcases List.mem_append.mp q with q | q
      · exact List.mem_append_left _ q
      · rcases List.mem_cons.mp q with q | q
        · exact absurd (congrArg Prod.fst q) r
        · exact List.mem_append_right _ q))
section
variable {prog : Program} {w : World} {A : Around} {E : Value → Shared → Prop} {s : Shared} {h₀ : Heap} {L D : Addr} {m : Str → Option Value} {news : List (Addr × Obj)} {Q : Value → Shared → Prop} {t u : Tok} {value slice : PySem.Expr}
theorem widths_item {b : Int} {i1 i2 i3 i4 : Tok} {c : Nat} (N : News h₀ L s.heap news) (hm : (D, PySem.W.listOf #[.int 1 i1, .int 2 i2, .int 4 i3, .int 8 i4] c) ∈ news) (h0 : 0 ≤ b) (h1 : b < 4) (h : ∀ (wd : Nat) t, 1 ≤ wd → wd ≤ 8 → Q (.int wd t) s)
    (hs : subscripted slice false (.ref D) (.int b u) = operate [.ref D, .int b u] (getItem (.ref D) (.int b u)) := by with_unfolding_all rfl) :
    wpAny (model prog w) A (subscriptTail value slice (.ref D) (.int b u)) Q E s := out_of (by exact trivial : Hold (by
  obtain ⟨n, rfl⟩ : ∃ n : Nat, b = n := ⟨b.toNat, by omega⟩
  refine tail_any (News.isList N hm).typeIs slot_list_getitem.lookup ?_ hs
  have hn : n < 4 := by omega
  rcases n with _ | _ | _ | _ | n
  · exact wpAny_getItem_list (News.isList N hm) h0 (by omega) rfl (h 1 _ (by decide) (by decide))
  · exact wpAny_getItem_list (News.isList N hm) h0 (by omega) rfl (h 2 _ (by decide) (by decide))
  · exact wpAny_getItem_list (News.isList N hm) h0 (by omega) rfl (h 4 _ (by decide) (by decide))
  · exact wpAny_getItem_list (News.isList N hm) h0 (by omega) rfl (h 8 _ (by decide) (by decide))
  · omega))
def EndsOk (kE : List (Str × Value)) : Prop := ∀ kv ∈ kE, ∃ (e : Nat) (t : Tok), kv.2 = .int e t ∧ e ≤ 1000
theorem ends_get {d : Addr} {o : Obj} {kE : List (Str × Value)} {k : Str} {tk td : Tok} (N : News h₀ L s.heap news) (hp : (d, o) ∈ news) (hd : o.IsDictOf (PySem.strKind prog w) kE) (lo : (d == sysModules) = false) (hE : EndsOk kE)
    (h : ∀ (e : Nat) t, e ≤ 1000 → Q (.int e t) { s with toks := s.toks + 1 }) : wpAny (model prog w) A (call (.builtin "dict.get") [.ref d, .str k tk, .int 0 td]) Q E s := out_of (by exact trivial : Hold (by
  refine kdg_get2 (knd := PySem.strKind _ _) N hp hd lo (strKind_is _ _ _ _) _ rfl ?_
  unfold valueAt
  cases q : kE.find? fun kv => kv.1 = k with
  | none => exact h 0 td (by decide)
  | some kv =>
    obtain ⟨e, t, e1, e2⟩ := hE kv (List.mem_of_find?_eq_some q)
    show Q kv.2 _
    rw [e1]; exact h e t e2))
theorem ends_set {kE : List (Str × Value)} {k : Str} {v : Int} {t : Tok} (hE : EndsOk kE) (h0 : 0 ≤ v) (h1 : v ≤ 1000) : EndsOk (stored kE k (.int v t)) := out_of (by exact trivial : Hold (by
  obtain ⟨n, rfl⟩ : ∃ n : Nat, v = n := ⟨v.toNat, by omega⟩
  intro kv hkv
  unfold stored at hkv
  split at hkv
  · obtain ⟨kv', h', rfl⟩ := List.mem_map.mp hkv
    split
    · exact ⟨n, t, rfl, by omega⟩
    · exact hE _ h'
  · rcases List.mem_append.mp hkv with h' | h'
    · exact hE _ h'
    · rw [List.mem_singleton.mp h']; exact ⟨n, t, rfl, by omega⟩))
theorem sects_item {d : Addr} {o : Obj} {kS : List (Str × Value)} {secs : List (Str × List Int)} {k : Str} {tk : Tok} (N : News h₀ L s.heap news) (hp : (d, o) ∈ news) (hd : o.IsDictOf (PySem.strKind prog w) kS) (hS : All2 KvAt kS secs) (hn : (secs.map (·.1)).Nodup) (hk : k ∈ secs.map (·.1)) (hL : ∀ p ∈ secs, p.2.length ≤ 30)
    (h : ∀ b t, (k, KBw.bInts b) ∈ secs → (KBw.bInts b).length ≤ 30 → Q (.bytes b t) { s with toks := s.toks + 1 })
    (hs : ∀ {A : Around} {E : Value → Shared → Prop} {v : Value} {Q : Value → Shared → Prop}, valueAt kS k = some v → Q v { s with toks := s.toks + 1 } → wpAny (model prog w) A (subscriptTail value slice (.ref d) (.str k tk)) Q E s) :
    wpAny (model prog w) A (subscriptTail value slice (.ref d) (.str k tk)) Q E s := by
  obtain ⟨p, hp', rfl⟩ := List.mem_map.mp hk
  obtain ⟨i, hi⟩ := List.getElem?_of_mem hp'
  have hlt := (List.getElem?_eq_some_iff.mp hi).1
  obtain ⟨kv, hkv⟩ : ∃ kv, kS[i]? = some kv := ⟨_, List.getElem?_eq_getElem (by rw [hS.length]; exact hlt)⟩
  obtain ⟨p', hp2, r1, b, t, r2, r3⟩ := hS.get hkv
  rw [hi] at hp2
  cases hp2
  have hv : valueAt kS p.1 = some (.bytes b t) := kv_get hS hn (by rw [hkv]; exact congrArg some (Prod.ext r1 r2))
  refine hs hv (h b t ?_ ?_)
  · rw [r3]; exact hp'
  · rw [r3]; exact hL _ hp'
end
def StrV (v : Value) (n : Str) : Prop := ∃ t, v = .str n t

end
/-! part Told -/
section
theorem atTold : True := by
  w_top off
  exact trivial
section
set_option maxHeartbeats 8000000 in
theorem symtold_ok {w : World} {A : Around} {base h₀ : Heap} {l : List Env} {L : Addr} {m : Str → Option Value} {s : Shared} {Q E : Value → Shared → Prop} {news : List (Addr × Obj)} {x dx : Addr} {t1 t2 t3 t4 u1 u2 u3 : Tok} {y : Sym}
    (H : Here 3 w A base l h₀ L m s.heap news) (hx : (x, instObj 125 dx) ∈ news) (hdx : (dx, symDict w t1 t2 t3 t4 (.str y.name u1) (.str y.sect u2) (.int y.worth u3) (.bool false)) ∈ news)
    (ret : ∀ h' tk' T, Fr h₀ L h' m → News h₀ L h' ((T, { cls := .type "tuple", data := .seq #[.str y.name u1, .str y.sect u2, .int y.worth u3, .bool false] }) :: news) → (∀ p ∈ news, p.1 < T) → Q (.ref T) { s with heap := h', toks := tk' }) :
    wpAny (model PySem.Challenge.pw_nn0048_01 w) A (call (.ref 122) [.ref x]) Q E s := out_of (by exact trivial : Hold (by
  obtain ⟨e, el, B, F, X, N, T, hk, hd, hu⟩ := H
  subst e el
  refine wpAny_call ?_
  k_dflt ktr_enter
  walk_at "M steps"
  exact ret _ _ _ (by assumption) (by assumption) (by assumption)))
set_option maxHeartbeats 8000000 in
theorem reltold_ok {w : World} {A : Around} {base h₀ : Heap} {l : List Env} {L : Addr} {m : Str → Option Value} {s : Shared} {Q E : Value → Shared → Prop} {news : List (Addr × Obj)} {x dx : Addr} {t1 t2 t3 t4 t5 t6 u1 u2 u3 u4 u5 u6 : Tok} {y : Rel}
    (H : Here 3 w A base l h₀ L m s.heap news) (hx : (x, instObj 153 dx) ∈ news) (hdx : (dx, relDict w t1 t2 t3 t4 t5 t6 (.str y.sect u1) (.int y.at_ u2) (.int y.width u3) (.str y.name u4) (.int y.worth u5) (.str y.way u6)) ∈ news)
    (ret : ∀ h' tk' T, Fr h₀ L h' m → News h₀ L h' ((T, tup6 (.str y.sect u1) (.int y.at_ u2) (.int y.width u3) (.str y.name u4) (.int y.worth u5) (.str y.way u6)) :: news) → (∀ p ∈ news, p.1 < T) → Q (.ref T) { s with heap := h', toks := tk' }) :
    wpAny (model PySem.Challenge.pw_nn0048_01 w) A (call (.ref 150) [.ref x]) Q E s := out_of (by exact trivial : Hold (by
  obtain ⟨e, el, B, F, X, N, T, hk, hd, hu⟩ := H
  subst e el
  refine wpAny_call ?_
  k_dflt ktr_enter
  walk_at "M steps"
  exact ret _ _ _ (by assumption) (by assumption) (by assumption)))
end

end
/-! part Sorts -/
section
theorem atSorts : True := by
  w_top off
  exact trivial
def sortN {α : Type} : List α → List α
  | [a, b] => [b, a]
  | [a, b, c] => [b, a, c]
  | l => l
theorem sortN_map {α β : Type} (f : α → β) : ∀ l : List α, (sortN l).map f = sortN (l.map f)
  | [] => rfl
  | [_] => rfl
  | [_, _] => rfl
  | [_, _, _] => rfl
  | _ :: _ :: _ :: _ :: _ => rfl
theorem sortN_len {α : Type} : ∀ l : List α, (sortN l).length = l.length
  | [] => rfl
  | [_] => rfl
  | [_, _] => rfl
  | [_, _, _] => rfl
  | _ :: _ :: _ :: _ :: _ => rfl
theorem sortN_mem {α : Type} {x : α} : ∀ {l : List α}, x ∈ sortN l → x ∈ l
  | [], h => h
  | [_], h => h
  | [_, _], h => by simp [sortN] at h ⊢; exact h.symm
  | [_, _, _], h => by simp [sortN] at h ⊢; rcases h with h | h | h <;> simp [h]
  | _ :: _ :: _ :: _ :: _, h => h
theorem len1 {ss : List Str} (h : ss.length = 1) : ∃ a, ss = [a] := by
  match ss, h with
  | [a], _ => exact ⟨a, rfl⟩
theorem len2 {ss : List Str} (h : ss.length = 2) : ∃ a b, ss = [a, b] := by
  match ss, h with
  | [a, b], _ => exact ⟨a, b, rfl⟩
theorem len3 {ss : List Str} (h : ss.length = 3) : ∃ a b c, ss = [a, b, c] := by
  match ss, h with
  | [a, b, c], _ => exact ⟨a, b, c, rfl⟩
theorem sort_one {k : Nat} (k1 : 1 ≤ k) (k3 : k ≤ 3) {ss : List Str} (p : ss.Perm ([Str.ofString ".text", Str.ofString ".data", Str.ofString "x"].take k)) (h : sortedS ss = true) : ss = sortN ([Str.ofString ".text", Str.ofString ".data", Str.ofString "x"].take k) := out_of (by exact trivial : Hold (by
  have hl := p.length_eq
  have hp := List.isPerm_iff.mpr p
  have hm := fun x (hx : x ∈ ss) => p.mem_iff.mp hx
  rcases k with _ | _ | _ | _ | k
  · omega
  · obtain ⟨a, rfl⟩ := len1 hl
    have := hm a (by simp)
    simp at this
    subst this; rfl
  · obtain ⟨a, b, rfl⟩ := len2 hl
    have e1 := hm a (by simp)
    have e2 := hm b (by simp)
    simp at e1 e2
    rcases e1 with rfl | rfl <;> rcases e2 with rfl | rfl <;> revert hp h <;> decide
  · obtain ⟨a, b, c, rfl⟩ := len3 hl
    have e1 := hm a (by simp)
    have e2 := hm b (by simp)
    have e3 := hm c (by simp)
    simp at e1 e2 e3
    rcases e1 with rfl | rfl | rfl <;> rcases e2 with rfl | rfl | rfl <;> rcases e3 with rfl | rfl | rfl <;> revert hp h <;> decide
  · omega))
section
variable {prog : Program} {w : World} {A : Around} {E : Value → Shared → Prop} {s : Shared} {h₀ : Heap} {L D B : Addr} {m : Str → Option Value} {news : List (Addr × Obj)} {Q : Value → Shared → Prop}
theorem lsort_strs {vs : List Value} {ss : List Str} {n : Nat} (F : Fr h₀ L s.heap m) (N : News h₀ L s.heap ((B, PySem.W.listOf vs.toArray n) :: news)) (hne : ∀ p ∈ news, p.1 ≠ B) (hS : StrsAre vs ss) (h64 : vs.length < 64)
    (h : ∀ h' us ss' e, StrsAre us ss' → ss'.Perm ss → sortedS ss' = true → Fr h₀ L h' m → News h₀ L h' ((B, PySem.W.listOf (List.toArray us) e) :: news) → Q .none { s with heap := h' }) :
    wpAny (model prog w) A (call (.builtin "list.sort") [.ref B]) Q E s := out_of (by exact trivial : Hold (by
  have hB := N (B, _) (.head _)
  have hoL : s.heap.get? B = some (seqObj "list" vs.toArray n) := hB.1
  refine wpAny_call_entry PyProof.Rows.slot_list_sort ⟨_, hoL, rfl⟩ PyProof.Rows.entry_list_sort (list_sort_treeK strKind_oneLt hoL hS.keysOf (fun v₁ v₂ rest e => keyKind_strs (by rw [← e]; exact hS)) h64 fun st' hp hs => ⟨_, rfl, ?_⟩) (PyProof.Rows.args_list_sort _)
  obtain ⟨ss', h1, h2, h3⟩ := sorted_out_str hS hp hs
  obtain ⟨e, he⟩ := sortedHeap_at (out := (arrOf st').map (·.2)) hoL
  obtain ⟨oL, es, ep, hL, r⟩ := F.ns
  have ne0 : ∀ b o, h₀.get? b = some o → b ≠ B := fun b o q z => by rw [z, hB.2.2] at q; cases q
  refine h _ _ ss' e h1 h2 h3 ⟨⟨oL, es, ep, (sortedHeap_old hB.2.1.symm F.ns.lt).trans hL, r⟩, fun b o q => (sortedHeap_old (ne0 b o q) (Heap.lt_size (F.keep b o q))).trans (F.keep b o q), F.above⟩ fun p hp => ?_
  rcases List.mem_cons.mp hp with rfl | hp
  · refine ⟨?_, hB.2⟩
    rw [Array.toArray_toList]; exact he
  · have hN := N p (.tail _ hp)
    exact ⟨(sortedHeap_old (hne p hp) (Heap.lt_size hN.1)).trans hN.1, hN.2⟩))
theorem strs_all2 {vs : List Value} {ss : List Str} (h : StrsAre vs ss) : All2 StrV vs ss := out_of (by exact trivial : Hold (by
  induction h with
  | nil => exact .nil
  | cons y t _ ih => exact .cons ⟨t, rfl⟩ ih))
theorem strs_at : ∀ {vs : List Value} {ss : List Str}, vs.length = ss.length → (∀ (j : Nat) (v : Value), vs[j]? = some v → ∃ (k : Str) (u : Tok), ss[j]? = some k ∧ v = Value.str k u) → StrsAre vs ss
  | [], [], _, _ => .nil
  | [], _ :: _, h, _ => nomatch h
  | _ :: _, [], h, _ => nomatch h
  | v :: vs, k :: ks, h, q => by
    obtain ⟨k', u, e1, rfl⟩ := q 0 v rfl
    cases e1
    exact .cons k u (strs_at (Nat.succ.inj h) fun j v hj => q (j + 1) v hj)
theorem names_sorted {oS : Obj} {kS : List (Str × Value)} {secs : List (Str × List Int)} (hh : A.handled = none) (F : Fr h₀ L s.heap m) (N : News h₀ L s.heap news) (hS : (D, oS) ∈ news) (hSd : oS.IsDictOf (PySem.strKind prog w) kS) (lo : (D == sysModules) = false) (hkS : All2 KvAt kS secs)
    (hkeys : ∃ k, 1 ≤ k ∧ k ≤ 3 ∧ secs.map (·.1) = [Str.ofString ".text", Str.ofString ".data", Str.ofString "x"].take k)
    (h : ∀ us c B h' tk, All2 StrV us (sortN (secs.map (·.1))) → Fr h₀ L h' m → News h₀ L h' ((B, PySem.W.listOf (List.toArray us) c) :: news) → (∀ p ∈ news, p.1 < B) → Q (.ref B) { s with heap := h', toks := tk }) :
    wpAny (model prog w) A (call (.builtin "sorted") [.ref D]) Q E s := out_of (by exact trivial : Hold (by
  have hg := N _ hS
  obtain ⟨ep, ha⟩ := KdkAt.of hSd
  have hat := ha.dictAt hg.1
  obtain ⟨k, k1, k3, ek⟩ := hkeys
  have hl3 : kS.length ≤ 3 := by
    rw [hkS.length, ← List.length_map (f := fun p : Str × List Int => p.1), ek, List.length_take]
    simp only [List.length_cons, List.length_nil]; omega
  refine kdu_sorted (kdl_dict (knd := PySem.strKind prog w) (kvs := kS) (ep := ep) lo) hh F N hat (by rw [sizeLine_eq]; omega) fun B h' tk vs F' N' l1 hl hv => ?_
  have hS' : StrsAre vs (secs.map (·.1)) := strs_at (by rw [hl, hkS.length, List.length_map]) fun j v hj => by
    obtain ⟨k, x, e1, e2⟩ := hv j v hj
    obtain ⟨p, hp, r⟩ := hkS.get e1
    obtain ⟨t, rfl⟩ := Value.isStrOf_shape e2
    exact ⟨k, t, by rw [List.getElem?_map, hp]; exact congrArg some r.1.symm, rfl⟩
  refine lsort_strs (s := { s with heap := h', toks := tk }) F' N' (lt_ne l1) hS' (by omega) fun h'' us ss' e a1 a2 a3 F'' N'' => ?_
  refine h us e B h'' tk ?_ F'' N'' l1
  rw [ek] at a2 ⊢
  rw [← sort_one k1 k3 a2 a3]
  exact strs_all2 a1))
end

end
/-! part Made -/
section
theorem atMade : True := by
  w_top off
  exact trivial
section
set_option maxHeartbeats 8000000 in
theorem symnew_ok {w : World} {A : Around} {base h₀ : Heap} {l : List Env} {L : Addr} {m : Str → Option Value} {s : Shared} {Q E : Value → Shared → Prop} {news : List (Addr × Obj)} {y : Sym} {u1 u2 u3 : Tok}
    (H : Here 4 w A base l h₀ L m s.heap news)
    (ret : ∀ h' tk' x dx t1 t2 t3 t4, Fr h₀ L h' m → News h₀ L h' ((x, instObj 125 dx) :: (dx, symDict w t1 t2 t3 t4 (.str y.name u1) (.str y.sect u2) (.int y.worth u3) (.bool false)) :: news) → (∀ p ∈ news, p.1 < dx) → @LT.lt Nat _ dx x → Q (.ref x) { s with heap := h', toks := tk' }) :
    wpAny (model PySem.Challenge.pw_nn0048_01 w) A (call (.ref 125) [.str y.name u1, .str y.sect u2, .int y.worth u3, .bool false]) Q E s := out_of (by exact trivial : Hold (by
  obtain ⟨e, el, B, F, X, N, T, hk, hd, hu⟩ := H
  subst e el
  refine call_cls F X N (by k_is) (by k_is) (by k_is) ?_
  intro x dx h' F' N' l1 l2
  have q1 := ltN l2
  have q2 := lt_ne l1
  k_dflt ktr_enter
  walk_at "M steps"
  exact ret _ _ _ _ _ _ _ _ (by assumption) (by assumption) l1 l2))
set_option maxHeartbeats 8000000 in
theorem relnew_ok {w : World} {A : Around} {base h₀ : Heap} {l : List Env} {L : Addr} {m : Str → Option Value} {s : Shared} {Q E : Value → Shared → Prop} {news : List (Addr × Obj)} {y : Rel} {u1 u2 u3 u4 u5 u6 : Tok}
    (H : Here 4 w A base l h₀ L m s.heap news)
    (ret : ∀ h' tk' x dx t1 t2 t3 t4 t5 t6, Fr h₀ L h' m → News h₀ L h' ((x, instObj 153 dx) :: (dx, relDict w t1 t2 t3 t4 t5 t6 (.str y.sect u1) (.int y.at_ u2) (.int y.width u3) (.str y.name u4) (.int y.worth u5) (.str y.way u6)) :: news) → (∀ p ∈ news, p.1 < dx) → @LT.lt Nat _ dx x → Q (.ref x) { s with heap := h', toks := tk' }) :
    wpAny (model PySem.Challenge.pw_nn0048_01 w) A (call (.ref 153) [.str y.sect u1, .int y.at_ u2, .int y.width u3, .str y.name u4, .int y.worth u5, .str y.way u6]) Q E s := out_of (by exact trivial : Hold (by
  obtain ⟨e, el, B, F, X, N, T, hk, hd, hu⟩ := H
  subst e el
  refine call_cls F X N (by k_is) (by k_is) (by k_is) ?_
  intro x dx h' F' N' l1 l2
  have q1 := ltN l2
  have q2 := lt_ne l1
  k_dflt ktr_enter
  walk_at "M steps"
  exact ret _ _ _ _ _ _ _ _ _ _ (by assumption) (by assumption) l1 l2))
set_option maxHeartbeats 8000000 in
theorem asmnew_ok {w : World} {A : Around} {base h₀ : Heap} {l : List Env} {L : Addr} {m : Str → Option Value} {s : Shared} {Q E : Value → Shared → Prop} {news : List (Addr × Obj)} {D Y R O : Addr}
    (H : Here 4 w A base l h₀ L m s.heap news)
    (ret : ∀ h' tk' x dx t1 t2 t3 t4, Fr h₀ L h' m → News h₀ L h' ((x, instObj 186 dx) :: (dx, asmDict w t1 t2 t3 t4 (.ref D) (.ref Y) (.ref R) (.ref O)) :: news) → (∀ p ∈ news, p.1 < dx) → @LT.lt Nat _ dx x → Q (.ref x) { s with heap := h', toks := tk' }) :
    wpAny (model PySem.Challenge.pw_nn0048_01 w) A (call (.ref 186) [.ref D, .ref Y, .ref R, .ref O]) Q E s := out_of (by exact trivial : Hold (by
  obtain ⟨e, el, B, F, X, N, T, hk, hd, hu⟩ := H
  subst e el
  refine call_cls F X N (by k_is) (by k_is) (by k_is) ?_
  intro x dx h' F' N' l1 l2
  have q1 := ltN l2
  have q2 := lt_ne l1
  k_dflt ktr_enter
  walk_at "M steps"
  exact ret _ _ _ _ _ _ _ _ (by assumption) (by assumption) l1 l2))
end

end
/-! part Obj -/
section
theorem atObj : True := by
  w_top off
  exact trivial
local macro_rules | `(tactic| walk_at "pad 0") => `(tactic| skip)
local macro_rules | `(tactic| walk_at "pad 1") => `(tactic| skip)
local macro_rules | `(tactic| walk_at "pad 2") => `(tactic| skip)
local macro_rules | `(tactic| walk_at "pad 3") => `(tactic| skip)
theorem pick3 {a b c : Value} {v : Int} (h0 : 0 ≤ v) (h1 : v < 3) : ∃ k, 1 ≤ k ∧ k ≤ 3 ∧ kms_pick [a, b, c] none (some (1 + v)) = [a, b, c].take k := out_of (by exact trivial : Hold (by
  refine ⟨(1 + v).toNat, by omega, by omega, ?_⟩
  unfold kms_pick kms_lo kms_hi
  dsimp only
  rw [if_neg (by omega)]
  simp only [List.length_cons, List.length_nil, List.drop_zero, Nat.sub_zero]
  rw [Nat.min_eq_left (by omega)]))
section
variable {prog : Program} {w : World} {A : Around} {E : Value → Shared → Prop} {s : Shared} {h₀ : Heap} {L l : Addr} {m : Str → Option Value} {news : List (Addr × Obj)} {value slice : PySem.Expr}
theorem names_slice {a b c : Str} {ta tb tc u : Tok} {n : Nat} {v : Int} {Q : Value → Shared → Prop} (F : Fr h₀ L s.heap m) (N : News h₀ L s.heap news) (hm : (l, PySem.W.listOf #[.str a ta, .str b tb, .str c tc] n) ∈ news) (h0 : 0 ≤ v) (h1 : v < 3)
    (h : ∀ zs names D h', All2 StrV zs names → (∃ k, 1 ≤ k ∧ k ≤ 3 ∧ names = [a, b, c].take k) → Fr h₀ L h' m → News h₀ L h' ((D, PySem.W.listOf zs.toArray 0) :: news) → (∀ p ∈ news, p.1 < D) → Q (.ref D) { s with heap := h' })
    (hs : subscripted slice false (.ref l) (.ref s.heap.objs.size) = operate [.ref s.heap.objs.size, .ref l] (getItem (.ref l) (.ref s.heap.objs.size))) (ht : ∀ r, letTemporaryGo value (.ref l) r = pure ()) :
    wpAny (model prog w) A (subscriptTail value slice (.ref l) (.ref s.heap.objs.size)) Q E { s with heap := s.heap.push { cls := .type "slice", data := .fields #[.none, .int (1 + v) u, .none] } } := out_of (by exact trivial : Hold (by
  obtain ⟨k, k1, k3, e⟩ := pick3 (a := .str a ta) (b := .str b tb) (c := .str c tc) h0 h1
  refine kms_slice_lit F N (News.isList N hm) .none (.int _ _) e (fun D h' F' N' l1 => h _ ([a, b, c].take k) D h' ?_ ⟨k, k1, k3, rfl⟩ F' N' l1) hs ht (by rw [sizeLine_eq]; exact Nat.le_of_ble_eq_true rfl)
  rcases k with _ | _ | _ | _ | k
  · omega
  · exact .cons ⟨_, rfl⟩ .nil
  · exact .cons ⟨_, rfl⟩ (.cons ⟨_, rfl⟩ .nil)
  · exact .cons ⟨_, rfl⟩ (.cons ⟨_, rfl⟩ (.cons ⟨_, rfl⟩ .nil))
  · omega))
end
def objJ1 (w : World) (names : List Str) (d Dn cell pen cells : Addr) (oc : Obj) (zs : List Value) (pn : Nat) (rest : List (Addr × Obj)) (i : Nat) (m : Str → Option Value) (ns : List (Addr × Obj)) : Prop :=
  m (Str.ofString "names") = some (.ref Dn) ∧ m (Str.ofString "sections") = some (.ref d) ∧ ∃ o kS secs a ta, ns = (d, o) :: (Dn, PySem.W.listOf zs.toArray 0) :: (cell, oc) :: (pen, PySem.W.listOf #[.ref cells, .int a ta] pn) :: rest ∧
  o.IsDictOf (PySem.strKind PySem.Challenge.pw_nn0048_01 w) kS ∧ All2 KvAt kS secs ∧ secs.map (·.1) = names.take i ∧ (∀ p ∈ secs, p.2.length ≤ 30) ∧ 0 ≤ a ∧ a ≤ 1 + 31 * i
theorem with_led {h₀ h' : Heap} {L d Dn : Addr} {o : Obj} {zs : List Value} {rest : List (Addr × Obj)} {G : Prop} (_ : News h₀ L h' ((d, o) :: (Dn, PySem.W.listOf zs.toArray 0) :: rest)) (k : ∀ d' Dn' zs', d' = d → Dn' = Dn → zs' = zs → G) : G := k _ _ _ rfl rfl rfl
theorem with_names {zs : List Value} {names a : List Str} {G : Prop} (h : All2 StrV zs names) (h2 : ∃ k, 1 ≤ k ∧ k ≤ 3 ∧ names = a.take k) (k : ∀ n, n = names → All2 StrV zs n → (∃ k, 1 ≤ k ∧ k ≤ 3 ∧ n = a.take k) → G) : G := k _ rfl h h2
theorem allLt_ne {a : Nat} : ∀ {l : List (Addr × Obj)}, AllLt a l → ∀ p ∈ l, p.1 ≠ a := fun h p hp => Nat.ne_of_lt (kst_ltOf h p hp)
theorem news_drop2 {h₀ h : Heap} {L : Addr} {x y z : Addr × Obj} {l : List (Addr × Obj)} (N : News h₀ L h (x :: y :: z :: l)) : News h₀ L h (x :: y :: l) := cb_drop N fun p hp => by
  rcases List.mem_cons.mp hp with rfl | hp
  · exact .head _
  · rcases List.mem_cons.mp hp with rfl | hp
    · exact .tail _ (.head _)
    · exact .tail _ (.tail _ (.tail _ hp))
section
variable {prog : Program} {w : World} {A : Around} {E : Value → Shared → Prop} {env : Env} {h₀ : Heap} {L : Addr} {m : Str → Option Value}
theorem ListComp_ownF {s : Shared} {elt iter : PySem.Expr} {x : Str} {px : Pos} {scope : Scope} {cl : List (Str × Addr)} {pos : Pos} {Q : Value → Shared → Prop} (_ : Fr h₀ L s.heap m)
    (hclos : closureFor scope env = pure cl) (hcell : ∀ y ∈ scope.names, y.2 ≠ .cell) (hkind : scope.kind = .function)
    (hnames : ∀ y ∈ scope.names, y.2 = .local → scope.names.lookup y.1 = some .local) (hx : scope.names.lookup x = some .local)
    (hs : ∀ x, foldedSetIterable iter env x = pure x)
    (h : wpAny (model prog w) A (eval iter env) (fun xv s₁ => wpAny (model prog w) A (pyIter xv) (fun it s₂ => CompAt prog w A h₀ L m env scope cl x elt (fun D _ _ _ h' tk s₂ => Q (.ref D) { s₂ with heap := h', toks := tk }) it s₂) E s₁) E s) :
    wpAny (model prog w) A (eval (.ListComp elt [⟨.Name x px, iter, [], 0⟩] scope pos) env) Q E s := ListComp_own hclos hcell hkind hnames hx hs h
end
section
variable {prog : Program} {w : World} {A : Around} {E : Value → Shared → Prop} {s : Shared} {env : Env} {h₀ : Heap} {x : Str} {body : List Stmt} {m₀ : Str → Option Value} {news : List (Addr × Obj)} {scope : Scope} {cl : List (Str × Addr)} {elt : PySem.Expr} {fin : Addr → List Value → Nat → List (Addr × Obj) → Heap → Nat → Shared → Prop} {L r : Addr} {b : Int} {t u v : Tok}
theorem compRangeV (h0 : 0 ≤ b) (h1 : b < 1000) (J : Nat → List Value → List (Addr × Obj) → Prop) (hh : A.handled = none) (F : Fr h₀ L s.heap m₀) (N : News h₀ L s.heap news) (hr : IsRange s.heap r 0 b 1 t u v) (hj : J 0 [] news)
    (turn : ∀ (i : Nat) t ys news₁ h tk own C mc E', (i : Int) < b → J i ys news₁ → Off news₁ own → NsOwn own C mc → mc x = some (.int i t) → Fr h₀ L h m₀ → News h₀ L h (news₁ ++ own) →
      wpAny (model prog w) A (eval elt (compEnvC scope cl C env)) (CompEnd h₀ L m₀ own (fun y => J (i + 1) (ys ++ [y])) { s with heap := h, toks := tk }) E' { s with heap := h, toks := tk })
    (hfin : ∀ D ys c news₁ h' tk H, J b.toNat ys news₁ → ys.length = b.toNat → Fr h₀ L h' m₀ → News h₀ L h' ((D, PySem.W.listOf ys.toArray c) :: news₁) → (∀ p ∈ news₁, p.1 ≠ D) → fin D ys c news₁ h' tk { s with heap := H }) :
    wpAny (model prog w) A (pyIter (.ref r)) (fun it s₂ => CompAt prog w A h₀ L m₀ env scope cl x elt fin it s₂) E s := by
  obtain ⟨n, rfl⟩ : ∃ n : Nat, b = n := ⟨b.toNat, by omega⟩
  refine compRange (n := n) J hh F N hr (range_small n (by omega)) (range_size n) (by rw [sizeLine_eq]; omega) hj (fun i t ys news₁ h tk own C mc E' hi j o no hm F1 N1 => turn i t ys news₁ h tk own C mc E' (by omega) j o no (by rw [hm]; congr 2; omega) F1 N1) hfin
theorem forRangeV {Q : Flow → Shared → Prop} (h0 : 0 ≤ b) (h1 : b < 1000) (eL : env.locals = L) (J : Nat → (Str → Option Value) → List (Addr × Obj) → Prop) (hh : A.handled = none) (F : Fr h₀ L s.heap m₀) (N : News h₀ L s.heap news)
    (hr : IsRange s.heap r 0 b 1 t u v) (hj : J 0 m₀ news)
    (turn : ∀ (i : Nat) t m₁ news₁ h tk own, (i : Int) < b → J i m₁ news₁ → Off news₁ own → Fr h₀ L h (fun y => if y = x then some (.int i t) else m₁ y) → News h₀ L h (news₁ ++ own) →
      wpAny (model prog w) A (execs body env) (TurnPost h₀ L own (J (i + 1)) { s with heap := h, toks := tk } Q) E { s with heap := h, toks := tk })
    (done : ∀ m₁ news₁ h tk, J b.toNat m₁ news₁ → Fr h₀ L h m₁ → News h₀ L h news₁ → Q .next { s with heap := h, toks := tk }) :
    wpAny (model prog w) A (pyIter (.ref r)) (fun it s₂ => LoopAtV prog w A h₀ env x body Q E it s₂) E s := out_of (by exact trivial : Hold (by
  obtain ⟨n, rfl⟩ : ∃ n : Nat, b = n := ⟨b.toNat, by omega⟩
  refine forRange (n := n) eL J hh F N hr (range_small n (by omega)) (range_size n) hj (fun i t m₁ news₁ h tk own hi j o F1 N1 => ?_) done
  rw [show (0 : Int) + (i : Int) * 1 = (i : Int) by omega] at F1
  exact turn i t m₁ news₁ h tk own (by omega) j o F1 N1))
theorem comp_end {own : List (Addr × Obj)} {J : Value → List (Addr × Obj) → Prop} {s₁ : Shared} {y : Value} {h' : Heap} {tk : Nat} {l news' : List (Addr × Obj)} (F : Fr h₀ L h' m₀) (N : News h₀ L h' l) (e : l = news' ++ own) (off : Off news' own) (j : J y news') : CompEnd h₀ L m₀ own J s₁ y { s₁ with heap := h', toks := tk } :=
  ⟨h', tk, news', rfl, F, e ▸ N, off, j⟩
end
theorem off_keys {a a' b : List (Addr × Obj)} (h : Off a b) (e : a'.map (·.1) = a.map (·.1)) : Off a' b := fun p hp q hq z => by
  have : p.1 ∈ a.map (·.1) := e ▸ List.mem_map_of_mem hp
  obtain ⟨p', hp', e'⟩ := List.mem_map.mp this
  exact h p' hp' q hq (e'.trans z)
theorem in_snoc {ks : List Int} {v : Int} (h : ∀ k ∈ ks, 0 ≤ k ∧ k < 256) (h0 : 0 ≤ v) (h1 : v < 256) : ∀ k ∈ ks ++ [v], 0 ≤ k ∧ k < 256 := out_of (by exact trivial : Hold (by
  intro k hk
  rcases List.mem_append.mp hk with hk | hk
  · exact h k hk
  · rw [List.mem_singleton.mp hk]; exact ⟨h0, h1⟩))
def objC1 (d Dn cell pen cells : Addr) (o oc : Obj) (zs : List Value) (pn : Nat) (a0 : Int) (rest : List (Addr × Obj)) (i : Nat) (ys : List Value) (ns : List (Addr × Obj)) : Prop :=
  ∃ a ta ks, ns = (d, o) :: (Dn, PySem.W.listOf zs.toArray 0) :: (cell, oc) :: (pen, PySem.W.listOf #[.ref cells, .int a ta] pn) :: rest ∧ IntsAre ys ks ∧ ks.length = i ∧ (∀ k ∈ ks, 0 ≤ k ∧ k < 256) ∧ a0 ≤ a ∧ a ≤ a0 + i
section
variable {prog : Program} {w : World} {A : Around} {E : Value → Shared → Prop} {s : Shared} {h₀ : Heap} {L D : Addr} {m : Str → Option Value} {news : List (Addr × Obj)} {Q : Value → Shared → Prop} {t u : Tok} {zs : List Value} {names : List Str} {c : Nat}
theorem str_small {i : Nat} (hi : i < 100) (h : Q (.str (Str.ofString (toString (i : Int))) s.toks) { s with toks := s.toks + 1 }) : wpAny (model prog w) A (call (.type "str") [.int (i : Int) t]) Q E s := by
  have e : (100 : Int) ≤ 2 ^ 1920 := by decide +kernel
  exact P.str_of_int (shown (N := 2 ^ 1920) (by omega) (by omega) (Int.le_refl _)) h
theorem strs_item {value slice : PySem.Expr} {b : Int} (N : News h₀ L s.heap news) (hm : (D, PySem.W.listOf zs.toArray c) ∈ news) (hz : All2 StrV zs names) (h0 : 0 ≤ b) (h1 : b < (zs.length : Int)) (h2 : zs.length ≤ 1000) (h : ∀ nm t, nm ∈ names → Q (.str nm t) s)
    (hs : subscripted slice false (.ref D) (.int b u) = operate [.ref D, .int b u] (getItem (.ref D) (.int b u)) := by with_unfolding_all rfl) :
    wpAny (model prog w) A (subscriptTail value slice (.ref D) (.int b u)) Q E s := out_of (by exact trivial : Hold (by
  have hl := hz.length
  obtain ⟨v, hv⟩ : ∃ v, zs[b.toNat]? = some v := ⟨_, List.getElem?_eq_getElem (by omega)⟩
  obtain ⟨nm, hn, t, rfl⟩ := hz.get hv
  exact tail_any (News.isList N hm).typeIs slot_list_getitem.lookup (wpAny_getItem_list (News.isList N hm) h0 (by omega) (by rw [List.getElem?_toArray]; exact hv) (h nm t (List.mem_of_getElem? hn))) hs))
theorem All2.app {α β : Type} {R : α → β → Prop} {as as' : List α} {bs bs' : List β} (h : All2 R as bs) (h' : All2 R as' bs') : All2 R (as ++ as') (bs ++ bs') := out_of (by exact trivial : Hold (by
  induction h with
  | nil => exact h'
  | cons r _ ih => exact .cons r ih))
theorem strs_cons {n : Str} {t : Tok} {vs : List Value} {ns : List Str} (h : All2 StrV vs ns) : All2 StrV (.str n t :: vs) (n :: ns) := .cons ⟨_, rfl⟩ h
theorem strs_add {a b : Addr} {c c' : Nat} {ys : List Value} {names2 : List Str} (F : Fr h₀ L s.heap m) (N : News h₀ L s.heap news) (ha : (a, PySem.W.listOf zs.toArray c) ∈ news) (hb : (b, PySem.W.listOf ys.toArray c') ∈ news) (hz : All2 StrV zs names) (hy : All2 StrV ys names2) (hsz : zs.length + ys.length ≤ 1000)
    (h : ∀ us D h', All2 StrV us (names ++ names2) → us.length = zs.length + ys.length → us.length ≤ 1000 → Fr h₀ L h' m → News h₀ L h' ((D, PySem.W.listOf us.toArray 0) :: news) → (∀ p ∈ news, p.1 < D) → Q (.ref D) { s with heap := h' }) :
    wpAny (model prog w) A (binaryOp .Add (.ref a) (.ref b)) Q E s :=
  kmk_add_lit F N (News.isList N ha) (News.isList N hb) rfl (fun D h' F' N' l1 => h (zs ++ ys) D h' (hz.app hy) (List.length_append) (by rw [List.length_append]; exact hsz) F' N' l1) (by rw [sizeLine_eq]; show zs.length + ys.length ≤ _; omega)
theorem nn1 {a : Int} (h : 0 ≤ a) : 0 ≤ a + 1 := by omega
theorem up0 {a : Int} (h : a < 1048576 - ((0 : Nat) : Int)) : a < 2 ^ 20 := by omega
theorem up0' {a : Int} (h : a < 1048576 - ((1 : Nat) : Int)) : a < 2 ^ 20 - 1 := by omega
theorem up1 {a : Int} {n : Nat} (h : a < 1048576 - ((n + 1 : Nat) : Int)) : a + 1 < 1048576 - (n : Int) := by omega
theorem cap0 {a : Int} {n : Nat} (h : a ≤ 1000) (hn : n ≤ 64 := by decide) : a < 1048576 - (n : Int) := by omega
theorem lt_sub0 {v n : Int} (h : v < n - 0) : v < n := by omega
theorem lt_sub1 {v n : Int} (h : v < n - 1) : v < n := by omega
theorem lt_lit {v : Int} {a b c : Value} (h : v < 3) : v < (([a, b, c] : List Value).length : Int) := h
theorem strs_len (N : News h₀ L s.heap news) (hm : (D, PySem.W.listOf zs.toArray c) ∈ news) (hz : zs.length ≤ 1000) (h : Q (.int (zs.length : Nat) (s.toks + 1)) { s with toks := s.toks + 1 + 1 }) : wpAny (model prog w) A (call (.builtin "len") [.ref D]) Q E s :=
  KM.len_K N hm (by rw [List.size_toArray]) (by omega) h
end
def sname (i : Nat) : Str := Str.ofString "s" ++ Str.ofString (toString (i : Int))
theorem with_Y {h₀ h' : Heap} {L Y d : Addr} {o oY : Obj} {rest : List (Addr × Obj)} {G : Prop} (_ : News h₀ L h' ((Y, oY) :: (d, o) :: rest)) (k : ∀ Y', Y' = Y → G) : G := k _ rfl
def objJ2 (names : List Str) (Y d Dn cell pen cells : Addr) (o oc : Obj) (zs : List Value) (pn : Nat) (a0 : Int) (rest : List (Addr × Obj)) (i : Nat) (m : Str → Option Value) (ns : List (Addr × Obj)) : Prop :=
  m (Str.ofString "names") = some (.ref Dn) ∧ m (Str.ofString "sections") = some (.ref d) ∧ m (Str.ofString "symbols") = some (.ref Y) ∧
  ∃ R a ta ys c syms, ns = (Y, PySem.W.listOf (List.toArray ys) c) :: (d, o) :: (Dn, PySem.W.listOf zs.toArray 0) :: (cell, oc) :: (pen, PySem.W.listOf #[.ref cells, .int a ta] pn) :: R ∧
  (∀ p ∈ rest, p ∈ R) ∧ (∀ p ∈ R, p.1 ≠ pen) ∧ (∀ p ∈ R, p.1 ≠ d) ∧ (∀ p ∈ R, p.1 ≠ Y) ∧ All2 (SymTup R) ys syms ∧ syms.map (·.name) = (List.range i).map sname ∧ (∀ y ∈ syms, y.sect ∈ names ++ [Str.ofString "*", Str.ofString ""]) ∧ a0 ≤ a ∧ a ≤ a0 + 2 * i
theorem all_cons {x : Addr × Obj} {R : List (Addr × Obj)} {d : Addr} (a : x.1 ≠ d) (h : ∀ p ∈ R, p.1 ≠ d) : ∀ p ∈ x :: R, p.1 ≠ d := fun p hp => by
  rcases List.mem_cons.mp hp with rfl | hp
  · exact a
  · exact h p hp
theorem obj2_end {h₀ h' : Heap} {L T Y d Dn cell pen cells x1 x2 : Addr} {o oc ob1 ob2 : Obj} {m' : Str → Option Value} {names : List Str} {zs ys : List Value} {pn c tk i : Nat} {a0 a' wv : Int} {t tn u ta : Tok} {nm : Str} {R own rest : List (Addr × Obj)} {syms : List Sym} {s₁ : Shared} {Q : Flow → Shared → Prop} {oY oP : Obj} (F : Fr h₀ L h' m')
    (NN : News h₀ L h' ((T, tup3 (.str (sname i) t) (.str nm tn) (.int wv u)) :: (x1, ob1) :: (x2, ob2) :: (Y, PySem.W.listOf (Array.push (List.toArray ys) (.ref T)) c) :: (d, o) :: (Dn, PySem.W.listOf zs.toArray 0) :: (cell, oc) :: (pen, PySem.W.listOf #[.ref cells, .int a' ta] pn) :: (R ++ own)))
    (hT : @LT.lt Nat _ x1 T ∧ @LT.lt Nat _ x2 T ∧ @LT.lt Nat _ Y T ∧ @LT.lt Nat _ d T ∧ @LT.lt Nat _ Dn T ∧ @LT.lt Nat _ cell T ∧ @LT.lt Nat _ pen T ∧ AllLt T (R ++ own))
    (off : Off ((Y, oY) :: (d, o) :: (Dn, PySem.W.listOf zs.toArray 0) :: (cell, oc) :: (pen, oP) :: R) own)
    (n1 : m' (Str.ofString "names") = some (.ref Dn)) (n2 : m' (Str.ofString "sections") = some (.ref d)) (n3 : m' (Str.ofString "symbols") = some (.ref Y))
    (hR0 : ∀ p ∈ rest, p ∈ R) (hRp : ∀ p ∈ R, p.1 ≠ pen) (hRd : ∀ p ∈ R, p.1 ≠ d) (hRY : ∀ p ∈ R, p.1 ≠ Y) (hsyms : All2 (SymTup R) ys syms) (hsn : syms.map (·.name) = (List.range i).map sname) (hss : ∀ y ∈ syms, y.sect ∈ names ++ [Str.ofString "*", Str.ofString ""]) (hnm : nm ∈ names ++ [Str.ofString "*", Str.ofString ""]) (ha : a0 ≤ a') (hb : a' ≤ a0 + 2 * ((i + 1 : Nat) : Int)) :
    TurnPost h₀ L own (objJ2 names Y d Dn cell pen cells o oc zs pn a0 rest (i + 1)) s₁ Q .next { s₁ with heap := h', toks := tk } := out_of (by exact trivial : Hold (by
  obtain ⟨_, _, g1, g2, _, _, g3, g4⟩ := hT
  have g5 := allLt_ne g4
  refine turn_end (news' := (Y, PySem.W.listOf (List.toArray (ys ++ [.ref T])) c) :: (d, o) :: (Dn, PySem.W.listOf zs.toArray 0) :: (cell, oc) :: (pen, PySem.W.listOf #[.ref cells, .int a' ta] pn) :: ((T, tup3 (.str (sname i) t) (.str nm tn) (.int wv u)) :: R)) F (cb_drop NN fun p hp => ?_) rfl (fun p hp q hq => ?_)
    ⟨n1, n2, n3, _, a', ta, ys ++ [.ref T], c, syms ++ [⟨sname i, nm, wv⟩], rfl, fun p hp => .tail _ (hR0 p hp), all_cons (Ne.symm (Nat.ne_of_lt g3)) hRp, all_cons (Ne.symm (Nat.ne_of_lt g2)) hRd, all_cons (Ne.symm (Nat.ne_of_lt g1)) hRY, (hsyms.mono fun _ _ z => z.keeps fun p hp => .tail _ hp).snoc ⟨T, _, _, _, rfl, .head _⟩, ?_, ?_, ha, hb⟩
  · rw [push_app] at *
    simp only [List.cons_append, List.mem_cons] at hp ⊢
    rcases hp with h | h | h | h | h | h | h <;> simp [h]
  · have hq1 := fun z => off z
    rcases List.mem_cons.mp hp with rfl | hp
    · exact off (Y, oY) (.head _) q hq
    rcases List.mem_cons.mp hp with rfl | hp
    · exact off (d, o) (.tail _ (.head _)) q hq
    rcases List.mem_cons.mp hp with rfl | hp
    · exact off (Dn, _) (.tail _ (.tail _ (.head _))) q hq
    rcases List.mem_cons.mp hp with rfl | hp
    · exact off (cell, oc) (.tail _ (.tail _ (.tail _ (.head _)))) q hq
    rcases List.mem_cons.mp hp with rfl | hp
    · exact off (pen, oP) (.tail _ (.tail _ (.tail _ (.tail _ (.head _))))) q hq
    rcases List.mem_cons.mp hp with rfl | hp
    · exact Ne.symm (g5 q (List.mem_append_right _ hq))
    · exact off p (.tail _ (.tail _ (.tail _ (.tail _ (.tail _ hp))))) q hq
  · rw [List.map_append, hsn, List.range_succ, List.map_append]; rfl
  · intro y hy
    rcases List.mem_append.mp hy with hy | hy
    · exact hss y hy
    · rw [List.mem_singleton.mp hy]; exact hnm))
def RelOk (secs : List (Str × List Int)) (r : Rel) : Prop := ∀ p ∈ secs, r.sect = p.1 → 1 ≤ r.width ∧ r.width ≤ 8 ∧ r.at_ + r.width ≤ p.2.length
def objJ3 (w : World) (secs : List (Str × List Int)) (ys zs : List Value) (Rr Ed Y d Dn cell pen cells : Addr) (o oc : Obj) (c pn : Nat) (a0 : Int) (R0 : List (Addr × Obj)) (i : Nat) (m : Str → Option Value) (ns : List (Addr × Obj)) : Prop :=
  m (Str.ofString "names") = some (.ref Dn) ∧ m (Str.ofString "sections") = some (.ref d) ∧ m (Str.ofString "symbols") = some (.ref Y) ∧ m (Str.ofString "rows") = some (.ref Rr) ∧ m (Str.ofString "ends") = some (.ref Ed) ∧
  ∃ R a ta rs cR oE kE rels, ns = (Rr, PySem.W.listOf (List.toArray rs) cR) :: (Ed, oE) :: (Y, PySem.W.listOf (List.toArray ys) c) :: (d, o) :: (Dn, PySem.W.listOf zs.toArray 0) :: (cell, oc) :: (pen, PySem.W.listOf #[.ref cells, .int a ta] pn) :: R ∧
  (∀ p ∈ R0, p ∈ R) ∧ (∀ p ∈ R, p.1 ≠ pen) ∧ (∀ p ∈ R, p.1 ≠ Ed) ∧ (∀ p ∈ R, p.1 ≠ Rr) ∧ oE.IsDictOf (PySem.strKind PySem.Challenge.pw_nn0048_01 w) kE ∧ EndsOk kE ∧ kE.length ≤ i ∧ All2 (RelTup R) rs rels ∧ rs.length ≤ i ∧ (∀ r ∈ rels, RelOk secs r) ∧ a0 ≤ a ∧ a ≤ a0 + 12 * i
theorem news_swap {h₀ h : Heap} {L : Addr} {x y z : Addr × Obj} {l : List (Addr × Obj)} (N : News h₀ L h (z :: x :: y :: l)) : News h₀ L h (y :: x :: l) := cb_drop N fun p hp => by
  rcases List.mem_cons.mp hp with rfl | hp
  · exact .tail _ (.tail _ (.head _))
  · rcases List.mem_cons.mp hp with rfl | hp
    · exact .tail _ (.head _)
    · exact .tail _ (.tail _ (.tail _ hp))
section
variable {prog : Program} {w : World} {A : Around} {E : Value → Shared → Prop} {s : Shared} {h₀ : Heap} {L D : Addr} {m : Str → Option Value} {news : List (Addr × Obj)} {Q : Value → Shared → Prop} {t u : Tok} {value slice : PySem.Expr}
theorem name_comp {cenv : Env} {mc : Str → Option Value} {x : Str} {v : Value} {pos : Pos} (hn : s.heap.Ns cenv.locals mc) (hv : mc x = some v) (h : Q v s) (hk : cenv.scope.kind = .function := by rfl) (hl : cenv.kindOf x = some .local := by rfl) (hd : (x == ("__debug__" : Str)) = false := by decide) :
    wpAny (model prog w) A (eval (.Name x pos) cenv) Q E s := wpAny_Name (wpAny_loadName_local hk hl hn hv h) hd
theorem tup3_0 {a b c : Value} (N : News h₀ L s.heap news) (hm : (D, tup3 a b c) ∈ news) (h : Q a s)
    (hs : subscripted slice false (.ref D) (.int 0 u) = operate [.ref D, .int 0 u] (getItem (.ref D) (.int 0 u)) := by with_unfolding_all rfl) :
    wpAny (model prog w) A (subscriptTail value slice (.ref D) (.int 0 u)) Q E s :=
  tail_any (News.isTup N hm).typeIs slot_tuple_getitem.lookup (PyProof.Rows.getItem_tuple (News.isTup N hm) (by decide) (by decide) (j := 0) rfl rfl h) hs
end
theorem mem_keys {secs : List (Str × List Int)} {names : List Str} {k : Str} (h : secs.map (·.1) = names) (hk : k ∈ names) : k ∈ secs.map (·.1) := h ▸ hk
theorem with_RE {h₀ h' : Heap} {L Y T Ed Rr : Addr} {o oY oE oR : Obj} {rest : List (Addr × Obj)} {G : Prop} (_ : News h₀ L h' ((T, o) :: (Ed, oE) :: (Rr, oR) :: (Y, oY) :: rest)) (k : ∀ Ed' Rr' oE', Ed' = Ed → Rr' = Rr → oE' = oE → G) : G := k _ _ _ rfl rfl rfl
theorem stored_len {K : Type} [DecidableEq K] (kvs : List (K × Value)) (k : K) (v : Value) : (stored kvs k v).length ≤ kvs.length + 1 := out_of (by exact trivial : Hold (by
  unfold stored
  split
  · rw [List.length_map]; omega
  · rw [List.length_append]; exact Nat.le_refl _))
theorem key_one {secs : List (Str × List Int)} (hn : (secs.map (·.1)).Nodup) {k : Str} {a b : List Int} (ha : (k, a) ∈ secs) (hb : (k, b) ∈ secs) : a = b := out_of (by exact trivial : Hold (by
  obtain ⟨i, hi⟩ := List.getElem?_of_mem ha
  obtain ⟨j, hj⟩ := List.getElem?_of_mem hb
  obtain ⟨h1, e1⟩ := List.getElem?_eq_some_iff.mp hi
  obtain ⟨h2, e2⟩ := List.getElem?_eq_some_iff.mp hj
  have e : i = j := by
    have h1' : i < (secs.map (·.1)).length := by simpa using h1
    have h2' : j < (secs.map (·.1)).length := by simpa using h2
    rcases Nat.lt_trichotomy i j with q | q | q
    · exact absurd (by simp [e1, e2]) (List.pairwise_iff_getElem.mp hn i j h1' h2' q)
    · exact q
    · exact absurd (by simp [e1, e2]) (List.pairwise_iff_getElem.mp hn j i h2' h1' q)
  subst e
  rw [e1] at e2
  exact (Prod.mk.inj e2).2))
theorem obj3_end {w : World} {secs : List (Str × List Int)} {h₀ h' : Heap} {L T Rr Ed Y d Dn cell pen cells y1 y2 y3 y4 y5 y6 y7 y8 y9 : Addr} {o oc oE' oR oEo oP b1 b2 b3 b4 b5 b6 b7 b8 b9 : Obj} {m' : Str → Option Value} {zs ys rs : List Value} {pn c cR tk i e wd : Nat} {a0 a3 v0 wv : Int} {t1 t2 t3 t4 t5 t6 t7 ta : Tok} {nm nm2 wy : Str} {R own R0 : List (Addr × Obj)} {rels : List Rel} {kE : List (Str × Value)} {b : Array UInt8} {s₁ : Shared} {Q : Flow → Shared → Prop} (F : Fr h₀ L h' m')
    (NN : News h₀ L h' ((T, tup6 (.str nm t1) (.int ((e : Int) + v0) t2) (.int (wd : Int) t3) (.str nm2 t4) (.int wv t5) (.str wy t6)) :: (y1, b1) :: (y2, b2) :: (y3, b3) :: (y4, b4) :: (y5, b5) :: (y6, b6) :: (y7, b7) :: (y8, b8) :: (y9, b9) :: (Rr, PySem.W.listOf (Array.push (List.toArray rs) (.ref T)) cR) :: (Ed, oE') :: (Y, PySem.W.listOf (List.toArray ys) c) :: (d, o) :: (Dn, PySem.W.listOf zs.toArray 0) :: (cell, oc) :: (pen, PySem.W.listOf #[.ref cells, .int (a3 + 1 + 1 + 1 + 1 + 1 + 1 + 1 + 1) ta] pn) :: (R ++ own)))
    (hT : @LT.lt Nat _ y1 T ∧ @LT.lt Nat _ y2 T ∧ @LT.lt Nat _ y3 T ∧ @LT.lt Nat _ y4 T ∧ @LT.lt Nat _ y5 T ∧ @LT.lt Nat _ y6 T ∧ @LT.lt Nat _ y7 T ∧ @LT.lt Nat _ y8 T ∧ @LT.lt Nat _ y9 T ∧ @LT.lt Nat _ Rr T ∧ @LT.lt Nat _ Ed T ∧ @LT.lt Nat _ Y T ∧ @LT.lt Nat _ d T ∧ @LT.lt Nat _ Dn T ∧ @LT.lt Nat _ cell T ∧ @LT.lt Nat _ pen T ∧ AllLt T (R ++ own))
    (off : Off ((Rr, oR) :: (Ed, oEo) :: (Y, PySem.W.listOf (List.toArray ys) c) :: (d, o) :: (Dn, PySem.W.listOf zs.toArray 0) :: (cell, oc) :: (pen, oP) :: R) own)
    (n1 : m' (Str.ofString "names") = some (.ref Dn)) (n2 : m' (Str.ofString "sections") = some (.ref d)) (n3 : m' (Str.ofString "symbols") = some (.ref Y)) (n4 : m' (Str.ofString "rows") = some (.ref Rr)) (n5 : m' (Str.ofString "ends") = some (.ref Ed))
    (hQ0 : ∀ p ∈ R0, p ∈ R) (hQp : ∀ p ∈ R, p.1 ≠ pen) (hQE : ∀ p ∈ R, p.1 ≠ Ed) (hQR : ∀ p ∈ R, p.1 ≠ Rr) (hdE : oE'.IsDictOf (PySem.strKind PySem.Challenge.pw_nn0048_01 w) (stored kE nm (.int ((e : Int) + v0 + (wd : Int)) t7))) (hEnds : EndsOk kE) (hkE : kE.length ≤ i) (hrels : All2 (RelTup R) rs rels) (hrl : rs.length ≤ i) (hrok : ∀ r ∈ rels, RelOk secs r)
    (hkn : (secs.map (·.1)).Nodup) (hmem : (nm, KBw.bInts b) ∈ secs) (hbl : (KBw.bInts b).length ≤ 30) (hle : (e : Int) + v0 + (wd : Int) ≤ ((KBw.bInts b).length : Nat)) (hv0 : 0 ≤ v0) (hw1 : 1 ≤ wd) (hw2 : wd ≤ 8) (ha : a0 ≤ a3) (hb : a3 ≤ a0 + 12 * (i : Int)) :
    TurnPost h₀ L own (objJ3 w secs ys zs Rr Ed Y d Dn cell pen cells o oc c pn a0 R0 (i + 1)) s₁ Q .next { s₁ with heap := h', toks := tk } := out_of (by exact trivial : Hold (by
  obtain ⟨_, _, _, _, _, _, _, _, _, g1, g2, g3, g4, g5, g6, g7, g8⟩ := hT
  have g9 := allLt_ne g8
  have hav : (((e : Int) + v0).toNat : Int) = (e : Int) + v0 := Int.toNat_of_nonneg (by omega)
  refine turn_end (news' := (Rr, PySem.W.listOf (List.toArray (rs ++ [.ref T])) cR) :: (Ed, oE') :: (Y, PySem.W.listOf (List.toArray ys) c) :: (d, o) :: (Dn, PySem.W.listOf zs.toArray 0) :: (cell, oc) :: (pen, PySem.W.listOf #[.ref cells, .int (a3 + 1 + 1 + 1 + 1 + 1 + 1 + 1 + 1) ta] pn) :: ((T, tup6 (.str nm t1) (.int ((e : Int) + v0) t2) (.int (wd : Int) t3) (.str nm2 t4) (.int wv t5) (.str wy t6)) :: R)) F (cb_drop NN fun p hp => ?_) rfl (fun p hp q hq => ?_)
    ⟨n1, n2, n3, n4, n5, _, a3 + 1 + 1 + 1 + 1 + 1 + 1 + 1 + 1, ta, rs ++ [.ref T], cR, oE', _, rels ++ [⟨nm, ((e : Int) + v0).toNat, wd, nm2, wv, wy⟩], rfl, fun p hp => .tail _ (hQ0 p hp), all_cons (Ne.symm (Nat.ne_of_lt g7)) hQp, all_cons (Ne.symm (Nat.ne_of_lt g2)) hQE, all_cons (Ne.symm (Nat.ne_of_lt g1)) hQR, hdE, ends_set hEnds (by omega) (by omega), Nat.le_trans (stored_len _ _ _) (by omega),
      (hrels.mono fun _ _ z => z.keeps fun p hp => .tail _ hp).snoc ⟨T, t1, t2, t3, t4, t5, t6, rfl, by rw [hav]; exact .head _⟩, by rw [List.length_append]; exact Nat.succ_le_succ hrl, ?_, by omega, by omega⟩
  · rw [push_app] at *
    simp only [List.cons_append, List.mem_cons] at hp ⊢
    rcases hp with h | h | h | h | h | h | h | h | h <;> simp [h]
  · rcases List.mem_cons.mp hp with rfl | hp
    · exact off (Rr, oR) (.head _) q hq
    rcases List.mem_cons.mp hp with rfl | hp
    · exact off (Ed, oEo) (.tail _ (.head _)) q hq
    rcases List.mem_cons.mp hp with rfl | hp
    · exact off (Y, _) (.tail _ (.tail _ (.head _))) q hq
    rcases List.mem_cons.mp hp with rfl | hp
    · exact off (d, o) (.tail _ (.tail _ (.tail _ (.head _)))) q hq
    rcases List.mem_cons.mp hp with rfl | hp
    · exact off (Dn, _) (.tail _ (.tail _ (.tail _ (.tail _ (.head _))))) q hq
    rcases List.mem_cons.mp hp with rfl | hp
    · exact off (cell, oc) (.tail _ (.tail _ (.tail _ (.tail _ (.tail _ (.head _)))))) q hq
    rcases List.mem_cons.mp hp with rfl | hp
    · exact off (pen, oP) (.tail _ (.tail _ (.tail _ (.tail _ (.tail _ (.tail _ (.head _))))))) q hq
    rcases List.mem_cons.mp hp with rfl | hp
    · exact Ne.symm (g9 q (List.mem_append_right _ hq))
    · exact off p (.tail _ (.tail _ (.tail _ (.tail _ (.tail _ (.tail _ (.tail _ hp))))))) q hq
  · intro r hr
    rcases List.mem_append.mp hr with hr | hr
    · exact hrok r hr
    · rw [List.mem_singleton.mp hr]
      intro p hp hpe
      obtain ⟨pk, pb⟩ := p
      cases hpe
      have := key_one hkn hmem hp
      subst this
      refine ⟨hw1, hw2, ?_⟩
      dsimp only
      omega))
/-- what _law_object made: the dict of sections, the lists of symbols and of rows, in the ledger -/
structure ObjMade (w : World) (R : List (Addr × Obj)) (T d Y Rr : Addr) (secs : List (Str × List Int)) (syms : List Sym) (rels : List Rel) : Prop where
  tup : (T, tup3 (.ref d) (.ref Y) (.ref Rr)) ∈ R
  dict : ∃ o kS, (d, o) ∈ R ∧ o.IsDictOf (PySem.strKind PySem.Challenge.pw_nn0048_01 w) kS ∧ All2 KvAt kS secs
  lo : (d == sysModules) = false
  symL : ∃ ys c, (Y, PySem.W.listOf (List.toArray ys) c) ∈ R ∧ All2 (SymTup R) ys syms
  relL : ∃ rs c, (Rr, PySem.W.listOf (List.toArray rs) c) ∈ R ∧ All2 (RelTup R) rs rels
  keys : ∃ k, 1 ≤ k ∧ k ≤ 3 ∧ secs.map (·.1) = [Str.ofString ".text", Str.ofString ".data", Str.ofString "x"].take k
  lens : ∀ p ∈ secs, p.2.length ≤ 30
  names : syms.map (·.name) = (List.range syms.length).map sname
  nsym : syms.length ≤ 6
  sects : ∀ y ∈ syms, y.sect ∈ secs.map (·.1) ++ [Str.ofString "*", Str.ofString ""]
  nrel : rels.length ≤ 8
  rels : ∀ r ∈ rels, RelOk secs r
theorem mem7 {a b c d e f g p : Addr × Obj} {R : List (Addr × Obj)} (h : p ∈ R) : p ∈ a :: b :: c :: d :: e :: f :: g :: R := .tail _ (.tail _ (.tail _ (.tail _ (.tail _ (.tail _ (.tail _ h))))))
theorem news_pen {h₀ h : Heap} {L : Addr} {a b c d e f g x : Addr × Obj} {l : List (Addr × Obj)} (N : News h₀ L h (a :: b :: c :: d :: e :: f :: g :: x :: l)) : News h₀ L h (x :: a :: b :: c :: d :: e :: f :: g :: l) := cb_drop N fun p hp => by
  simp only [List.mem_cons] at hp ⊢
  rcases hp with h | h | h | h | h | h | h | h | h <;> simp [h]
section
local macro_rules | `(tactic| walk_at "M strs") => `(tactic| first | exact strs_cons All2.nil | exact strs_cons (strs_cons All2.nil) | exact strs_cons (strs_cons (strs_cons All2.nil)) | assumption)
local macro_rules | `(tactic| walk_at "M sitem") => `(tactic| (k_here; (with_reducible show wpAny _ _ (subscriptTail _ _ (Value.ref _) (Value.int _ _)) _ _ _); k_dflt (refine' strs_item ?N ?m ?i ?h0 ?h1 ?h2 ?_; (case N => k_asm); (case m => k_mem); (case i => walk_at "M strs"); (case h0 => assumption); (case h1 => first | assumption | exact lt_sub0 (by assumption) | exact lt_sub1 (by assumption) | exact lt_lit (by assumption) | omega); (case h2 => first | assumption | exact Nat.le_of_ble_eq_true rfl | omega); k_whole); intro nm' tn' hnm'))
local macro_rules | `(tactic| walk_at "M widths") => `(tactic| (k_here; (with_reducible show wpAny _ _ (subscriptTail _ _ (Value.ref _) (Value.int _ _)) _ _ _); k_dflt (refine' widths_item ?N ?m ?h0 ?h1 ?_; (case N => k_asm); (case m => k_mem); (case h0 => assumption); (case h1 => assumption); k_whole); intro wd' twd' hw1' hw2'))
local macro_rules | `(tactic| walk_at "M sects") => `(tactic| (k_here; (with_reducible show wpAny _ _ (subscriptTail _ _ (Value.ref _) (Value.str _ _)) _ _ _); k_dflt (refine' sects_item ?N ?hp ?hd ?hS ?hn ?hk ?hL ?_ ?hs; (case N => k_asm); (case hp => k_mem); (case hd => assumption); (case hS => assumption); (case hn => assumption); (case hL => assumption); (case hk => exact mem_keys (by assumption) (by assumption)); (case hs => exact fun hv q => kda_item (knd := PySem.strKind _ _) (by k_asm) (by k_mem) (by assumption) (strKind_is _ _ _ _) hv q); k_whole); intro bb' tb' hbb' hbl'))
set_option maxHeartbeats 80000000 in
theorem object_ok {w : World} {A : Around} {base h₀ : Heap} {l : List Env} {L : Addr} {m : Str → Option Value} {s : Shared} {Q E : Value → Shared → Prop} {rest : List (Addr × Obj)} {pen cells : Addr} {pn cap : Nat} {vs : List Value} {ns : List Int} {t : Tok}
    (H : Here 6 w A base l h₀ L m s.heap ((pen, PySem.W.listOf #[.ref cells, .int 0 t] pn) :: rest))
    (hr : ∀ p ∈ rest, p.1 ≠ pen) (hc : (cells, PySem.W.listOf vs.toArray cap) ∈ rest) (hi : IntsAre vs ns) (hl : ns.length ≤ 50)
    (ret : ∀ T d Y Rr R secs syms rels a' ta h' tk', Fr h₀ L h' m → News h₀ L h' ((pen, PySem.W.listOf #[.ref cells, .int a' ta] pn) :: R) → (∀ p ∈ R, p.1 ≠ pen) → (∀ p ∈ rest, p ∈ R) → ObjMade w R T d Y Rr secs syms rels → 0 ≤ a' → a' ≤ 400 → Q (.ref T) { s with heap := h', toks := tk' }) :
    wpAny (model PySem.Challenge.pw_nn0048_01 w) A (call (.ref 237) [.ref pen]) Q E s := out_of (by exact trivial : Hold (by
  obtain ⟨e, el, B, F, X, N, T, hk, hd, hu⟩ := H
  subst e el
  refine wpAny_call ?_
  k_dflt ((refine' code_defC ?k1 ?k2 ?k3 ?k4 ?k5 ?kA ?kF ?kK ?k6 ?k7 ?k8 ?k9 ?kB ?kD ?_ ?c2 ?c3 ?c4; (case kA => exact rfl); (case kF => exact rfl); (case kK => assumption); (case k1 => k_asm); (case k2 => k_asm); (case k3 => k_asm); (case k4 => k_asm); (case k5 => k_asm); (case k6 => k_is); (case k7 => k_is); (case k8 => ktr_room); (case k9 => exact BindsTo.of_eq rfl); (case kB => exact rfl); (case kD => decide +kernel); (case c2 => exact rfl); (case c3 => exact rfl); (case c4 => exact rfl); k_whole; intro g' L' h' tk' cells' FG' F' N' Y' B' X' T' l1; (try k_lt l1); k_cells Y'; (try simp only [List.cons_append, List.nil_append] at N')))
  ((try ((show let Q' := _; let E' := _; wpAny _ _ _ Q' E' _); intro Q' E')); repeat' (first | (k_unfold; (try dsimp only)) | ((with_reducible show wpAny _ _ (exec _ _) _ _ _); first | ((with_reducible show wpAny _ _ (exec (PySem.Stmt.For _ _ _ _ _) _) _ _ _); (k_here; (rename Fr _ _ _ _ => lF'); (with_unfolding_all refine' For_invVF lF' (by (exact rfl)) (by (exact rfl)) ?_; k_whole)))) | ((with_reducible show wpAny _ _ (subscriptTail _ _ _ _) _ _ _); first | ((with_reducible show wpAny _ _ (subscriptTail (PySem.Expr.Name _ _) (PySem.Expr.Slice _ _ _ _) (Value.ref _) (Value.ref _)) _ _ _); (k_here; (with_reducible show wpAny _ _ (subscriptTail _ (PySem.Expr.Slice _ _ none _) (Value.ref _) (Value.ref _)) _ _ _); k_dflt (refine' names_slice (by (k_asm)) (by (k_asm)) (by (k_mem)) (by (assumption)) (by (assumption)) ?_ (by (with_unfolding_all rfl)) (by (intro _; with_unfolding_all rfl)); k_whole); intro zs' k' D' h' hzs' hk1' F' N' l1')) | ((with_reducible show wpAny _ _ (subscriptTail (PySem.Expr.Name _ _) (PySem.Expr.Constant _ _ _) (Value.ref _) (Value.int _ _)) _ _ _); (k_here; k_dflt (refine' tup3_0 (by (k_asm)) (by (k_mem)) ?_))) | ((with_reducible show wpAny _ _ (subscriptTail (PySem.Expr.Name _ _) (PySem.Expr.Name _ _) (Value.ref _) (Value.str _ _)) _ _ _); walk_at "M sects") | ((with_reducible show wpAny _ _ (subscriptTail (PySem.Expr.List _ _) (PySem.Expr.Call _ _ _ _) (Value.ref _) (Value.int _ _)) _ _ _); first | walk_at "M sitem" | walk_at "M widths") | ((with_reducible show wpAny _ _ (subscriptTail (PySem.Expr.BinOp _ _ _ _) (PySem.Expr.Call _ _ _ _) (Value.ref _) (Value.int _ _)) _ _ _); walk_at "M sitem") | ((with_reducible show wpAny _ _ (subscriptTail (PySem.Expr.Name _ _) (PySem.Expr.Call _ _ _ _) (Value.ref _) (Value.int _ _)) _ _ _); walk_at "M sitem")) | ((with_reducible show wpAny _ _ (call _ _) _ _ _); first | ((k_here; (with_reducible show wpAny _ _ (call (Value.ref 225) [Value.ref _, Value.int _ _]) _ _ _); k_dflt (refine' draw_u (by (walk_at "M here")) (by (intro t1; k_upd)) (by (k_mem)) (by (k_asm)) (by (first | assumption | omega)) (by (((repeat' (refine nn1 ?_)); first | assumption | omega))) (by ((refine up0 ?_; (repeat' (refine up1 ?_)); first | exact cap0 (by assumption) | omega))) (by (first | decide | assumption | omega)) ?_; k_whole); intro v' t1' t2' h' tk' hv1' hv2' F' N')) | ((with_reducible show wpAny _ _ (call (Value.type "range") _) _ _ _); (k_here; k_dflt (refine' range1 (by (k_asm)) (by (k_asm)) ?_; k_whole); intro r' t1' t2' t3' h' tk' R' F' N')) | ((with_reducible show wpAny _ _ (call (Value.type "bytes") _) _ _ _); walk_at "M bytes") | ((with_reducible show wpAny _ _ (call (Value.builtin "len") _) _ _ _); (k_here; (with_reducible show wpAny _ _ (call (Value.builtin "len") [Value.ref _]) _ _ _); k_dflt (refine' strs_len (by (k_asm)) (by (k_mem)) (by (omega)) ?_))) | ((with_reducible show wpAny _ _ (call (Value.type "str") _) _ _ _); (k_here; (with_reducible refine str_small (by (omega)) ?_))) | ((k_here; (with_reducible show wpAny _ _ (call (Value.ref 232) [Value.ref _, Value.int _ _]) _ _ _); k_dflt (refine' worth_u (by (walk_at "M here")) (by (intro t1; k_upd)) (by (k_mem)) (by (k_asm)) (by (first | assumption | omega)) (by (((repeat' (refine nn1 ?_)); first | assumption | omega))) (by ((refine up0' ?_; (repeat' (refine up1 ?_)); first | exact cap0 (by assumption) | omega))) (by (omega)) (by (omega)) ?_; k_whole); intro v' t1' t2' h' tk' F' N')) | ((with_reducible show wpAny _ _ (call (Value.builtin "len") _) _ _ _); (k_here; (with_reducible show wpAny _ _ (call (Value.builtin "len") [Value.bytes _ _]) _ _ _); (refine KBw.len_K rfl (by omega) ?_))) | ((with_reducible show wpAny _ _ (call (Value.builtin "dict.get") _) _ _ _); (k_here; k_dflt (refine' ends_get (by (k_asm)) (by (k_mem)) (by (assumption)) (by (assumption)) (by (assumption)) ?_; k_whole); intro e' te' he'))) | ((with_reducible show wpAny _ _ (eval _ _) _ _ _); first | ((with_reducible show wpAny _ _ (eval (PySem.Expr.ListComp (PySem.Expr.Call _ _ _ _) _ _ _) _) _ _ _); (k_here; (rename Fr _ _ _ _ => lF'); (refine' ListComp_ownF lF' (by (exact rfl)) (by (decide)) (by (exact rfl)) (by (decide)) (by (exact rfl)) (by (intro _; exact rfl)) ?_; k_whole))) | ((with_reducible show wpAny _ _ (eval (PySem.Expr.ListComp (PySem.Expr.Subscript _ _ _) _ _ _) _) _ _ _); (k_here; (rename Fr _ _ _ _ => lF'); (refine' ListComp_ownF lF' (by (exact rfl)) (by (decide)) (by (exact rfl)) (by (decide)) (by (exact rfl)) (by (intro _; exact rfl)) ?_; k_whole))) | ((with_reducible show wpAny _ _ (eval (PySem.Expr.Name _ _) _) _ _ _); (refine name_comp (by assumption) (by assumption) ?_))) | ((with_reducible show wpAny _ _ (setItem _ _ _) _ _ _); first | ((with_reducible show wpAny _ _ (setItem (Value.ref _) (Value.str _ _) (Value.bytes _ _)) _ _ _); (k_here; k_dflt (refine' kda_set (knd := PySem.strKind _ _) (by (k_asm)) (by (k_asm)) (by (k_updF)) (by (assumption)) (strKind_is _ _ _ _) (by (assumption)) ?_); intro h' o' F' N' hd'; (try dsimp only at N'))) | ((with_reducible show wpAny _ _ (setItem (Value.ref _) (Value.str _ _) (Value.int _ _)) _ _ _); (k_here; k_dflt (refine' kda_set (knd := PySem.strKind _ _) (by (k_asm)) (by (k_asm)) (by (k_updF)) (by (assumption)) (strKind_is _ _ _ _) (by ((rw [sizeLine_eq]; omega))) ?_); intro h' o' F' N' hd'; (try dsimp only at N')))) | ((with_reducible show wpAny _ _ (getMethod _ _ _) _ _ _); first | ((k_here; (with_reducible show wpAny _ _ (getMethod (Value.ref _) (Str.ofString "get") _) _ _ _); k_dflt (refine' kdg_method (knd := PySem.strKind _ _) (by (k_asm)) (by (k_mem)) (by (assumption)) ?_)))) | ((with_reducible show wpAny _ _ (newTuple _) _ _ _); first | ((with_reducible show wpAny _ _ (newTuple _) _ _ _); (k_here; k_dflt (refine' kup_newTuple (by (k_asm)) (by (k_asm)) ?_ (by (size_fits)); k_whole); intro D' h' F' N' l1'; (try k_lt l1')))) | ((with_reducible show wpAny _ _ (binaryOp _ _ _) _ _ _); first | ((with_reducible show wpAny _ _ (binaryOp Operator.Add (Value.ref _) (Value.ref _)) _ _ _); (k_here; k_dflt (refine' strs_add (by (k_asm)) (by (k_asm)) (by (k_mem)) (by (k_mem)) (by (walk_at "M strs")) (by (walk_at "M strs")) (by ((try simp only [List.length_cons, List.length_nil]); omega)) ?_; k_whole); intro us' D' h' hus' hul' hum' F' N' l1'; (try simp only [List.length_cons, List.length_nil] at hul'); (try k_lt l1')))) | ((fail_if_success (with_reducible show wpAny _ _ (pyIter _) _ _ _)); walk1) | (dsimp only; (fail_if_success (with_reducible show wpAny _ _ (pyIter _) _ _ _)); walk1) | (leave1; walk_say "STEP leave1"; try dsimp only) | fail "no step"))
  refine Classical.byContradiction fun hG => ?_
  refine with_names (a := [Str.ofString ".text", Str.ofString ".data", Str.ofString "x"]) (by assumption) (by assumption) fun names en hzs hnm => ?_
  subst en
  refine hG ?_
  clear hG
  replace hnm : Names3 names := ⟨hnm⟩
  rename (∃ k : Nat, 1 ≤ k ∧ k ≤ 3 ∧ _ = _) => hz0
  clear hz0
  refine Classical.byContradiction fun hG => ?_
  refine with_led (by assumption) fun d Dn zs e1 e2 e3 => ?_
  subst e1 e2 e3
  refine hG ?_
  clear hG
  rename Obj.IsDictOf (PySem.strKind _ _) _ [] => hfd
  rename (_ == sysModules) = false => hlo
  rename (d > Dn ∧ _) => hl1
  have hrd := allLt_ne hl1.2.2.2.2
  have lt1 := hl1.1
  have lt2 := hl1.2.2.1
  have lt3 := hl1.2.2.2.1
  have lt4 := (by assumption : ∀ p ∈ _ :: _ :: _ :: rest, p.1 < Dn) _ (.tail _ (.head _))
  have lt5 := (by assumption : ∀ p ∈ _ :: _ :: _ :: rest, p.1 < Dn) _ (.tail _ (.tail _ (.head _)))
  have lt6 := (by assumption : pen < _ ∧ AllLt _ rest).1
  replace lt1 := ltN lt1
  replace lt2 := ltN lt2
  replace lt3 := ltN lt3
  replace lt4 := ltN lt4
  replace lt5 := ltN lt5
  replace lt6 := ltN lt6
  dsimp only at lt4 lt5
  refine forList ?eL (objJ1 w names d Dn _ pen cells _ zs pn rest) rfl (by assumption) (news_drop2 (by assumption)) (.tail _ (.head _)) ?hJ ⟨rfl, rfl, _, _, [], _, _, rfl, hfd, .nil, by simp, (fun _ z => nomatch z), by omega, by omega⟩ ?turn ?done
  case eL => rfl
  case hJ => rintro i m n ⟨_, _, _, _, _, _, _, rfl, -⟩; exact .tail _ (.head _)
  case turn =>
    intro i v m₁ news₁ h tk own hi hJ0' off F1 N1
    refine Classical.byContradiction fun hG => ?_
    obtain ⟨n1, n2, o, kS, secs, a, ta, rfl, hod, hsecs, hkeys, hlen, ha0, ha1⟩ := hJ0'
    rw [List.getElem?_toArray] at hi
    obtain ⟨nm, hnm2, tn, rfl⟩ := hzs.get hi
    refine hG ?_
    clear hG
    (try have hcap : a ≤ 1000 := by omega)
    (try have hnn : 0 ≤ a := by omega)
    have o1 := off_cons off
    have o4 := off_cons (off_tail (off_tail (off_tail off)))
    dsimp only at o1 o4
    have hrp := all_app hr o4
    have hrd' := all_app hrd o1
    have hc' := List.mem_append_left own hc
    have hi3 : i < 3 := by
      have := (List.getElem?_eq_some_iff.mp hnm2).1
      obtain ⟨k, k1, k2, rfl⟩ := hnm
      rw [List.length_take] at this
      omega
    have hcap : a ≤ 1000 := by omega
    simp only [List.cons_append] at N1
    replace F1 := pinsT F1 (.cons n1 (.cons n2 .nil))
    ((try ((show let Q' := _; let E' := _; wpAny _ _ _ Q' E' _); intro Q' E')); repeat' (first | (k_unfold; (try dsimp only)) | ((with_reducible show wpAny _ _ (exec _ _) _ _ _); first | ((with_reducible show wpAny _ _ (exec (PySem.Stmt.For _ _ _ _ _) _) _ _ _); (k_here; (rename Fr _ _ _ _ => lF'); (with_unfolding_all refine' For_invVF lF' (by (exact rfl)) (by (exact rfl)) ?_; k_whole)))) | ((with_reducible show wpAny _ _ (subscriptTail _ _ _ _) _ _ _); first | ((with_reducible show wpAny _ _ (subscriptTail (PySem.Expr.Name _ _) (PySem.Expr.Slice _ _ _ _) (Value.ref _) (Value.ref _)) _ _ _); (k_here; (with_reducible show wpAny _ _ (subscriptTail _ (PySem.Expr.Slice _ _ none _) (Value.ref _) (Value.ref _)) _ _ _); k_dflt (refine' names_slice (by (k_asm)) (by (k_asm)) (by (k_mem)) (by (assumption)) (by (assumption)) ?_ (by (with_unfolding_all rfl)) (by (intro _; with_unfolding_all rfl)); k_whole); intro zs' k' D' h' hzs' hk1' F' N' l1')) | ((with_reducible show wpAny _ _ (subscriptTail (PySem.Expr.Name _ _) (PySem.Expr.Constant _ _ _) (Value.ref _) (Value.int _ _)) _ _ _); (k_here; k_dflt (refine' tup3_0 (by (k_asm)) (by (k_mem)) ?_))) | ((with_reducible show wpAny _ _ (subscriptTail (PySem.Expr.Name _ _) (PySem.Expr.Name _ _) (Value.ref _) (Value.str _ _)) _ _ _); walk_at "M sects") | ((with_reducible show wpAny _ _ (subscriptTail (PySem.Expr.List _ _) (PySem.Expr.Call _ _ _ _) (Value.ref _) (Value.int _ _)) _ _ _); first | walk_at "M sitem" | walk_at "M widths") | ((with_reducible show wpAny _ _ (subscriptTail (PySem.Expr.BinOp _ _ _ _) (PySem.Expr.Call _ _ _ _) (Value.ref _) (Value.int _ _)) _ _ _); walk_at "M sitem") | ((with_reducible show wpAny _ _ (subscriptTail (PySem.Expr.Name _ _) (PySem.Expr.Call _ _ _ _) (Value.ref _) (Value.int _ _)) _ _ _); walk_at "M sitem")) | ((with_reducible show wpAny _ _ (call _ _) _ _ _); first | ((k_here; (with_reducible show wpAny _ _ (call (Value.ref 225) [Value.ref _, Value.int _ _]) _ _ _); k_dflt (refine' draw_u (by (walk_at "M here")) (by (intro t1; k_upd)) (by (k_mem)) (by (k_asm)) (by (first | assumption | omega)) (by (((repeat' (refine nn1 ?_)); first | assumption | omega))) (by ((refine up0 ?_; (repeat' (refine up1 ?_)); first | exact cap0 (by assumption) | omega))) (by (first | decide | assumption | omega)) ?_; k_whole); intro v' t1' t2' h' tk' hv1' hv2' F' N')) | ((with_reducible show wpAny _ _ (call (Value.type "range") _) _ _ _); (k_here; k_dflt (refine' range1 (by (k_asm)) (by (k_asm)) ?_; k_whole); intro r' t1' t2' t3' h' tk' R' F' N')) | ((with_reducible show wpAny _ _ (call (Value.type "bytes") _) _ _ _); walk_at "M bytes") | ((with_reducible show wpAny _ _ (call (Value.builtin "len") _) _ _ _); (k_here; (with_reducible show wpAny _ _ (call (Value.builtin "len") [Value.ref _]) _ _ _); k_dflt (refine' strs_len (by (k_asm)) (by (k_mem)) (by (omega)) ?_))) | ((with_reducible show wpAny _ _ (call (Value.type "str") _) _ _ _); (k_here; (with_reducible refine str_small (by (omega)) ?_))) | ((k_here; (with_reducible show wpAny _ _ (call (Value.ref 232) [Value.ref _, Value.int _ _]) _ _ _); k_dflt (refine' worth_u (by (walk_at "M here")) (by (intro t1; k_upd)) (by (k_mem)) (by (k_asm)) (by (first | assumption | omega)) (by (((repeat' (refine nn1 ?_)); first | assumption | omega))) (by ((refine up0' ?_; (repeat' (refine up1 ?_)); first | exact cap0 (by assumption) | omega))) (by (omega)) (by (omega)) ?_; k_whole); intro v' t1' t2' h' tk' F' N')) | ((with_reducible show wpAny _ _ (call (Value.builtin "len") _) _ _ _); (k_here; (with_reducible show wpAny _ _ (call (Value.builtin "len") [Value.bytes _ _]) _ _ _); (refine KBw.len_K rfl (by omega) ?_))) | ((with_reducible show wpAny _ _ (call (Value.builtin "dict.get") _) _ _ _); (k_here; k_dflt (refine' ends_get (by (k_asm)) (by (k_mem)) (by (assumption)) (by (assumption)) (by (assumption)) ?_; k_whole); intro e' te' he'))) | ((with_reducible show wpAny _ _ (eval _ _) _ _ _); first | ((with_reducible show wpAny _ _ (eval (PySem.Expr.ListComp (PySem.Expr.Call _ _ _ _) _ _ _) _) _ _ _); (k_here; (rename Fr _ _ _ _ => lF'); (refine' ListComp_ownF lF' (by (exact rfl)) (by (decide)) (by (exact rfl)) (by (decide)) (by (exact rfl)) (by (intro _; exact rfl)) ?_; k_whole))) | ((with_reducible show wpAny _ _ (eval (PySem.Expr.ListComp (PySem.Expr.Subscript _ _ _) _ _ _) _) _ _ _); (k_here; (rename Fr _ _ _ _ => lF'); (refine' ListComp_ownF lF' (by (exact rfl)) (by (decide)) (by (exact rfl)) (by (decide)) (by (exact rfl)) (by (intro _; exact rfl)) ?_; k_whole))) | ((with_reducible show wpAny _ _ (eval (PySem.Expr.Name _ _) _) _ _ _); (refine name_comp (by assumption) (by assumption) ?_))) | ((with_reducible show wpAny _ _ (setItem _ _ _) _ _ _); first | ((with_reducible show wpAny _ _ (setItem (Value.ref _) (Value.str _ _) (Value.bytes _ _)) _ _ _); (k_here; k_dflt (refine' kda_set (knd := PySem.strKind _ _) (by (k_asm)) (by (k_asm)) (by (k_updF)) (by (assumption)) (strKind_is _ _ _ _) (by (assumption)) ?_); intro h' o' F' N' hd'; (try dsimp only at N'))) | ((with_reducible show wpAny _ _ (setItem (Value.ref _) (Value.str _ _) (Value.int _ _)) _ _ _); (k_here; k_dflt (refine' kda_set (knd := PySem.strKind _ _) (by (k_asm)) (by (k_asm)) (by (k_updF)) (by (assumption)) (strKind_is _ _ _ _) (by ((rw [sizeLine_eq]; omega))) ?_); intro h' o' F' N' hd'; (try dsimp only at N')))) | ((with_reducible show wpAny _ _ (getMethod _ _ _) _ _ _); first | ((k_here; (with_reducible show wpAny _ _ (getMethod (Value.ref _) (Str.ofString "get") _) _ _ _); k_dflt (refine' kdg_method (knd := PySem.strKind _ _) (by (k_asm)) (by (k_mem)) (by (assumption)) ?_)))) | ((with_reducible show wpAny _ _ (newTuple _) _ _ _); first | ((with_reducible show wpAny _ _ (newTuple _) _ _ _); (k_here; k_dflt (refine' kup_newTuple (by (k_asm)) (by (k_asm)) ?_ (by (size_fits)); k_whole); intro D' h' F' N' l1'; (try k_lt l1')))) | ((with_reducible show wpAny _ _ (binaryOp _ _ _) _ _ _); first | ((with_reducible show wpAny _ _ (binaryOp Operator.Add (Value.ref _) (Value.ref _)) _ _ _); (k_here; k_dflt (refine' strs_add (by (k_asm)) (by (k_asm)) (by (k_mem)) (by (k_mem)) (by (walk_at "M strs")) (by (walk_at "M strs")) (by ((try simp only [List.length_cons, List.length_nil]); omega)) ?_; k_whole); intro us' D' h' hus' hul' hum' F' N' l1'; (try simp only [List.length_cons, List.length_nil] at hul'); (try k_lt l1')))) | ((fail_if_success (with_reducible show wpAny _ _ (pyIter _) _ _ _)); walk1) | (dsimp only; (fail_if_success (with_reducible show wpAny _ _ (pyIter _) _ _ _)); walk1) | (leave1; walk_say "STEP leave1"; try dsimp only) | fail "no step"))
    rename IsRange _ _ _ _ _ _ _ _ => Rg
    refine compRangeV (by assumption) (by omega) (objC1 d Dn _ pen cells o _ zs pn (a + 1) (rest ++ own)) rfl (by assumption) (by assumption) Rg ⟨_, _, [], rfl, .nil, rfl, (fun _ z => nomatch z), by omega, by omega⟩ ?turnC ?finC
    case turnC =>
      intro i2 t2 ys news₂ h2 tk2 own2 C mc E' hi2 hJ0' off2 nsO hmc F2 N2
      refine Classical.byContradiction fun hG => ?_
      obtain ⟨a2, ta2, ks, rfl, hys, hkl, hkr, ha2, ha3⟩ := hJ0'
      refine hG ?_
      clear hG
      (try have hcap : a2 ≤ 1000 := by omega)
      (try have hnn : 0 ≤ a2 := by omega)
      have o4 := off_cons (off_tail (off_tail (off_tail off2)))
      dsimp only at o4
      have hrp2 := all_app hrp o4
      have hc2 := List.mem_append_left own2 hc'
      simp only [List.cons_append] at N2
      ((try ((show let Q' := _; let E' := _; wpAny _ _ _ Q' E' _); intro Q' E')); repeat' (first | (k_unfold; (try dsimp only)) | ((with_reducible show wpAny _ _ (exec _ _) _ _ _); first | ((with_reducible show wpAny _ _ (exec (PySem.Stmt.For _ _ _ _ _) _) _ _ _); (k_here; (rename Fr _ _ _ _ => lF'); (with_unfolding_all refine' For_invVF lF' (by (exact rfl)) (by (exact rfl)) ?_; k_whole)))) | ((with_reducible show wpAny _ _ (subscriptTail _ _ _ _) _ _ _); first | ((with_reducible show wpAny _ _ (subscriptTail (PySem.Expr.Name _ _) (PySem.Expr.Slice _ _ _ _) (Value.ref _) (Value.ref _)) _ _ _); (k_here; (with_reducible show wpAny _ _ (subscriptTail _ (PySem.Expr.Slice _ _ none _) (Value.ref _) (Value.ref _)) _ _ _); k_dflt (refine' names_slice (by (k_asm)) (by (k_asm)) (by (k_mem)) (by (assumption)) (by (assumption)) ?_ (by (with_unfolding_all rfl)) (by (intro _; with_unfolding_all rfl)); k_whole); intro zs' k' D' h' hzs' hk1' F' N' l1')) | ((with_reducible show wpAny _ _ (subscriptTail (PySem.Expr.Name _ _) (PySem.Expr.Constant _ _ _) (Value.ref _) (Value.int _ _)) _ _ _); (k_here; k_dflt (refine' tup3_0 (by (k_asm)) (by (k_mem)) ?_))) | ((with_reducible show wpAny _ _ (subscriptTail (PySem.Expr.Name _ _) (PySem.Expr.Name _ _) (Value.ref _) (Value.str _ _)) _ _ _); walk_at "M sects") | ((with_reducible show wpAny _ _ (subscriptTail (PySem.Expr.List _ _) (PySem.Expr.Call _ _ _ _) (Value.ref _) (Value.int _ _)) _ _ _); first | walk_at "M sitem" | walk_at "M widths") | ((with_reducible show wpAny _ _ (subscriptTail (PySem.Expr.BinOp _ _ _ _) (PySem.Expr.Call _ _ _ _) (Value.ref _) (Value.int _ _)) _ _ _); walk_at "M sitem") | ((with_reducible show wpAny _ _ (subscriptTail (PySem.Expr.Name _ _) (PySem.Expr.Call _ _ _ _) (Value.ref _) (Value.int _ _)) _ _ _); walk_at "M sitem")) | ((with_reducible show wpAny _ _ (call _ _) _ _ _); first | ((k_here; (with_reducible show wpAny _ _ (call (Value.ref 225) [Value.ref _, Value.int _ _]) _ _ _); k_dflt (refine' draw_u (by (walk_at "M here")) (by (intro t1; k_upd)) (by (k_mem)) (by (k_asm)) (by (first | assumption | omega)) (by (((repeat' (refine nn1 ?_)); first | assumption | omega))) (by ((refine up0 ?_; (repeat' (refine up1 ?_)); first | exact cap0 (by assumption) | omega))) (by (first | decide | assumption | omega)) ?_; k_whole); intro v' t1' t2' h' tk' hv1' hv2' F' N')) | ((with_reducible show wpAny _ _ (call (Value.type "range") _) _ _ _); (k_here; k_dflt (refine' range1 (by (k_asm)) (by (k_asm)) ?_; k_whole); intro r' t1' t2' t3' h' tk' R' F' N')) | ((with_reducible show wpAny _ _ (call (Value.type "bytes") _) _ _ _); walk_at "M bytes") | ((with_reducible show wpAny _ _ (call (Value.builtin "len") _) _ _ _); (k_here; (with_reducible show wpAny _ _ (call (Value.builtin "len") [Value.ref _]) _ _ _); k_dflt (refine' strs_len (by (k_asm)) (by (k_mem)) (by (omega)) ?_))) | ((with_reducible show wpAny _ _ (call (Value.type "str") _) _ _ _); (k_here; (with_reducible refine str_small (by (omega)) ?_))) | ((k_here; (with_reducible show wpAny _ _ (call (Value.ref 232) [Value.ref _, Value.int _ _]) _ _ _); k_dflt (refine' worth_u (by (walk_at "M here")) (by (intro t1; k_upd)) (by (k_mem)) (by (k_asm)) (by (first | assumption | omega)) (by (((repeat' (refine nn1 ?_)); first | assumption | omega))) (by ((refine up0' ?_; (repeat' (refine up1 ?_)); first | exact cap0 (by assumption) | omega))) (by (omega)) (by (omega)) ?_; k_whole); intro v' t1' t2' h' tk' F' N')) | ((with_reducible show wpAny _ _ (call (Value.builtin "len") _) _ _ _); (k_here; (with_reducible show wpAny _ _ (call (Value.builtin "len") [Value.bytes _ _]) _ _ _); (refine KBw.len_K rfl (by omega) ?_))) | ((with_reducible show wpAny _ _ (call (Value.builtin "dict.get") _) _ _ _); (k_here; k_dflt (refine' ends_get (by (k_asm)) (by (k_mem)) (by (assumption)) (by (assumption)) (by (assumption)) ?_; k_whole); intro e' te' he'))) | ((with_reducible show wpAny _ _ (eval _ _) _ _ _); first | ((with_reducible show wpAny _ _ (eval (PySem.Expr.ListComp (PySem.Expr.Call _ _ _ _) _ _ _) _) _ _ _); (k_here; (rename Fr _ _ _ _ => lF'); (refine' ListComp_ownF lF' (by (exact rfl)) (by (decide)) (by (exact rfl)) (by (decide)) (by (exact rfl)) (by (intro _; exact rfl)) ?_; k_whole))) | ((with_reducible show wpAny _ _ (eval (PySem.Expr.ListComp (PySem.Expr.Subscript _ _ _) _ _ _) _) _ _ _); (k_here; (rename Fr _ _ _ _ => lF'); (refine' ListComp_ownF lF' (by (exact rfl)) (by (decide)) (by (exact rfl)) (by (decide)) (by (exact rfl)) (by (intro _; exact rfl)) ?_; k_whole))) | ((with_reducible show wpAny _ _ (eval (PySem.Expr.Name _ _) _) _ _ _); (refine name_comp (by assumption) (by assumption) ?_))) | ((with_reducible show wpAny _ _ (setItem _ _ _) _ _ _); first | ((with_reducible show wpAny _ _ (setItem (Value.ref _) (Value.str _ _) (Value.bytes _ _)) _ _ _); (k_here; k_dflt (refine' kda_set (knd := PySem.strKind _ _) (by (k_asm)) (by (k_asm)) (by (k_updF)) (by (assumption)) (strKind_is _ _ _ _) (by (assumption)) ?_); intro h' o' F' N' hd'; (try dsimp only at N'))) | ((with_reducible show wpAny _ _ (setItem (Value.ref _) (Value.str _ _) (Value.int _ _)) _ _ _); (k_here; k_dflt (refine' kda_set (knd := PySem.strKind _ _) (by (k_asm)) (by (k_asm)) (by (k_updF)) (by (assumption)) (strKind_is _ _ _ _) (by ((rw [sizeLine_eq]; omega))) ?_); intro h' o' F' N' hd'; (try dsimp only at N')))) | ((with_reducible show wpAny _ _ (getMethod _ _ _) _ _ _); first | ((k_here; (with_reducible show wpAny _ _ (getMethod (Value.ref _) (Str.ofString "get") _) _ _ _); k_dflt (refine' kdg_method (knd := PySem.strKind _ _) (by (k_asm)) (by (k_mem)) (by (assumption)) ?_)))) | ((with_reducible show wpAny _ _ (newTuple _) _ _ _); first | ((with_reducible show wpAny _ _ (newTuple _) _ _ _); (k_here; k_dflt (refine' kup_newTuple (by (k_asm)) (by (k_asm)) ?_ (by (size_fits)); k_whole); intro D' h' F' N' l1'; (try k_lt l1')))) | ((with_reducible show wpAny _ _ (binaryOp _ _ _) _ _ _); first | ((with_reducible show wpAny _ _ (binaryOp Operator.Add (Value.ref _) (Value.ref _)) _ _ _); (k_here; k_dflt (refine' strs_add (by (k_asm)) (by (k_asm)) (by (k_mem)) (by (k_mem)) (by (walk_at "M strs")) (by (walk_at "M strs")) (by ((try simp only [List.length_cons, List.length_nil]); omega)) ?_; k_whole); intro us' D' h' hus' hul' hum' F' N' l1'; (try simp only [List.length_cons, List.length_nil] at hul'); (try k_lt l1')))) | ((fail_if_success (with_reducible show wpAny _ _ (pyIter _) _ _ _)); walk1) | (dsimp only; (fail_if_success (with_reducible show wpAny _ _ (pyIter _) _ _ _)); walk1) | (leave1; walk_say "STEP leave1"; try dsimp only) | fail "no step"))
      have NN := (by assumption : News _ _ _ ((d, _) :: (Dn, _) :: (_, _) :: (pen, _) :: ((rest ++ own) ++ own2)))
      exact comp_end (news' := (d, _) :: (Dn, _) :: (_, _) :: (pen, _) :: (rest ++ own)) (by assumption) NN rfl (off_keys off2 rfl) ⟨_, _, ks ++ [_], rfl, ints_snoc hys _ _, by simp [hkl], in_snoc hkr (by assumption) (by assumption), by omega, by omega⟩
    case finC =>
      intro D2 ys c2 news₂ h2 tk2 H2 hJ0' hlen2 F2 N2 hne2
      refine Classical.byContradiction fun hG => ?_
      obtain ⟨a2, ta2, ks, rfl, hys, hkl, hkr, ha2, ha3⟩ := hJ0'
      refine hG ?_
      clear hG
      (try have hcap : a2 ≤ 1000 := by omega)
      (try have hnn : 0 ≤ a2 := by omega)
      have hD2d := (hne2 (d, _) (.head _)).symm
      dsimp only at hD2d
      have hz : ks.length ≤ 16777216 := by omega
      have hnd : names.Nodup := by
        obtain ⟨k, k1, k2, rfl⟩ := hnm
        exact (List.take_sublist _ _).nodup (by decide)
      have hknew : nm ∉ secs.map (·.1) := by
        rw [hkeys]
        have := nodup_take (f := id) (by rw [List.map_id]; exact hnd) hnm2
        rwa [List.map_id] at this
      have hsz : kS.length ≤ sizeLine := by
        rw [hsecs.length, ← List.length_map (f := (·.1)), hkeys, List.length_take, sizeLine_eq]
        omega
      ((try ((show let Q' := _; let E' := _; wpAny _ _ _ Q' E' _); intro Q' E')); repeat' (first | (k_unfold; (try dsimp only)) | ((with_reducible show wpAny _ _ (exec _ _) _ _ _); first | ((with_reducible show wpAny _ _ (exec (PySem.Stmt.For _ _ _ _ _) _) _ _ _); (k_here; (rename Fr _ _ _ _ => lF'); (with_unfolding_all refine' For_invVF lF' (by (exact rfl)) (by (exact rfl)) ?_; k_whole)))) | ((with_reducible show wpAny _ _ (subscriptTail _ _ _ _) _ _ _); first | ((with_reducible show wpAny _ _ (subscriptTail (PySem.Expr.Name _ _) (PySem.Expr.Slice _ _ _ _) (Value.ref _) (Value.ref _)) _ _ _); (k_here; (with_reducible show wpAny _ _ (subscriptTail _ (PySem.Expr.Slice _ _ none _) (Value.ref _) (Value.ref _)) _ _ _); k_dflt (refine' names_slice (by (k_asm)) (by (k_asm)) (by (k_mem)) (by (assumption)) (by (assumption)) ?_ (by (with_unfolding_all rfl)) (by (intro _; with_unfolding_all rfl)); k_whole); intro zs' k' D' h' hzs' hk1' F' N' l1')) | ((with_reducible show wpAny _ _ (subscriptTail (PySem.Expr.Name _ _) (PySem.Expr.Constant _ _ _) (Value.ref _) (Value.int _ _)) _ _ _); (k_here; k_dflt (refine' tup3_0 (by (k_asm)) (by (k_mem)) ?_))) | ((with_reducible show wpAny _ _ (subscriptTail (PySem.Expr.Name _ _) (PySem.Expr.Name _ _) (Value.ref _) (Value.str _ _)) _ _ _); walk_at "M sects") | ((with_reducible show wpAny _ _ (subscriptTail (PySem.Expr.List _ _) (PySem.Expr.Call _ _ _ _) (Value.ref _) (Value.int _ _)) _ _ _); first | walk_at "M sitem" | walk_at "M widths") | ((with_reducible show wpAny _ _ (subscriptTail (PySem.Expr.BinOp _ _ _ _) (PySem.Expr.Call _ _ _ _) (Value.ref _) (Value.int _ _)) _ _ _); walk_at "M sitem") | ((with_reducible show wpAny _ _ (subscriptTail (PySem.Expr.Name _ _) (PySem.Expr.Call _ _ _ _) (Value.ref _) (Value.int _ _)) _ _ _); walk_at "M sitem")) | ((with_reducible show wpAny _ _ (call _ _) _ _ _); first | ((k_here; (with_reducible show wpAny _ _ (call (Value.ref 225) [Value.ref _, Value.int _ _]) _ _ _); k_dflt (refine' draw_u (by (walk_at "M here")) (by (intro t1; k_upd)) (by (k_mem)) (by (k_asm)) (by (first | assumption | omega)) (by (((repeat' (refine nn1 ?_)); first | assumption | omega))) (by ((refine up0 ?_; (repeat' (refine up1 ?_)); first | exact cap0 (by assumption) | omega))) (by (first | decide | assumption | omega)) ?_; k_whole); intro v' t1' t2' h' tk' hv1' hv2' F' N')) | ((with_reducible show wpAny _ _ (call (Value.type "range") _) _ _ _); (k_here; k_dflt (refine' range1 (by (k_asm)) (by (k_asm)) ?_; k_whole); intro r' t1' t2' t3' h' tk' R' F' N')) | ((with_reducible show wpAny _ _ (call (Value.type "bytes") _) _ _ _); walk_at "M bytes") | ((with_reducible show wpAny _ _ (call (Value.builtin "len") _) _ _ _); (k_here; (with_reducible show wpAny _ _ (call (Value.builtin "len") [Value.ref _]) _ _ _); k_dflt (refine' strs_len (by (k_asm)) (by (k_mem)) (by (omega)) ?_))) | ((with_reducible show wpAny _ _ (call (Value.type "str") _) _ _ _); (k_here; (with_reducible refine str_small (by (omega)) ?_))) | ((k_here; (with_reducible show wpAny _ _ (call (Value.ref 232) [Value.ref _, Value.int _ _]) _ _ _); k_dflt (refine' worth_u (by (walk_at "M here")) (by (intro t1; k_upd)) (by (k_mem)) (by (k_asm)) (by (first | assumption | omega)) (by (((repeat' (refine nn1 ?_)); first | assumption | omega))) (by ((refine up0' ?_; (repeat' (refine up1 ?_)); first | exact cap0 (by assumption) | omega))) (by (omega)) (by (omega)) ?_; k_whole); intro v' t1' t2' h' tk' F' N')) | ((with_reducible show wpAny _ _ (call (Value.builtin "len") _) _ _ _); (k_here; (with_reducible show wpAny _ _ (call (Value.builtin "len") [Value.bytes _ _]) _ _ _); (refine KBw.len_K rfl (by omega) ?_))) | ((with_reducible show wpAny _ _ (call (Value.builtin "dict.get") _) _ _ _); (k_here; k_dflt (refine' ends_get (by (k_asm)) (by (k_mem)) (by (assumption)) (by (assumption)) (by (assumption)) ?_; k_whole); intro e' te' he'))) | ((with_reducible show wpAny _ _ (eval _ _) _ _ _); first | ((with_reducible show wpAny _ _ (eval (PySem.Expr.ListComp (PySem.Expr.Call _ _ _ _) _ _ _) _) _ _ _); (k_here; (rename Fr _ _ _ _ => lF'); (refine' ListComp_ownF lF' (by (exact rfl)) (by (decide)) (by (exact rfl)) (by (decide)) (by (exact rfl)) (by (intro _; exact rfl)) ?_; k_whole))) | ((with_reducible show wpAny _ _ (eval (PySem.Expr.ListComp (PySem.Expr.Subscript _ _ _) _ _ _) _) _ _ _); (k_here; (rename Fr _ _ _ _ => lF'); (refine' ListComp_ownF lF' (by (exact rfl)) (by (decide)) (by (exact rfl)) (by (decide)) (by (exact rfl)) (by (intro _; exact rfl)) ?_; k_whole))) | ((with_reducible show wpAny _ _ (eval (PySem.Expr.Name _ _) _) _ _ _); (refine name_comp (by assumption) (by assumption) ?_))) | ((with_reducible show wpAny _ _ (setItem _ _ _) _ _ _); first | ((with_reducible show wpAny _ _ (setItem (Value.ref _) (Value.str _ _) (Value.bytes _ _)) _ _ _); (k_here; k_dflt (refine' kda_set (knd := PySem.strKind _ _) (by (k_asm)) (by (k_asm)) (by (k_updF)) (by (assumption)) (strKind_is _ _ _ _) (by (assumption)) ?_); intro h' o' F' N' hd'; (try dsimp only at N'))) | ((with_reducible show wpAny _ _ (setItem (Value.ref _) (Value.str _ _) (Value.int _ _)) _ _ _); (k_here; k_dflt (refine' kda_set (knd := PySem.strKind _ _) (by (k_asm)) (by (k_asm)) (by (k_updF)) (by (assumption)) (strKind_is _ _ _ _) (by ((rw [sizeLine_eq]; omega))) ?_); intro h' o' F' N' hd'; (try dsimp only at N')))) | ((with_reducible show wpAny _ _ (getMethod _ _ _) _ _ _); first | ((k_here; (with_reducible show wpAny _ _ (getMethod (Value.ref _) (Str.ofString "get") _) _ _ _); k_dflt (refine' kdg_method (knd := PySem.strKind _ _) (by (k_asm)) (by (k_mem)) (by (assumption)) ?_)))) | ((with_reducible show wpAny _ _ (newTuple _) _ _ _); first | ((with_reducible show wpAny _ _ (newTuple _) _ _ _); (k_here; k_dflt (refine' kup_newTuple (by (k_asm)) (by (k_asm)) ?_ (by (size_fits)); k_whole); intro D' h' F' N' l1'; (try k_lt l1')))) | ((with_reducible show wpAny _ _ (binaryOp _ _ _) _ _ _); first | ((with_reducible show wpAny _ _ (binaryOp Operator.Add (Value.ref _) (Value.ref _)) _ _ _); (k_here; k_dflt (refine' strs_add (by (k_asm)) (by (k_asm)) (by (k_mem)) (by (k_mem)) (by (walk_at "M strs")) (by (walk_at "M strs")) (by ((try simp only [List.length_cons, List.length_nil]); omega)) ?_; k_whole); intro us' D' h' hus' hul' hum' F' N' l1'; (try simp only [List.length_cons, List.length_nil] at hul'); (try k_lt l1')))) | ((fail_if_success (with_reducible show wpAny _ _ (pyIter _) _ _ _)); walk1) | (dsimp only; (fail_if_success (with_reducible show wpAny _ _ (pyIter _) _ _ _)); walk1) | (leave1; walk_say "STEP leave1"; try dsimp only) | fail "no step"))
      rename (Obj.IsDictOf _ _ (stored kS nm _)) => hod2
      rw [stored_new hsecs hknew] at hod2
      have NN := (by assumption : News _ _ _ ((D2, _) :: (d, _) :: (Dn, _) :: (_, _) :: (pen, _) :: (rest ++ own)))
      refine turn_end (news' := (d, _) :: (Dn, _) :: (_, _) :: (pen, _) :: rest) (by assumption) (news_tail NN) rfl (off_keys off rfl) ⟨by with_unfolding_all rfl, by with_unfolding_all rfl, _, _, secs ++ [(nm, ks)], _, _, rfl, hod2, hsecs.snoc ⟨rfl, _, _, rfl, KBa.ints_make hkr⟩, ?_, ?_, by omega, by omega⟩
      · rw [List.map_append, hkeys, List.take_succ, hnm2]; rfl
      · intro p hp
        rcases List.mem_append.mp hp with hp | hp
        · exact hlen p hp
        · rw [List.mem_singleton.mp hp]; dsimp only; omega
  case done =>
    intro m₁ news₁ h tk hJ0' F1 N1
    refine Classical.byContradiction fun hG => ?_
    obtain ⟨n1, n2, o, kS, secs, a, ta, rfl, hod, hsecs, hkeys, hlen, ha0, ha1⟩ := hJ0'
    refine hG ?_
    clear hG
    (try have hcap : a ≤ 1000 := by omega)
    (try have hnn : 0 ≤ a := by omega)
    rw [List.size_toArray, hzs.length, List.take_length] at hkeys
    have hz3 : zs.length ≤ 3 := by
      obtain ⟨k, k1, k2, rfl⟩ := hnm
      rw [hzs.length, List.length_take]; omega
    have hzn := hzs.length
    have hzk : zs.length ≤ 1000 := Nat.le_trans hz3 (by decide)
    have hz1 : 1 ≤ zs.length := by
      obtain ⟨k, k1, k2, rfl⟩ := hnm
      rw [hzn, List.length_take]; simp only [List.length_cons, List.length_nil]; omega
    rw [List.size_toArray] at ha1
    replace F1 := pins F1 (.cons n1 (.cons n2 .nil))
    ((try ((show let Q' := _; let E' := _; wpAny _ _ _ Q' E' _); intro Q' E')); repeat' (first | (k_unfold; (try dsimp only)) | ((with_reducible show wpAny _ _ (exec _ _) _ _ _); first | ((with_reducible show wpAny _ _ (exec (PySem.Stmt.For _ _ _ _ _) _) _ _ _); (k_here; (rename Fr _ _ _ _ => lF'); (with_unfolding_all refine' For_invVF lF' (by (exact rfl)) (by (exact rfl)) ?_; k_whole)))) | ((with_reducible show wpAny _ _ (subscriptTail _ _ _ _) _ _ _); first | ((with_reducible show wpAny _ _ (subscriptTail (PySem.Expr.Name _ _) (PySem.Expr.Slice _ _ _ _) (Value.ref _) (Value.ref _)) _ _ _); (k_here; (with_reducible show wpAny _ _ (subscriptTail _ (PySem.Expr.Slice _ _ none _) (Value.ref _) (Value.ref _)) _ _ _); k_dflt (refine' names_slice (by (k_asm)) (by (k_asm)) (by (k_mem)) (by (assumption)) (by (assumption)) ?_ (by (with_unfolding_all rfl)) (by (intro _; with_unfolding_all rfl)); k_whole); intro zs' k' D' h' hzs' hk1' F' N' l1')) | ((with_reducible show wpAny _ _ (subscriptTail (PySem.Expr.Name _ _) (PySem.Expr.Constant _ _ _) (Value.ref _) (Value.int _ _)) _ _ _); (k_here; k_dflt (refine' tup3_0 (by (k_asm)) (by (k_mem)) ?_))) | ((with_reducible show wpAny _ _ (subscriptTail (PySem.Expr.Name _ _) (PySem.Expr.Name _ _) (Value.ref _) (Value.str _ _)) _ _ _); walk_at "M sects") | ((with_reducible show wpAny _ _ (subscriptTail (PySem.Expr.List _ _) (PySem.Expr.Call _ _ _ _) (Value.ref _) (Value.int _ _)) _ _ _); first | walk_at "M sitem" | walk_at "M widths") | ((with_reducible show wpAny _ _ (subscriptTail (PySem.Expr.BinOp _ _ _ _) (PySem.Expr.Call _ _ _ _) (Value.ref _) (Value.int _ _)) _ _ _); walk_at "M sitem") | ((with_reducible show wpAny _ _ (subscriptTail (PySem.Expr.Name _ _) (PySem.Expr.Call _ _ _ _) (Value.ref _) (Value.int _ _)) _ _ _); walk_at "M sitem")) | ((with_reducible show wpAny _ _ (call _ _) _ _ _); first | ((k_here; (with_reducible show wpAny _ _ (call (Value.ref 225) [Value.ref _, Value.int _ _]) _ _ _); k_dflt (refine' draw_u (by (walk_at "M here")) (by (intro t1; k_upd)) (by (k_mem)) (by (k_asm)) (by (first | assumption | omega)) (by (((repeat' (refine nn1 ?_)); first | assumption | omega))) (by ((refine up0 ?_; (repeat' (refine up1 ?_)); first | exact cap0 (by assumption) | omega))) (by (first | decide | assumption | omega)) ?_; k_whole); intro v' t1' t2' h' tk' hv1' hv2' F' N')) | ((with_reducible show wpAny _ _ (call (Value.type "range") _) _ _ _); (k_here; k_dflt (refine' range1 (by (k_asm)) (by (k_asm)) ?_; k_whole); intro r' t1' t2' t3' h' tk' R' F' N')) | ((with_reducible show wpAny _ _ (call (Value.type "bytes") _) _ _ _); walk_at "M bytes") | ((with_reducible show wpAny _ _ (call (Value.builtin "len") _) _ _ _); (k_here; (with_reducible show wpAny _ _ (call (Value.builtin "len") [Value.ref _]) _ _ _); k_dflt (refine' strs_len (by (k_asm)) (by (k_mem)) (by (omega)) ?_))) | ((with_reducible show wpAny _ _ (call (Value.type "str") _) _ _ _); (k_here; (with_reducible refine str_small (by (omega)) ?_))) | ((k_here; (with_reducible show wpAny _ _ (call (Value.ref 232) [Value.ref _, Value.int _ _]) _ _ _); k_dflt (refine' worth_u (by (walk_at "M here")) (by (intro t1; k_upd)) (by (k_mem)) (by (k_asm)) (by (first | assumption | omega)) (by (((repeat' (refine nn1 ?_)); first | assumption | omega))) (by ((refine up0' ?_; (repeat' (refine up1 ?_)); first | exact cap0 (by assumption) | omega))) (by (omega)) (by (omega)) ?_; k_whole); intro v' t1' t2' h' tk' F' N')) | ((with_reducible show wpAny _ _ (call (Value.builtin "len") _) _ _ _); (k_here; (with_reducible show wpAny _ _ (call (Value.builtin "len") [Value.bytes _ _]) _ _ _); (refine KBw.len_K rfl (by omega) ?_))) | ((with_reducible show wpAny _ _ (call (Value.builtin "dict.get") _) _ _ _); (k_here; k_dflt (refine' ends_get (by (k_asm)) (by (k_mem)) (by (assumption)) (by (assumption)) (by (assumption)) ?_; k_whole); intro e' te' he'))) | ((with_reducible show wpAny _ _ (eval _ _) _ _ _); first | ((with_reducible show wpAny _ _ (eval (PySem.Expr.ListComp (PySem.Expr.Call _ _ _ _) _ _ _) _) _ _ _); (k_here; (rename Fr _ _ _ _ => lF'); (refine' ListComp_ownF lF' (by (exact rfl)) (by (decide)) (by (exact rfl)) (by (decide)) (by (exact rfl)) (by (intro _; exact rfl)) ?_; k_whole))) | ((with_reducible show wpAny _ _ (eval (PySem.Expr.ListComp (PySem.Expr.Subscript _ _ _) _ _ _) _) _ _ _); (k_here; (rename Fr _ _ _ _ => lF'); (refine' ListComp_ownF lF' (by (exact rfl)) (by (decide)) (by (exact rfl)) (by (decide)) (by (exact rfl)) (by (intro _; exact rfl)) ?_; k_whole))) | ((with_reducible show wpAny _ _ (eval (PySem.Expr.Name _ _) _) _ _ _); (refine name_comp (by assumption) (by assumption) ?_))) | ((with_reducible show wpAny _ _ (setItem _ _ _) _ _ _); first | ((with_reducible show wpAny _ _ (setItem (Value.ref _) (Value.str _ _) (Value.bytes _ _)) _ _ _); (k_here; k_dflt (refine' kda_set (knd := PySem.strKind _ _) (by (k_asm)) (by (k_asm)) (by (k_updF)) (by (assumption)) (strKind_is _ _ _ _) (by (assumption)) ?_); intro h' o' F' N' hd'; (try dsimp only at N'))) | ((with_reducible show wpAny _ _ (setItem (Value.ref _) (Value.str _ _) (Value.int _ _)) _ _ _); (k_here; k_dflt (refine' kda_set (knd := PySem.strKind _ _) (by (k_asm)) (by (k_asm)) (by (k_updF)) (by (assumption)) (strKind_is _ _ _ _) (by ((rw [sizeLine_eq]; omega))) ?_); intro h' o' F' N' hd'; (try dsimp only at N')))) | ((with_reducible show wpAny _ _ (getMethod _ _ _) _ _ _); first | ((k_here; (with_reducible show wpAny _ _ (getMethod (Value.ref _) (Str.ofString "get") _) _ _ _); k_dflt (refine' kdg_method (knd := PySem.strKind _ _) (by (k_asm)) (by (k_mem)) (by (assumption)) ?_)))) | ((with_reducible show wpAny _ _ (newTuple _) _ _ _); first | ((with_reducible show wpAny _ _ (newTuple _) _ _ _); (k_here; k_dflt (refine' kup_newTuple (by (k_asm)) (by (k_asm)) ?_ (by (size_fits)); k_whole); intro D' h' F' N' l1'; (try k_lt l1')))) | ((with_reducible show wpAny _ _ (binaryOp _ _ _) _ _ _); first | ((with_reducible show wpAny _ _ (binaryOp Operator.Add (Value.ref _) (Value.ref _)) _ _ _); (k_here; k_dflt (refine' strs_add (by (k_asm)) (by (k_asm)) (by (k_mem)) (by (k_mem)) (by (walk_at "M strs")) (by (walk_at "M strs")) (by ((try simp only [List.length_cons, List.length_nil]); omega)) ?_; k_whole); intro us' D' h' hus' hul' hum' F' N' l1'; (try simp only [List.length_cons, List.length_nil] at hul'); (try k_lt l1')))) | ((fail_if_success (with_reducible show wpAny _ _ (pyIter _) _ _ _)); walk1) | (dsimp only; (fail_if_success (with_reducible show wpAny _ _ (pyIter _) _ _ _)); walk1) | (leave1; walk_say "STEP leave1"; try dsimp only) | fail "no step"))
    rename IsRange _ _ _ _ _ _ _ _ => Rg
    refine Classical.byContradiction fun hG => ?_
    refine with_Y (d := d) (by assumption) fun Y e1 => ?_
    subst e1
    refine hG ?_
    clear hG
    rename (Y > d ∧ _) => hlY
    have y1 := ltN hlY.1
    have y2 := ltN hlY.2.1
    have y3 := ltN hlY.2.2.1
    have y4 := ltN hlY.2.2.2.1
    have hrY := allLt_ne hlY.2.2.2.2
    refine forRangeV (by assumption) (by omega) ?eL2 (objJ2 names Y d Dn _ pen cells o _ zs pn (a + 1) rest) rfl (by assumption) (by assumption) Rg ⟨rfl, rfl, rfl, rest, _, _, [], _, [], rfl, fun _ z => z, hr, hrd, hrY, .nil, rfl, (fun _ z => nomatch z), by omega, by omega⟩ ?turn2 ?done2
    case eL2 => rfl
    case turn2 =>
      intro i t m₂ news₂ h2 tk2 own hi hJ0' off2 F2 N2
      refine Classical.byContradiction fun hG => ?_
      obtain ⟨n1, n2, n3, R, a2, ta2, ys, c, syms, rfl, hR0, hRp, hRd, hRY, hsyms, hsn, hss, ha2, ha3⟩ := hJ0'
      refine hG ?_
      clear hG
      (try have hcap : a2 ≤ 1000 := by omega)
      (try have hnn : 0 ≤ a2 := by omega)
      have o1 := off_cons off2
      have o2 := off_cons (off_tail off2)
      have o5 := off_cons (off_tail (off_tail (off_tail (off_tail off2))))
      dsimp only at o1 o2 o5
      have hrp2 := all_app hRp o5
      have hrd2 := all_app hRd o2
      have hrY2 := all_app hRY o1
      have hc2 := List.mem_append_left own (hR0 _ hc)
      have hyl : ys.length = i := by
        rw [hsyms.length, ← List.length_map (f := (·.name)), hsn, List.length_map, List.length_range]
      simp only [List.cons_append] at N2
      replace F2 := pinsT F2 (.cons n1 (.cons n2 (.cons n3 .nil)))
      ((try ((show let Q' := _; let E' := _; wpAny _ _ _ Q' E' _); intro Q' E')); repeat' (first | (k_unfold; (try dsimp only)) | ((with_reducible show wpAny _ _ (exec _ _) _ _ _); first | ((with_reducible show wpAny _ _ (exec (PySem.Stmt.For _ _ _ _ _) _) _ _ _); (k_here; (rename Fr _ _ _ _ => lF'); (with_unfolding_all refine' For_invVF lF' (by (exact rfl)) (by (exact rfl)) ?_; k_whole)))) | ((with_reducible show wpAny _ _ (subscriptTail _ _ _ _) _ _ _); first | ((with_reducible show wpAny _ _ (subscriptTail (PySem.Expr.Name _ _) (PySem.Expr.Slice _ _ _ _) (Value.ref _) (Value.ref _)) _ _ _); (k_here; (with_reducible show wpAny _ _ (subscriptTail _ (PySem.Expr.Slice _ _ none _) (Value.ref _) (Value.ref _)) _ _ _); k_dflt (refine' names_slice (by (k_asm)) (by (k_asm)) (by (k_mem)) (by (assumption)) (by (assumption)) ?_ (by (with_unfolding_all rfl)) (by (intro _; with_unfolding_all rfl)); k_whole); intro zs' k' D' h' hzs' hk1' F' N' l1')) | ((with_reducible show wpAny _ _ (subscriptTail (PySem.Expr.Name _ _) (PySem.Expr.Constant _ _ _) (Value.ref _) (Value.int _ _)) _ _ _); (k_here; k_dflt (refine' tup3_0 (by (k_asm)) (by (k_mem)) ?_))) | ((with_reducible show wpAny _ _ (subscriptTail (PySem.Expr.Name _ _) (PySem.Expr.Name _ _) (Value.ref _) (Value.str _ _)) _ _ _); walk_at "M sects") | ((with_reducible show wpAny _ _ (subscriptTail (PySem.Expr.List _ _) (PySem.Expr.Call _ _ _ _) (Value.ref _) (Value.int _ _)) _ _ _); first | walk_at "M sitem" | walk_at "M widths") | ((with_reducible show wpAny _ _ (subscriptTail (PySem.Expr.BinOp _ _ _ _) (PySem.Expr.Call _ _ _ _) (Value.ref _) (Value.int _ _)) _ _ _); walk_at "M sitem") | ((with_reducible show wpAny _ _ (subscriptTail (PySem.Expr.Name _ _) (PySem.Expr.Call _ _ _ _) (Value.ref _) (Value.int _ _)) _ _ _); walk_at "M sitem")) | ((with_reducible show wpAny _ _ (call _ _) _ _ _); first | ((k_here; (with_reducible show wpAny _ _ (call (Value.ref 225) [Value.ref _, Value.int _ _]) _ _ _); k_dflt (refine' draw_u (by (walk_at "M here")) (by (intro t1; k_upd)) (by (k_mem)) (by (k_asm)) (by (first | assumption | omega)) (by (((repeat' (refine nn1 ?_)); first | assumption | omega))) (by ((refine up0 ?_; (repeat' (refine up1 ?_)); first | exact cap0 (by assumption) | omega))) (by (first | decide | assumption | omega)) ?_; k_whole); intro v' t1' t2' h' tk' hv1' hv2' F' N')) | ((with_reducible show wpAny _ _ (call (Value.type "range") _) _ _ _); (k_here; k_dflt (refine' range1 (by (k_asm)) (by (k_asm)) ?_; k_whole); intro r' t1' t2' t3' h' tk' R' F' N')) | ((with_reducible show wpAny _ _ (call (Value.type "bytes") _) _ _ _); walk_at "M bytes") | ((with_reducible show wpAny _ _ (call (Value.builtin "len") _) _ _ _); (k_here; (with_reducible show wpAny _ _ (call (Value.builtin "len") [Value.ref _]) _ _ _); k_dflt (refine' strs_len (by (k_asm)) (by (k_mem)) (by (omega)) ?_))) | ((with_reducible show wpAny _ _ (call (Value.type "str") _) _ _ _); (k_here; (with_reducible refine str_small (by (omega)) ?_))) | ((k_here; (with_reducible show wpAny _ _ (call (Value.ref 232) [Value.ref _, Value.int _ _]) _ _ _); k_dflt (refine' worth_u (by (walk_at "M here")) (by (intro t1; k_upd)) (by (k_mem)) (by (k_asm)) (by (first | assumption | omega)) (by (((repeat' (refine nn1 ?_)); first | assumption | omega))) (by ((refine up0' ?_; (repeat' (refine up1 ?_)); first | exact cap0 (by assumption) | omega))) (by (omega)) (by (omega)) ?_; k_whole); intro v' t1' t2' h' tk' F' N')) | ((with_reducible show wpAny _ _ (call (Value.builtin "len") _) _ _ _); (k_here; (with_reducible show wpAny _ _ (call (Value.builtin "len") [Value.bytes _ _]) _ _ _); (refine KBw.len_K rfl (by omega) ?_))) | ((with_reducible show wpAny _ _ (call (Value.builtin "dict.get") _) _ _ _); (k_here; k_dflt (refine' ends_get (by (k_asm)) (by (k_mem)) (by (assumption)) (by (assumption)) (by (assumption)) ?_; k_whole); intro e' te' he'))) | ((with_reducible show wpAny _ _ (eval _ _) _ _ _); first | ((with_reducible show wpAny _ _ (eval (PySem.Expr.ListComp (PySem.Expr.Call _ _ _ _) _ _ _) _) _ _ _); (k_here; (rename Fr _ _ _ _ => lF'); (refine' ListComp_ownF lF' (by (exact rfl)) (by (decide)) (by (exact rfl)) (by (decide)) (by (exact rfl)) (by (intro _; exact rfl)) ?_; k_whole))) | ((with_reducible show wpAny _ _ (eval (PySem.Expr.ListComp (PySem.Expr.Subscript _ _ _) _ _ _) _) _ _ _); (k_here; (rename Fr _ _ _ _ => lF'); (refine' ListComp_ownF lF' (by (exact rfl)) (by (decide)) (by (exact rfl)) (by (decide)) (by (exact rfl)) (by (intro _; exact rfl)) ?_; k_whole))) | ((with_reducible show wpAny _ _ (eval (PySem.Expr.Name _ _) _) _ _ _); (refine name_comp (by assumption) (by assumption) ?_))) | ((with_reducible show wpAny _ _ (setItem _ _ _) _ _ _); first | ((with_reducible show wpAny _ _ (setItem (Value.ref _) (Value.str _ _) (Value.bytes _ _)) _ _ _); (k_here; k_dflt (refine' kda_set (knd := PySem.strKind _ _) (by (k_asm)) (by (k_asm)) (by (k_updF)) (by (assumption)) (strKind_is _ _ _ _) (by (assumption)) ?_); intro h' o' F' N' hd'; (try dsimp only at N'))) | ((with_reducible show wpAny _ _ (setItem (Value.ref _) (Value.str _ _) (Value.int _ _)) _ _ _); (k_here; k_dflt (refine' kda_set (knd := PySem.strKind _ _) (by (k_asm)) (by (k_asm)) (by (k_updF)) (by (assumption)) (strKind_is _ _ _ _) (by ((rw [sizeLine_eq]; omega))) ?_); intro h' o' F' N' hd'; (try dsimp only at N')))) | ((with_reducible show wpAny _ _ (getMethod _ _ _) _ _ _); first | ((k_here; (with_reducible show wpAny _ _ (getMethod (Value.ref _) (Str.ofString "get") _) _ _ _); k_dflt (refine' kdg_method (knd := PySem.strKind _ _) (by (k_asm)) (by (k_mem)) (by (assumption)) ?_)))) | ((with_reducible show wpAny _ _ (newTuple _) _ _ _); first | ((with_reducible show wpAny _ _ (newTuple _) _ _ _); (k_here; k_dflt (refine' kup_newTuple (by (k_asm)) (by (k_asm)) ?_ (by (size_fits)); k_whole); intro D' h' F' N' l1'; (try k_lt l1')))) | ((with_reducible show wpAny _ _ (binaryOp _ _ _) _ _ _); first | ((with_reducible show wpAny _ _ (binaryOp Operator.Add (Value.ref _) (Value.ref _)) _ _ _); (k_here; k_dflt (refine' strs_add (by (k_asm)) (by (k_asm)) (by (k_mem)) (by (k_mem)) (by (walk_at "M strs")) (by (walk_at "M strs")) (by ((try simp only [List.length_cons, List.length_nil]); omega)) ?_; k_whole); intro us' D' h' hus' hul' hum' F' N' l1'; (try simp only [List.length_cons, List.length_nil] at hul'); (try k_lt l1')))) | ((fail_if_success (with_reducible show wpAny _ _ (pyIter _) _ _ _)); walk1) | (dsimp only; (fail_if_success (with_reducible show wpAny _ _ (pyIter _) _ _ _)); walk1) | (leave1; walk_say "STEP leave1"; try dsimp only) | fail "no step"))
      all_goals
        exact obj2_end (by assumption) (by assumption) (by assumption) off2 (by with_unfolding_all rfl) (by with_unfolding_all rfl) (by with_unfolding_all rfl) hR0 hRp hRd hRY hsyms hsn hss (by assumption) (by omega) (by omega)
    case done2 =>
      intro m₂ news₂ h2 tk2 hJ0' F2 N2
      refine Classical.byContradiction fun hG => ?_
      obtain ⟨n1, n2, n3, R, a2, ta2, ys, c, syms, rfl, hR0, hRp, hRd, hRY, hsyms, hsn, hss, ha2, ha3⟩ := hJ0'
      refine hG ?_
      clear hG
      (try have hcap : a2 ≤ 1000 := by omega)
      (try have hnn : 0 ≤ a2 := by omega)
      have hc2 := hR0 _ hc
      have hyl2 := hsyms.length
      have hyl3 := congrArg List.length hsn
      rw [List.length_map, List.length_map, List.length_range] at hyl3
      rw [hyl3] at hyl2
      have hyl : ys.length ≤ 6 := by
        rw [hsyms.length, ← List.length_map (f := (·.name)), hsn, List.length_map, List.length_range]
        omega
      replace F2 := pins F2 (.cons n1 (.cons n2 (.cons n3 .nil)))
      ((try ((show let Q' := _; let E' := _; wpAny _ _ _ Q' E' _); intro Q' E')); repeat' (first | (k_unfold; (try dsimp only)) | ((with_reducible show wpAny _ _ (exec _ _) _ _ _); first | ((with_reducible show wpAny _ _ (exec (PySem.Stmt.For _ _ _ _ _) _) _ _ _); (k_here; (rename Fr _ _ _ _ => lF'); (with_unfolding_all refine' For_invVF lF' (by (exact rfl)) (by (exact rfl)) ?_; k_whole)))) | ((with_reducible show wpAny _ _ (subscriptTail _ _ _ _) _ _ _); first | ((with_reducible show wpAny _ _ (subscriptTail (PySem.Expr.Name _ _) (PySem.Expr.Slice _ _ _ _) (Value.ref _) (Value.ref _)) _ _ _); (k_here; (with_reducible show wpAny _ _ (subscriptTail _ (PySem.Expr.Slice _ _ none _) (Value.ref _) (Value.ref _)) _ _ _); k_dflt (refine' names_slice (by (k_asm)) (by (k_asm)) (by (k_mem)) (by (assumption)) (by (assumption)) ?_ (by (with_unfolding_all rfl)) (by (intro _; with_unfolding_all rfl)); k_whole); intro zs' k' D' h' hzs' hk1' F' N' l1')) | ((with_reducible show wpAny _ _ (subscriptTail (PySem.Expr.Name _ _) (PySem.Expr.Constant _ _ _) (Value.ref _) (Value.int _ _)) _ _ _); (k_here; k_dflt (refine' tup3_0 (by (k_asm)) (by (k_mem)) ?_))) | ((with_reducible show wpAny _ _ (subscriptTail (PySem.Expr.Name _ _) (PySem.Expr.Name _ _) (Value.ref _) (Value.str _ _)) _ _ _); walk_at "M sects") | ((with_reducible show wpAny _ _ (subscriptTail (PySem.Expr.List _ _) (PySem.Expr.Call _ _ _ _) (Value.ref _) (Value.int _ _)) _ _ _); first | walk_at "M sitem" | walk_at "M widths") | ((with_reducible show wpAny _ _ (subscriptTail (PySem.Expr.BinOp _ _ _ _) (PySem.Expr.Call _ _ _ _) (Value.ref _) (Value.int _ _)) _ _ _); walk_at "M sitem") | ((with_reducible show wpAny _ _ (subscriptTail (PySem.Expr.Name _ _) (PySem.Expr.Call _ _ _ _) (Value.ref _) (Value.int _ _)) _ _ _); walk_at "M sitem")) | ((with_reducible show wpAny _ _ (call _ _) _ _ _); first | ((k_here; (with_reducible show wpAny _ _ (call (Value.ref 225) [Value.ref _, Value.int _ _]) _ _ _); k_dflt (refine' draw_u (by (walk_at "M here")) (by (intro t1; k_upd)) (by (k_mem)) (by (k_asm)) (by (first | assumption | omega)) (by (((repeat' (refine nn1 ?_)); first | assumption | omega))) (by ((refine up0 ?_; (repeat' (refine up1 ?_)); first | exact cap0 (by assumption) | omega))) (by (first | decide | assumption | omega)) ?_; k_whole); intro v' t1' t2' h' tk' hv1' hv2' F' N')) | ((with_reducible show wpAny _ _ (call (Value.type "range") _) _ _ _); (k_here; k_dflt (refine' range1 (by (k_asm)) (by (k_asm)) ?_; k_whole); intro r' t1' t2' t3' h' tk' R' F' N')) | ((with_reducible show wpAny _ _ (call (Value.type "bytes") _) _ _ _); walk_at "M bytes") | ((with_reducible show wpAny _ _ (call (Value.builtin "len") _) _ _ _); (k_here; (with_reducible show wpAny _ _ (call (Value.builtin "len") [Value.ref _]) _ _ _); k_dflt (refine' strs_len (by (k_asm)) (by (k_mem)) (by (omega)) ?_))) | ((with_reducible show wpAny _ _ (call (Value.type "str") _) _ _ _); (k_here; (with_reducible refine str_small (by (omega)) ?_))) | ((k_here; (with_reducible show wpAny _ _ (call (Value.ref 232) [Value.ref _, Value.int _ _]) _ _ _); k_dflt (refine' worth_u (by (walk_at "M here")) (by (intro t1; k_upd)) (by (k_mem)) (by (k_asm)) (by (first | assumption | omega)) (by (((repeat' (refine nn1 ?_)); first | assumption | omega))) (by ((refine up0' ?_; (repeat' (refine up1 ?_)); first | exact cap0 (by assumption) | omega))) (by (omega)) (by (omega)) ?_; k_whole); intro v' t1' t2' h' tk' F' N')) | ((with_reducible show wpAny _ _ (call (Value.builtin "len") _) _ _ _); (k_here; (with_reducible show wpAny _ _ (call (Value.builtin "len") [Value.bytes _ _]) _ _ _); (refine KBw.len_K rfl (by omega) ?_))) | ((with_reducible show wpAny _ _ (call (Value.builtin "dict.get") _) _ _ _); (k_here; k_dflt (refine' ends_get (by (k_asm)) (by (k_mem)) (by (assumption)) (by (assumption)) (by (assumption)) ?_; k_whole); intro e' te' he'))) | ((with_reducible show wpAny _ _ (eval _ _) _ _ _); first | ((with_reducible show wpAny _ _ (eval (PySem.Expr.ListComp (PySem.Expr.Call _ _ _ _) _ _ _) _) _ _ _); (k_here; (rename Fr _ _ _ _ => lF'); (refine' ListComp_ownF lF' (by (exact rfl)) (by (decide)) (by (exact rfl)) (by (decide)) (by (exact rfl)) (by (intro _; exact rfl)) ?_; k_whole))) | ((with_reducible show wpAny _ _ (eval (PySem.Expr.ListComp (PySem.Expr.Subscript _ _ _) _ _ _) _) _ _ _); (k_here; (rename Fr _ _ _ _ => lF'); (refine' ListComp_ownF lF' (by (exact rfl)) (by (decide)) (by (exact rfl)) (by (decide)) (by (exact rfl)) (by (intro _; exact rfl)) ?_; k_whole))) | ((with_reducible show wpAny _ _ (eval (PySem.Expr.Name _ _) _) _ _ _); (refine name_comp (by assumption) (by assumption) ?_))) | ((with_reducible show wpAny _ _ (setItem _ _ _) _ _ _); first | ((with_reducible show wpAny _ _ (setItem (Value.ref _) (Value.str _ _) (Value.bytes _ _)) _ _ _); (k_here; k_dflt (refine' kda_set (knd := PySem.strKind _ _) (by (k_asm)) (by (k_asm)) (by (k_updF)) (by (assumption)) (strKind_is _ _ _ _) (by (assumption)) ?_); intro h' o' F' N' hd'; (try dsimp only at N'))) | ((with_reducible show wpAny _ _ (setItem (Value.ref _) (Value.str _ _) (Value.int _ _)) _ _ _); (k_here; k_dflt (refine' kda_set (knd := PySem.strKind _ _) (by (k_asm)) (by (k_asm)) (by (k_updF)) (by (assumption)) (strKind_is _ _ _ _) (by ((rw [sizeLine_eq]; omega))) ?_); intro h' o' F' N' hd'; (try dsimp only at N')))) | ((with_reducible show wpAny _ _ (getMethod _ _ _) _ _ _); first | ((k_here; (with_reducible show wpAny _ _ (getMethod (Value.ref _) (Str.ofString "get") _) _ _ _); k_dflt (refine' kdg_method (knd := PySem.strKind _ _) (by (k_asm)) (by (k_mem)) (by (assumption)) ?_)))) | ((with_reducible show wpAny _ _ (newTuple _) _ _ _); first | ((with_reducible show wpAny _ _ (newTuple _) _ _ _); (k_here; k_dflt (refine' kup_newTuple (by (k_asm)) (by (k_asm)) ?_ (by (size_fits)); k_whole); intro D' h' F' N' l1'; (try k_lt l1')))) | ((with_reducible show wpAny _ _ (binaryOp _ _ _) _ _ _); first | ((with_reducible show wpAny _ _ (binaryOp Operator.Add (Value.ref _) (Value.ref _)) _ _ _); (k_here; k_dflt (refine' strs_add (by (k_asm)) (by (k_asm)) (by (k_mem)) (by (k_mem)) (by (walk_at "M strs")) (by (walk_at "M strs")) (by ((try simp only [List.length_cons, List.length_nil]); omega)) ?_; k_whole); intro us' D' h' hus' hul' hum' F' N' l1'; (try simp only [List.length_cons, List.length_nil] at hul'); (try k_lt l1')))) | ((fail_if_success (with_reducible show wpAny _ _ (pyIter _) _ _ _)); walk1) | (dsimp only; (fail_if_success (with_reducible show wpAny _ _ (pyIter _) _ _ _)); walk1) | (leave1; walk_say "STEP leave1"; try dsimp only) | fail "no step"))
      rename IsRange _ _ _ _ _ _ _ _ => Rg
      refine Classical.byContradiction fun hG => ?_
      refine with_RE (Y := Y) (by assumption) fun Ed Rr oE e1 e2 e3 => ?_
      subst e1 e2 e3
      refine hG ?_
      clear hG
      rename Obj.IsDictOf (PySem.strKind _ _) oE [] => hfd2
      rename (Ed == sysModules) = false => hlo2
      rename (Ed > Rr ∧ _) => hlE
      rename (Rr > Y ∧ _) => hlR
      have z1 := ltN hlE.1
      have z2 := ltN hlE.2.1
      have z3 := ltN hlE.2.2.1
      have z4 := ltN hlE.2.2.2.1
      have z5 := ltN hlE.2.2.2.2.1
      have z6 := ltN hlE.2.2.2.2.2.1
      have hrE := allLt_ne hlE.2.2.2.2.2.2
      have x1 := ltN hlR.1
      have x2 := ltN hlR.2.1
      have x3 := ltN hlR.2.2.1
      have x4 := ltN hlR.2.2.2.1
      have x5 := ltN hlR.2.2.2.2.1
      have hrR := allLt_ne hlR.2.2.2.2.2
      have hkn : (secs.map (·.1)).Nodup := by
        rw [hkeys]
        obtain ⟨k, k1, k2, rfl⟩ := hnm
        exact (List.take_sublist _ _).nodup (by decide)
      refine forRangeV (by assumption) (by omega) ?eL3 (objJ3 w secs ys zs Rr Ed Y d Dn _ pen cells o _ c pn (a2 + 1) R) rfl (by assumption) (news_swap (by assumption)) Rg ⟨rfl, rfl, rfl, rfl, rfl, R, _, _, [], _, oE, [], [], rfl, fun _ z => z, hRp, hrE, hrR, hfd2, (fun _ z => nomatch z), Nat.le_refl _, .nil, Nat.le_refl _, (fun _ z => nomatch z), by omega, by omega⟩ ?turn3 ?done3
      case eL3 => rfl
      case turn3 =>
        intro i t m₃ news₃ h3 tk3 own hi hJ0' off3 F3 N3
        refine Classical.byContradiction fun hG => ?_
        obtain ⟨n1, n2, n3, n4, n5, R3, a3, ta3, rs, cR, oE, kE, rels, rfl, hQ0, hQp, hQE, hQR, hdE, hEnds, hkE, hrels, hrl, hrok, ha4, ha5⟩ := hJ0'
        refine hG ?_
        clear hG
        (try have hcap : a3 ≤ 1000 := by omega)
        (try have hnn : 0 ≤ a3 := by omega)
        have o1 := off_cons off3
        have o2 := off_cons (off_tail off3)
        have o7 := off_cons (off_tail (off_tail (off_tail (off_tail (off_tail (off_tail off3))))))
        dsimp only at o1 o2 o7
        have hrp3 := all_app hQp o7
        have hrE3 := all_app hQE o2
        have hrR3 := all_app hQR o1
        have hc3 := List.mem_append_left own (hQ0 _ hc2)
        simp only [List.cons_append] at N3
        replace F3 := pinsT F3 (.cons n1 (.cons n2 (.cons n3 (.cons n4 (.cons n5 .nil)))))
        ((try ((show let Q' := _; let E' := _; wpAny _ _ _ Q' E' _); intro Q' E')); repeat' (first | (k_unfold; (try dsimp only)) | ((with_reducible show wpAny _ _ (exec _ _) _ _ _); first | ((with_reducible show wpAny _ _ (exec (PySem.Stmt.For _ _ _ _ _) _) _ _ _); (k_here; (rename Fr _ _ _ _ => lF'); (with_unfolding_all refine' For_invVF lF' (by (exact rfl)) (by (exact rfl)) ?_; k_whole)))) | ((with_reducible show wpAny _ _ (subscriptTail _ _ _ _) _ _ _); first | ((with_reducible show wpAny _ _ (subscriptTail (PySem.Expr.Name _ _) (PySem.Expr.Slice _ _ _ _) (Value.ref _) (Value.ref _)) _ _ _); (k_here; (with_reducible show wpAny _ _ (subscriptTail _ (PySem.Expr.Slice _ _ none _) (Value.ref _) (Value.ref _)) _ _ _); k_dflt (refine' names_slice (by (k_asm)) (by (k_asm)) (by (k_mem)) (by (assumption)) (by (assumption)) ?_ (by (with_unfolding_all rfl)) (by (intro _; with_unfolding_all rfl)); k_whole); intro zs' k' D' h' hzs' hk1' F' N' l1')) | ((with_reducible show wpAny _ _ (subscriptTail (PySem.Expr.Name _ _) (PySem.Expr.Constant _ _ _) (Value.ref _) (Value.int _ _)) _ _ _); (k_here; k_dflt (refine' tup3_0 (by (k_asm)) (by (k_mem)) ?_))) | ((with_reducible show wpAny _ _ (subscriptTail (PySem.Expr.Name _ _) (PySem.Expr.Name _ _) (Value.ref _) (Value.str _ _)) _ _ _); walk_at "M sects") | ((with_reducible show wpAny _ _ (subscriptTail (PySem.Expr.List _ _) (PySem.Expr.Call _ _ _ _) (Value.ref _) (Value.int _ _)) _ _ _); first | walk_at "M sitem" | walk_at "M widths") | ((with_reducible show wpAny _ _ (subscriptTail (PySem.Expr.BinOp _ _ _ _) (PySem.Expr.Call _ _ _ _) (Value.ref _) (Value.int _ _)) _ _ _); walk_at "M sitem") | ((with_reducible show wpAny _ _ (subscriptTail (PySem.Expr.Name _ _) (PySem.Expr.Call _ _ _ _) (Value.ref _) (Value.int _ _)) _ _ _); walk_at "M sitem")) | ((with_reducible show wpAny _ _ (call _ _) _ _ _); first | ((k_here; (with_reducible show wpAny _ _ (call (Value.ref 225) [Value.ref _, Value.int _ _]) _ _ _); k_dflt (refine' draw_u (by (walk_at "M here")) (by (intro t1; k_upd)) (by (k_mem)) (by (k_asm)) (by (first | assumption | omega)) (by (((repeat' (refine nn1 ?_)); first | assumption | omega))) (by ((refine up0 ?_; (repeat' (refine up1 ?_)); first | exact cap0 (by assumption) | omega))) (by (first | decide | assumption | omega)) ?_; k_whole); intro v' t1' t2' h' tk' hv1' hv2' F' N')) | ((with_reducible show wpAny _ _ (call (Value.type "range") _) _ _ _); (k_here; k_dflt (refine' range1 (by (k_asm)) (by (k_asm)) ?_; k_whole); intro r' t1' t2' t3' h' tk' R' F' N')) | ((with_reducible show wpAny _ _ (call (Value.type "bytes") _) _ _ _); walk_at "M bytes") | ((with_reducible show wpAny _ _ (call (Value.builtin "len") _) _ _ _); (k_here; (with_reducible show wpAny _ _ (call (Value.builtin "len") [Value.ref _]) _ _ _); k_dflt (refine' strs_len (by (k_asm)) (by (k_mem)) (by (omega)) ?_))) | ((with_reducible show wpAny _ _ (call (Value.type "str") _) _ _ _); (k_here; (with_reducible refine str_small (by (omega)) ?_))) | ((k_here; (with_reducible show wpAny _ _ (call (Value.ref 232) [Value.ref _, Value.int _ _]) _ _ _); k_dflt (refine' worth_u (by (walk_at "M here")) (by (intro t1; k_upd)) (by (k_mem)) (by (k_asm)) (by (first | assumption | omega)) (by (((repeat' (refine nn1 ?_)); first | assumption | omega))) (by ((refine up0' ?_; (repeat' (refine up1 ?_)); first | exact cap0 (by assumption) | omega))) (by (omega)) (by (omega)) ?_; k_whole); intro v' t1' t2' h' tk' F' N')) | ((with_reducible show wpAny _ _ (call (Value.builtin "len") _) _ _ _); (k_here; (with_reducible show wpAny _ _ (call (Value.builtin "len") [Value.bytes _ _]) _ _ _); (refine KBw.len_K rfl (by omega) ?_))) | ((with_reducible show wpAny _ _ (call (Value.builtin "dict.get") _) _ _ _); (k_here; k_dflt (refine' ends_get (by (k_asm)) (by (k_mem)) (by (assumption)) (by (assumption)) (by (assumption)) ?_; k_whole); intro e' te' he'))) | ((with_reducible show wpAny _ _ (eval _ _) _ _ _); first | ((with_reducible show wpAny _ _ (eval (PySem.Expr.ListComp (PySem.Expr.Call _ _ _ _) _ _ _) _) _ _ _); (k_here; (rename Fr _ _ _ _ => lF'); (refine' ListComp_ownF lF' (by (exact rfl)) (by (decide)) (by (exact rfl)) (by (decide)) (by (exact rfl)) (by (intro _; exact rfl)) ?_; k_whole))) | ((with_reducible show wpAny _ _ (eval (PySem.Expr.ListComp (PySem.Expr.Subscript _ _ _) _ _ _) _) _ _ _); (k_here; (rename Fr _ _ _ _ => lF'); (refine' ListComp_ownF lF' (by (exact rfl)) (by (decide)) (by (exact rfl)) (by (decide)) (by (exact rfl)) (by (intro _; exact rfl)) ?_; k_whole))) | ((with_reducible show wpAny _ _ (eval (PySem.Expr.Name _ _) _) _ _ _); (refine name_comp (by assumption) (by assumption) ?_))) | ((with_reducible show wpAny _ _ (setItem _ _ _) _ _ _); first | ((with_reducible show wpAny _ _ (setItem (Value.ref _) (Value.str _ _) (Value.bytes _ _)) _ _ _); (k_here; k_dflt (refine' kda_set (knd := PySem.strKind _ _) (by (k_asm)) (by (k_asm)) (by (k_updF)) (by (assumption)) (strKind_is _ _ _ _) (by (assumption)) ?_); intro h' o' F' N' hd'; (try dsimp only at N'))) | ((with_reducible show wpAny _ _ (setItem (Value.ref _) (Value.str _ _) (Value.int _ _)) _ _ _); (k_here; k_dflt (refine' kda_set (knd := PySem.strKind _ _) (by (k_asm)) (by (k_asm)) (by (k_updF)) (by (assumption)) (strKind_is _ _ _ _) (by ((rw [sizeLine_eq]; omega))) ?_); intro h' o' F' N' hd'; (try dsimp only at N')))) | ((with_reducible show wpAny _ _ (getMethod _ _ _) _ _ _); first | ((k_here; (with_reducible show wpAny _ _ (getMethod (Value.ref _) (Str.ofString "get") _) _ _ _); k_dflt (refine' kdg_method (knd := PySem.strKind _ _) (by (k_asm)) (by (k_mem)) (by (assumption)) ?_)))) | ((with_reducible show wpAny _ _ (newTuple _) _ _ _); first | ((with_reducible show wpAny _ _ (newTuple _) _ _ _); (k_here; k_dflt (refine' kup_newTuple (by (k_asm)) (by (k_asm)) ?_ (by (size_fits)); k_whole); intro D' h' F' N' l1'; (try k_lt l1')))) | ((with_reducible show wpAny _ _ (binaryOp _ _ _) _ _ _); first | ((with_reducible show wpAny _ _ (binaryOp Operator.Add (Value.ref _) (Value.ref _)) _ _ _); (k_here; k_dflt (refine' strs_add (by (k_asm)) (by (k_asm)) (by (k_mem)) (by (k_mem)) (by (walk_at "M strs")) (by (walk_at "M strs")) (by ((try simp only [List.length_cons, List.length_nil]); omega)) ?_; k_whole); intro us' D' h' hus' hul' hum' F' N' l1'; (try simp only [List.length_cons, List.length_nil] at hul'); (try k_lt l1')))) | ((fail_if_success (with_reducible show wpAny _ _ (pyIter _) _ _ _)); walk1) | (dsimp only; (fail_if_success (with_reducible show wpAny _ _ (pyIter _) _ _ _)); walk1) | (leave1; walk_say "STEP leave1"; try dsimp only) | fail "no step"))
        · refine compList (fun i2 ys2 n2 => n2 = _ ∧ All2 StrV ys2 ((syms.take i2).map (·.name))) rfl (by assumption) (by assumption) (items := List.toArray ys) (c := c) ?hlC ?hszC ?hJC ⟨rfl, by rw [List.take_zero]; exact .nil⟩ ?turnC3 ?finC3
          case hlC => k_mem
          case hszC => rw [List.size_toArray, sizeLine_eq]; omega
          case hJC => rintro i2 ys2 n2 ⟨rfl, -⟩; k_mem
          case turnC3 =>
            intro i2 v ys2 news₂ h4 tk4 own2 C mc E' hi2 hJ0' off4 nsO hmc F4 N4
            refine Classical.byContradiction fun hG => ?_
            obtain ⟨rfl, hst⟩ := hJ0'
            rw [List.getElem?_toArray] at hi2
            obtain ⟨y, hy, x, u1, u2, u3, rfl, hx⟩ := hsyms.get hi2
            refine hG ?_
            clear hG
            have hx4 : (x, tup3 (.str y.name u1) (.str y.sect u2) (.int y.worth u3)) ∈ (R3 ++ own) ++ own2 := List.mem_append_left _ (List.mem_append_left _ (hQ0 _ hx))
            have hNs := nsO h4 fun p hp => (N4 p (List.mem_append_right _ hp)).1
            simp only [List.cons_append] at N4
            ((try ((show let Q' := _; let E' := _; wpAny _ _ _ Q' E' _); intro Q' E')); repeat' (first | (k_unfold; (try dsimp only)) | ((with_reducible show wpAny _ _ (exec _ _) _ _ _); first | ((with_reducible show wpAny _ _ (exec (PySem.Stmt.For _ _ _ _ _) _) _ _ _); (k_here; (rename Fr _ _ _ _ => lF'); (with_unfolding_all refine' For_invVF lF' (by (exact rfl)) (by (exact rfl)) ?_; k_whole)))) | ((with_reducible show wpAny _ _ (subscriptTail _ _ _ _) _ _ _); first | ((with_reducible show wpAny _ _ (subscriptTail (PySem.Expr.Name _ _) (PySem.Expr.Slice _ _ _ _) (Value.ref _) (Value.ref _)) _ _ _); (k_here; (with_reducible show wpAny _ _ (subscriptTail _ (PySem.Expr.Slice _ _ none _) (Value.ref _) (Value.ref _)) _ _ _); k_dflt (refine' names_slice (by (k_asm)) (by (k_asm)) (by (k_mem)) (by (assumption)) (by (assumption)) ?_ (by (with_unfolding_all rfl)) (by (intro _; with_unfolding_all rfl)); k_whole); intro zs' k' D' h' hzs' hk1' F' N' l1')) | ((with_reducible show wpAny _ _ (subscriptTail (PySem.Expr.Name _ _) (PySem.Expr.Constant _ _ _) (Value.ref _) (Value.int _ _)) _ _ _); (k_here; k_dflt (refine' tup3_0 (by (k_asm)) (by (k_mem)) ?_))) | ((with_reducible show wpAny _ _ (subscriptTail (PySem.Expr.Name _ _) (PySem.Expr.Name _ _) (Value.ref _) (Value.str _ _)) _ _ _); walk_at "M sects") | ((with_reducible show wpAny _ _ (subscriptTail (PySem.Expr.List _ _) (PySem.Expr.Call _ _ _ _) (Value.ref _) (Value.int _ _)) _ _ _); first | walk_at "M sitem" | walk_at "M widths") | ((with_reducible show wpAny _ _ (subscriptTail (PySem.Expr.BinOp _ _ _ _) (PySem.Expr.Call _ _ _ _) (Value.ref _) (Value.int _ _)) _ _ _); walk_at "M sitem") | ((with_reducible show wpAny _ _ (subscriptTail (PySem.Expr.Name _ _) (PySem.Expr.Call _ _ _ _) (Value.ref _) (Value.int _ _)) _ _ _); walk_at "M sitem")) | ((with_reducible show wpAny _ _ (call _ _) _ _ _); first | ((k_here; (with_reducible show wpAny _ _ (call (Value.ref 225) [Value.ref _, Value.int _ _]) _ _ _); k_dflt (refine' draw_u (by (walk_at "M here")) (by (intro t1; k_upd)) (by (k_mem)) (by (k_asm)) (by (first | assumption | omega)) (by (((repeat' (refine nn1 ?_)); first | assumption | omega))) (by ((refine up0 ?_; (repeat' (refine up1 ?_)); first | exact cap0 (by assumption) | omega))) (by (first | decide | assumption | omega)) ?_; k_whole); intro v' t1' t2' h' tk' hv1' hv2' F' N')) | ((with_reducible show wpAny _ _ (call (Value.type "range") _) _ _ _); (k_here; k_dflt (refine' range1 (by (k_asm)) (by (k_asm)) ?_; k_whole); intro r' t1' t2' t3' h' tk' R' F' N')) | ((with_reducible show wpAny _ _ (call (Value.type "bytes") _) _ _ _); walk_at "M bytes") | ((with_reducible show wpAny _ _ (call (Value.builtin "len") _) _ _ _); (k_here; (with_reducible show wpAny _ _ (call (Value.builtin "len") [Value.ref _]) _ _ _); k_dflt (refine' strs_len (by (k_asm)) (by (k_mem)) (by (omega)) ?_))) | ((with_reducible show wpAny _ _ (call (Value.type "str") _) _ _ _); (k_here; (with_reducible refine str_small (by (omega)) ?_))) | ((k_here; (with_reducible show wpAny _ _ (call (Value.ref 232) [Value.ref _, Value.int _ _]) _ _ _); k_dflt (refine' worth_u (by (walk_at "M here")) (by (intro t1; k_upd)) (by (k_mem)) (by (k_asm)) (by (first | assumption | omega)) (by (((repeat' (refine nn1 ?_)); first | assumption | omega))) (by ((refine up0' ?_; (repeat' (refine up1 ?_)); first | exact cap0 (by assumption) | omega))) (by (omega)) (by (omega)) ?_; k_whole); intro v' t1' t2' h' tk' F' N')) | ((with_reducible show wpAny _ _ (call (Value.builtin "len") _) _ _ _); (k_here; (with_reducible show wpAny _ _ (call (Value.builtin "len") [Value.bytes _ _]) _ _ _); (refine KBw.len_K rfl (by omega) ?_))) | ((with_reducible show wpAny _ _ (call (Value.builtin "dict.get") _) _ _ _); (k_here; k_dflt (refine' ends_get (by (k_asm)) (by (k_mem)) (by (assumption)) (by (assumption)) (by (assumption)) ?_; k_whole); intro e' te' he'))) | ((with_reducible show wpAny _ _ (eval _ _) _ _ _); first | ((with_reducible show wpAny _ _ (eval (PySem.Expr.ListComp (PySem.Expr.Call _ _ _ _) _ _ _) _) _ _ _); (k_here; (rename Fr _ _ _ _ => lF'); (refine' ListComp_ownF lF' (by (exact rfl)) (by (decide)) (by (exact rfl)) (by (decide)) (by (exact rfl)) (by (intro _; exact rfl)) ?_; k_whole))) | ((with_reducible show wpAny _ _ (eval (PySem.Expr.ListComp (PySem.Expr.Subscript _ _ _) _ _ _) _) _ _ _); (k_here; (rename Fr _ _ _ _ => lF'); (refine' ListComp_ownF lF' (by (exact rfl)) (by (decide)) (by (exact rfl)) (by (decide)) (by (exact rfl)) (by (intro _; exact rfl)) ?_; k_whole))) | ((with_reducible show wpAny _ _ (eval (PySem.Expr.Name _ _) _) _ _ _); (refine name_comp (by assumption) (by assumption) ?_))) | ((with_reducible show wpAny _ _ (setItem _ _ _) _ _ _); first | ((with_reducible show wpAny _ _ (setItem (Value.ref _) (Value.str _ _) (Value.bytes _ _)) _ _ _); (k_here; k_dflt (refine' kda_set (knd := PySem.strKind _ _) (by (k_asm)) (by (k_asm)) (by (k_updF)) (by (assumption)) (strKind_is _ _ _ _) (by (assumption)) ?_); intro h' o' F' N' hd'; (try dsimp only at N'))) | ((with_reducible show wpAny _ _ (setItem (Value.ref _) (Value.str _ _) (Value.int _ _)) _ _ _); (k_here; k_dflt (refine' kda_set (knd := PySem.strKind _ _) (by (k_asm)) (by (k_asm)) (by (k_updF)) (by (assumption)) (strKind_is _ _ _ _) (by ((rw [sizeLine_eq]; omega))) ?_); intro h' o' F' N' hd'; (try dsimp only at N')))) | ((with_reducible show wpAny _ _ (getMethod _ _ _) _ _ _); first | ((k_here; (with_reducible show wpAny _ _ (getMethod (Value.ref _) (Str.ofString "get") _) _ _ _); k_dflt (refine' kdg_method (knd := PySem.strKind _ _) (by (k_asm)) (by (k_mem)) (by (assumption)) ?_)))) | ((with_reducible show wpAny _ _ (newTuple _) _ _ _); first | ((with_reducible show wpAny _ _ (newTuple _) _ _ _); (k_here; k_dflt (refine' kup_newTuple (by (k_asm)) (by (k_asm)) ?_ (by (size_fits)); k_whole); intro D' h' F' N' l1'; (try k_lt l1')))) | ((with_reducible show wpAny _ _ (binaryOp _ _ _) _ _ _); first | ((with_reducible show wpAny _ _ (binaryOp Operator.Add (Value.ref _) (Value.ref _)) _ _ _); (k_here; k_dflt (refine' strs_add (by (k_asm)) (by (k_asm)) (by (k_mem)) (by (k_mem)) (by (walk_at "M strs")) (by (walk_at "M strs")) (by ((try simp only [List.length_cons, List.length_nil]); omega)) ?_; k_whole); intro us' D' h' hus' hul' hum' F' N' l1'; (try simp only [List.length_cons, List.length_nil] at hul'); (try k_lt l1')))) | ((fail_if_success (with_reducible show wpAny _ _ (pyIter _) _ _ _)); walk1) | (dsimp only; (fail_if_success (with_reducible show wpAny _ _ (pyIter _) _ _ _)); walk1) | (leave1; walk_say "STEP leave1"; try dsimp only) | fail "no step"))
            refine comp_end (by assumption) N4 ?eC off4 ⟨rfl, ?sC⟩
            case eC => simp only [List.cons_append]
            case sC => rw [List.take_succ, hy, List.map_append]; exact hst.snoc ⟨_, rfl⟩
          case finC3 =>
            intro D2 ys2 c2 news₂ h4 tk4 H4 hJ0' hlen4 F4 N4 hne4
            refine Classical.byContradiction fun hG => ?_
            obtain ⟨rfl, hst⟩ := hJ0'
            refine hG ?_
            clear hG
            rw [List.size_toArray, hsyms.length, List.take_length] at hst
            have q1 := neN (hne4 (pen, _) (by k_mem))
            have q2 := neN (hne4 (Rr, _) (by k_mem))
            have hl4 := hst.length
            rw [List.length_map, ← hsyms.length] at hl4
            ((try ((show let Q' := _; let E' := _; wpAny _ _ _ Q' E' _); intro Q' E')); repeat' (first | (k_unfold; (try dsimp only)) | ((with_reducible show wpAny _ _ (exec _ _) _ _ _); first | ((with_reducible show wpAny _ _ (exec (PySem.Stmt.For _ _ _ _ _) _) _ _ _); (k_here; (rename Fr _ _ _ _ => lF'); (with_unfolding_all refine' For_invVF lF' (by (exact rfl)) (by (exact rfl)) ?_; k_whole)))) | ((with_reducible show wpAny _ _ (subscriptTail _ _ _ _) _ _ _); first | ((with_reducible show wpAny _ _ (subscriptTail (PySem.Expr.Name _ _) (PySem.Expr.Slice _ _ _ _) (Value.ref _) (Value.ref _)) _ _ _); (k_here; (with_reducible show wpAny _ _ (subscriptTail _ (PySem.Expr.Slice _ _ none _) (Value.ref _) (Value.ref _)) _ _ _); k_dflt (refine' names_slice (by (k_asm)) (by (k_asm)) (by (k_mem)) (by (assumption)) (by (assumption)) ?_ (by (with_unfolding_all rfl)) (by (intro _; with_unfolding_all rfl)); k_whole); intro zs' k' D' h' hzs' hk1' F' N' l1')) | ((with_reducible show wpAny _ _ (subscriptTail (PySem.Expr.Name _ _) (PySem.Expr.Constant _ _ _) (Value.ref _) (Value.int _ _)) _ _ _); (k_here; k_dflt (refine' tup3_0 (by (k_asm)) (by (k_mem)) ?_))) | ((with_reducible show wpAny _ _ (subscriptTail (PySem.Expr.Name _ _) (PySem.Expr.Name _ _) (Value.ref _) (Value.str _ _)) _ _ _); walk_at "M sects") | ((with_reducible show wpAny _ _ (subscriptTail (PySem.Expr.List _ _) (PySem.Expr.Call _ _ _ _) (Value.ref _) (Value.int _ _)) _ _ _); first | walk_at "M sitem" | walk_at "M widths") | ((with_reducible show wpAny _ _ (subscriptTail (PySem.Expr.BinOp _ _ _ _) (PySem.Expr.Call _ _ _ _) (Value.ref _) (Value.int _ _)) _ _ _); walk_at "M sitem") | ((with_reducible show wpAny _ _ (subscriptTail (PySem.Expr.Name _ _) (PySem.Expr.Call _ _ _ _) (Value.ref _) (Value.int _ _)) _ _ _); walk_at "M sitem")) | ((with_reducible show wpAny _ _ (call _ _) _ _ _); first | ((k_here; (with_reducible show wpAny _ _ (call (Value.ref 225) [Value.ref _, Value.int _ _]) _ _ _); k_dflt (refine' draw_u (by (walk_at "M here")) (by (intro t1; k_upd)) (by (k_mem)) (by (k_asm)) (by (first | assumption | omega)) (by (((repeat' (refine nn1 ?_)); first | assumption | omega))) (by ((refine up0 ?_; (repeat' (refine up1 ?_)); first | exact cap0 (by assumption) | omega))) (by (first | decide | assumption | omega)) ?_; k_whole); intro v' t1' t2' h' tk' hv1' hv2' F' N')) | ((with_reducible show wpAny _ _ (call (Value.type "range") _) _ _ _); (k_here; k_dflt (refine' range1 (by (k_asm)) (by (k_asm)) ?_; k_whole); intro r' t1' t2' t3' h' tk' R' F' N')) | ((with_reducible show wpAny _ _ (call (Value.type "bytes") _) _ _ _); walk_at "M bytes") | ((with_reducible show wpAny _ _ (call (Value.builtin "len") _) _ _ _); (k_here; (with_reducible show wpAny _ _ (call (Value.builtin "len") [Value.ref _]) _ _ _); k_dflt (refine' strs_len (by (k_asm)) (by (k_mem)) (by (omega)) ?_))) | ((with_reducible show wpAny _ _ (call (Value.type "str") _) _ _ _); (k_here; (with_reducible refine str_small (by (omega)) ?_))) | ((k_here; (with_reducible show wpAny _ _ (call (Value.ref 232) [Value.ref _, Value.int _ _]) _ _ _); k_dflt (refine' worth_u (by (walk_at "M here")) (by (intro t1; k_upd)) (by (k_mem)) (by (k_asm)) (by (first | assumption | omega)) (by (((repeat' (refine nn1 ?_)); first | assumption | omega))) (by ((refine up0' ?_; (repeat' (refine up1 ?_)); first | exact cap0 (by assumption) | omega))) (by (omega)) (by (omega)) ?_; k_whole); intro v' t1' t2' h' tk' F' N')) | ((with_reducible show wpAny _ _ (call (Value.builtin "len") _) _ _ _); (k_here; (with_reducible show wpAny _ _ (call (Value.builtin "len") [Value.bytes _ _]) _ _ _); (refine KBw.len_K rfl (by omega) ?_))) | ((with_reducible show wpAny _ _ (call (Value.builtin "dict.get") _) _ _ _); (k_here; k_dflt (refine' ends_get (by (k_asm)) (by (k_mem)) (by (assumption)) (by (assumption)) (by (assumption)) ?_; k_whole); intro e' te' he'))) | ((with_reducible show wpAny _ _ (eval _ _) _ _ _); first | ((with_reducible show wpAny _ _ (eval (PySem.Expr.ListComp (PySem.Expr.Call _ _ _ _) _ _ _) _) _ _ _); (k_here; (rename Fr _ _ _ _ => lF'); (refine' ListComp_ownF lF' (by (exact rfl)) (by (decide)) (by (exact rfl)) (by (decide)) (by (exact rfl)) (by (intro _; exact rfl)) ?_; k_whole))) | ((with_reducible show wpAny _ _ (eval (PySem.Expr.ListComp (PySem.Expr.Subscript _ _ _) _ _ _) _) _ _ _); (k_here; (rename Fr _ _ _ _ => lF'); (refine' ListComp_ownF lF' (by (exact rfl)) (by (decide)) (by (exact rfl)) (by (decide)) (by (exact rfl)) (by (intro _; exact rfl)) ?_; k_whole))) | ((with_reducible show wpAny _ _ (eval (PySem.Expr.Name _ _) _) _ _ _); (refine name_comp (by assumption) (by assumption) ?_))) | ((with_reducible show wpAny _ _ (setItem _ _ _) _ _ _); first | ((with_reducible show wpAny _ _ (setItem (Value.ref _) (Value.str _ _) (Value.bytes _ _)) _ _ _); (k_here; k_dflt (refine' kda_set (knd := PySem.strKind _ _) (by (k_asm)) (by (k_asm)) (by (k_updF)) (by (assumption)) (strKind_is _ _ _ _) (by (assumption)) ?_); intro h' o' F' N' hd'; (try dsimp only at N'))) | ((with_reducible show wpAny _ _ (setItem (Value.ref _) (Value.str _ _) (Value.int _ _)) _ _ _); (k_here; k_dflt (refine' kda_set (knd := PySem.strKind _ _) (by (k_asm)) (by (k_asm)) (by (k_updF)) (by (assumption)) (strKind_is _ _ _ _) (by ((rw [sizeLine_eq]; omega))) ?_); intro h' o' F' N' hd'; (try dsimp only at N')))) | ((with_reducible show wpAny _ _ (getMethod _ _ _) _ _ _); first | ((k_here; (with_reducible show wpAny _ _ (getMethod (Value.ref _) (Str.ofString "get") _) _ _ _); k_dflt (refine' kdg_method (knd := PySem.strKind _ _) (by (k_asm)) (by (k_mem)) (by (assumption)) ?_)))) | ((with_reducible show wpAny _ _ (newTuple _) _ _ _); first | ((with_reducible show wpAny _ _ (newTuple _) _ _ _); (k_here; k_dflt (refine' kup_newTuple (by (k_asm)) (by (k_asm)) ?_ (by (size_fits)); k_whole); intro D' h' F' N' l1'; (try k_lt l1')))) | ((with_reducible show wpAny _ _ (binaryOp _ _ _) _ _ _); first | ((with_reducible show wpAny _ _ (binaryOp Operator.Add (Value.ref _) (Value.ref _)) _ _ _); (k_here; k_dflt (refine' strs_add (by (k_asm)) (by (k_asm)) (by (k_mem)) (by (k_mem)) (by (walk_at "M strs")) (by (walk_at "M strs")) (by ((try simp only [List.length_cons, List.length_nil]); omega)) ?_; k_whole); intro us' D' h' hus' hul' hum' F' N' l1'; (try simp only [List.length_cons, List.length_nil] at hul'); (try k_lt l1')))) | ((fail_if_success (with_reducible show wpAny _ _ (pyIter _) _ _ _)); walk1) | (dsimp only; (fail_if_success (with_reducible show wpAny _ _ (pyIter _) _ _ _)); walk1) | (leave1; walk_say "STEP leave1"; try dsimp only) | fail "no step"))
            all_goals
              exact obj3_end (by assumption) (by assumption) (by assumption) off3 (by with_unfolding_all rfl) (by with_unfolding_all rfl) (by with_unfolding_all rfl) (by with_unfolding_all rfl) (by with_unfolding_all rfl) hQ0 hQp hQE hQR (by with_reducible assumption) hEnds hkE hrels hrl hrok hkn (by with_reducible assumption) (by with_reducible assumption) (by with_reducible assumption) (by with_reducible assumption) (by with_reducible assumption) (by with_reducible assumption) ha4 ha5
        · have NN := (by assumption : News _ _ _ (_ :: _ :: (Rr, _) :: (Ed, _) :: (Y, _) :: (d, _) :: (Dn, _) :: (_, _) :: (pen, _) :: (R3 ++ own)))
          exact turn_end (news' := (Rr, _) :: (Ed, _) :: (Y, _) :: (d, _) :: (Dn, _) :: (_, _) :: (pen, _) :: R3) (by assumption) (news_tail (news_tail NN)) rfl (off_keys off3 rfl) ⟨by with_unfolding_all rfl, by with_unfolding_all rfl, by with_unfolding_all rfl, by with_unfolding_all rfl, by with_unfolding_all rfl, R3, _, _, rs, cR, oE, kE, rels, rfl, hQ0, hQp, hQE, hQR, hdE, hEnds, by omega, hrels, by omega, hrok, by omega, by omega⟩
      case done3 =>
        intro m₃ news₃ h3 tk3 hJ0' F3 N3
        refine Classical.byContradiction fun hG => ?_
        obtain ⟨n1, n2, n3, n4, n5, R3, a3, ta3, rs, cR, oE, kE, rels, rfl, hQ0, hQp, hQE, hQR, hdE, hEnds, hkE, hrels, hrl, hrok, ha4, ha5⟩ := hJ0'
        refine hG ?_
        clear hG
        (try have hcap : a3 ≤ 1000 := by omega)
        (try have hnn : 0 ≤ a3 := by omega)
        replace F3 := pins F3 (.cons n1 (.cons n2 (.cons n3 (.cons n4 (.cons n5 .nil)))))
        ((try ((show let Q' := _; let E' := _; wpAny _ _ _ Q' E' _); intro Q' E')); repeat' (first | (k_unfold; (try dsimp only)) | ((with_reducible show wpAny _ _ (exec _ _) _ _ _); first | ((with_reducible show wpAny _ _ (exec (PySem.Stmt.For _ _ _ _ _) _) _ _ _); (k_here; (rename Fr _ _ _ _ => lF'); (with_unfolding_all refine' For_invVF lF' (by (exact rfl)) (by (exact rfl)) ?_; k_whole)))) | ((with_reducible show wpAny _ _ (subscriptTail _ _ _ _) _ _ _); first | ((with_reducible show wpAny _ _ (subscriptTail (PySem.Expr.Name _ _) (PySem.Expr.Slice _ _ _ _) (Value.ref _) (Value.ref _)) _ _ _); (k_here; (with_reducible show wpAny _ _ (subscriptTail _ (PySem.Expr.Slice _ _ none _) (Value.ref _) (Value.ref _)) _ _ _); k_dflt (refine' names_slice (by (k_asm)) (by (k_asm)) (by (k_mem)) (by (assumption)) (by (assumption)) ?_ (by (with_unfolding_all rfl)) (by (intro _; with_unfolding_all rfl)); k_whole); intro zs' k' D' h' hzs' hk1' F' N' l1')) | ((with_reducible show wpAny _ _ (subscriptTail (PySem.Expr.Name _ _) (PySem.Expr.Constant _ _ _) (Value.ref _) (Value.int _ _)) _ _ _); (k_here; k_dflt (refine' tup3_0 (by (k_asm)) (by (k_mem)) ?_))) | ((with_reducible show wpAny _ _ (subscriptTail (PySem.Expr.Name _ _) (PySem.Expr.Name _ _) (Value.ref _) (Value.str _ _)) _ _ _); walk_at "M sects") | ((with_reducible show wpAny _ _ (subscriptTail (PySem.Expr.List _ _) (PySem.Expr.Call _ _ _ _) (Value.ref _) (Value.int _ _)) _ _ _); first | walk_at "M sitem" | walk_at "M widths") | ((with_reducible show wpAny _ _ (subscriptTail (PySem.Expr.BinOp _ _ _ _) (PySem.Expr.Call _ _ _ _) (Value.ref _) (Value.int _ _)) _ _ _); walk_at "M sitem") | ((with_reducible show wpAny _ _ (subscriptTail (PySem.Expr.Name _ _) (PySem.Expr.Call _ _ _ _) (Value.ref _) (Value.int _ _)) _ _ _); walk_at "M sitem")) | ((with_reducible show wpAny _ _ (call _ _) _ _ _); first | ((k_here; (with_reducible show wpAny _ _ (call (Value.ref 225) [Value.ref _, Value.int _ _]) _ _ _); k_dflt (refine' draw_u (by (walk_at "M here")) (by (intro t1; k_upd)) (by (k_mem)) (by (k_asm)) (by (first | assumption | omega)) (by (((repeat' (refine nn1 ?_)); first | assumption | omega))) (by ((refine up0 ?_; (repeat' (refine up1 ?_)); first | exact cap0 (by assumption) | omega))) (by (first | decide | assumption | omega)) ?_; k_whole); intro v' t1' t2' h' tk' hv1' hv2' F' N')) | ((with_reducible show wpAny _ _ (call (Value.type "range") _) _ _ _); (k_here; k_dflt (refine' range1 (by (k_asm)) (by (k_asm)) ?_; k_whole); intro r' t1' t2' t3' h' tk' R' F' N')) | ((with_reducible show wpAny _ _ (call (Value.type "bytes") _) _ _ _); walk_at "M bytes") | ((with_reducible show wpAny _ _ (call (Value.builtin "len") _) _ _ _); (k_here; (with_reducible show wpAny _ _ (call (Value.builtin "len") [Value.ref _]) _ _ _); k_dflt (refine' strs_len (by (k_asm)) (by (k_mem)) (by (omega)) ?_))) | ((with_reducible show wpAny _ _ (call (Value.type "str") _) _ _ _); (k_here; (with_reducible refine str_small (by (omega)) ?_))) | ((k_here; (with_reducible show wpAny _ _ (call (Value.ref 232) [Value.ref _, Value.int _ _]) _ _ _); k_dflt (refine' worth_u (by (walk_at "M here")) (by (intro t1; k_upd)) (by (k_mem)) (by (k_asm)) (by (first | assumption | omega)) (by (((repeat' (refine nn1 ?_)); first | assumption | omega))) (by ((refine up0' ?_; (repeat' (refine up1 ?_)); first | exact cap0 (by assumption) | omega))) (by (omega)) (by (omega)) ?_; k_whole); intro v' t1' t2' h' tk' F' N')) | ((with_reducible show wpAny _ _ (call (Value.builtin "len") _) _ _ _); (k_here; (with_reducible show wpAny _ _ (call (Value.builtin "len") [Value.bytes _ _]) _ _ _); (refine KBw.len_K rfl (by omega) ?_))) | ((with_reducible show wpAny _ _ (call (Value.builtin "dict.get") _) _ _ _); (k_here; k_dflt (refine' ends_get (by (k_asm)) (by (k_mem)) (by (assumption)) (by (assumption)) (by (assumption)) ?_; k_whole); intro e' te' he'))) | ((with_reducible show wpAny _ _ (eval _ _) _ _ _); first | ((with_reducible show wpAny _ _ (eval (PySem.Expr.ListComp (PySem.Expr.Call _ _ _ _) _ _ _) _) _ _ _); (k_here; (rename Fr _ _ _ _ => lF'); (refine' ListComp_ownF lF' (by (exact rfl)) (by (decide)) (by (exact rfl)) (by (decide)) (by (exact rfl)) (by (intro _; exact rfl)) ?_; k_whole))) | ((with_reducible show wpAny _ _ (eval (PySem.Expr.ListComp (PySem.Expr.Subscript _ _ _) _ _ _) _) _ _ _); (k_here; (rename Fr _ _ _ _ => lF'); (refine' ListComp_ownF lF' (by (exact rfl)) (by (decide)) (by (exact rfl)) (by (decide)) (by (exact rfl)) (by (intro _; exact rfl)) ?_; k_whole))) | ((with_reducible show wpAny _ _ (eval (PySem.Expr.Name _ _) _) _ _ _); (refine name_comp (by assumption) (by assumption) ?_))) | ((with_reducible show wpAny _ _ (setItem _ _ _) _ _ _); first | ((with_reducible show wpAny _ _ (setItem (Value.ref _) (Value.str _ _) (Value.bytes _ _)) _ _ _); (k_here; k_dflt (refine' kda_set (knd := PySem.strKind _ _) (by (k_asm)) (by (k_asm)) (by (k_updF)) (by (assumption)) (strKind_is _ _ _ _) (by (assumption)) ?_); intro h' o' F' N' hd'; (try dsimp only at N'))) | ((with_reducible show wpAny _ _ (setItem (Value.ref _) (Value.str _ _) (Value.int _ _)) _ _ _); (k_here; k_dflt (refine' kda_set (knd := PySem.strKind _ _) (by (k_asm)) (by (k_asm)) (by (k_updF)) (by (assumption)) (strKind_is _ _ _ _) (by ((rw [sizeLine_eq]; omega))) ?_); intro h' o' F' N' hd'; (try dsimp only at N')))) | ((with_reducible show wpAny _ _ (getMethod _ _ _) _ _ _); first | ((k_here; (with_reducible show wpAny _ _ (getMethod (Value.ref _) (Str.ofString "get") _) _ _ _); k_dflt (refine' kdg_method (knd := PySem.strKind _ _) (by (k_asm)) (by (k_mem)) (by (assumption)) ?_)))) | ((with_reducible show wpAny _ _ (newTuple _) _ _ _); first | ((with_reducible show wpAny _ _ (newTuple _) _ _ _); (k_here; k_dflt (refine' kup_newTuple (by (k_asm)) (by (k_asm)) ?_ (by (size_fits)); k_whole); intro D' h' F' N' l1'; (try k_lt l1')))) | ((with_reducible show wpAny _ _ (binaryOp _ _ _) _ _ _); first | ((with_reducible show wpAny _ _ (binaryOp Operator.Add (Value.ref _) (Value.ref _)) _ _ _); (k_here; k_dflt (refine' strs_add (by (k_asm)) (by (k_asm)) (by (k_mem)) (by (k_mem)) (by (walk_at "M strs")) (by (walk_at "M strs")) (by ((try simp only [List.length_cons, List.length_nil]); omega)) ?_; k_whole); intro us' D' h' hus' hul' hum' F' N' l1'; (try simp only [List.length_cons, List.length_nil] at hul'); (try k_lt l1')))) | ((fail_if_success (with_reducible show wpAny _ _ (pyIter _) _ _ _)); walk1) | (dsimp only; (fail_if_success (with_reducible show wpAny _ _ (pyIter _) _ _ _)); walk1) | (leave1; walk_say "STEP leave1"; try dsimp only) | fail "no step"))
        have NN := (by assumption : News h₀ L _ ((_, tup3 (.ref d) (.ref Y) (.ref Rr)) :: (Rr, _) :: (Ed, _) :: (Y, _) :: (d, _) :: (Dn, _) :: (_, _) :: (pen, _) :: R3))
        have hTp := (by assumption : @LT.lt Nat _ Rr _ ∧ @LT.lt Nat _ Ed _ ∧ @LT.lt Nat _ Y _ ∧ @LT.lt Nat _ d _ ∧ @LT.lt Nat _ Dn _ ∧ @LT.lt Nat _ _ _ ∧ @LT.lt Nat _ pen _ ∧ AllLt _ R3).2.2.2.2.2.2.1
        refine ret _ d Y Rr _ secs syms rels _ _ _ _ (by assumption) (news_pen NN) (all_cons (Nat.ne_of_gt hTp) (all_cons (Nat.ne_of_gt x5) (all_cons (Nat.ne_of_gt z6) (all_cons (Nat.ne_of_gt y4) (all_cons (Nat.ne_of_gt lt3) (all_cons (Nat.ne_of_gt lt5) (all_cons (Nat.ne_of_gt (Nat.lt_succ_of_lt lt6)) hQp)))))))
          (fun p hp => mem7 (hQ0 _ (hR0 _ hp)))
          ⟨.head _, ⟨o, kS, .tail _ (.tail _ (.tail _ (.tail _ (.head _)))), hod, hsecs⟩, hlo, ⟨ys, c, .tail _ (.tail _ (.tail _ (.head _))), hsyms.mono fun _ _ z => z.keeps fun p hp => mem7 (hQ0 _ hp)⟩, ⟨rs, cR, .tail _ (.head _), hrels.mono fun _ _ z => z.keeps fun p hp => mem7 hp⟩, ?ky, hlen, ?nm, ?ns, ?sc, ?nr, hrok⟩ ?l1 ?l2
        case ky => obtain ⟨k, k1, k2, e⟩ := hnm; exact ⟨k, k1, k2, hkeys.trans e⟩
        case nm => rw [← hsyms.length, hyl2, hsn]
        case ns => rw [← hsyms.length]; exact hyl
        case sc => rw [hkeys]; exact hss
        case nr => rw [← hrels.length]; omega
        case l1 => omega
        case l2 => omega))
end

end
/-! part TAsm -/
section
theorem atTAsm : True := by
  w_top off
  exact trivial
abbrev tup2 (a b : Value) : Obj := { cls := .type "tuple", data := .seq #[a, b] }
abbrev tup4 (a b c d : Value) : Obj := { cls := .type "tuple", data := .seq #[a, b, c, d] }
abbrev tupL (vs : List Value) : Obj := { cls := .type "tuple", data := .seq vs.toArray }
def PairTup (news : List (Addr × Obj)) (v : Value) (p : Str × List Int) : Prop := ∃ x b u1 u2, v = .ref x ∧ (x, tup2 (.str p.1 u1) (.bytes b u2)) ∈ news ∧ KBw.bInts b = p.2
def SymTold (news : List (Addr × Obj)) (v : Value) (y : Sym) : Prop := ∃ x u1 u2 u3, v = .ref x ∧ (x, tup4 (.str y.name u1) (.str y.sect u2) (.int y.worth u3) (.bool false)) ∈ news
section
variable {prog : Program} {w : World} {A : Around} {E : Value → Shared → Prop} {env : Env} {h₀ : Heap} {m : Str → Option Value}
theorem Assign_ListComp_ownF {s : Shared} {elt iter : PySem.Expr} {x y : Str} {px py : Pos} {scope : Scope} {cl : List (Str × Addr)} {pos spos : Pos} {Q : Flow → Shared → Prop} (_ : Fr h₀ env.locals s.heap m)
    (hsw : swapsWith (.ListComp elt [⟨.Name x px, iter, [], 0⟩] scope pos) (some (.Name y py)) spos.line env = pure true)
    (hclos : closureFor scope env = pure cl) (hcell : ∀ z ∈ scope.names, z.2 ≠ .cell) (hkind : scope.kind = .function)
    (hnames : ∀ z ∈ scope.names, z.2 = .local → scope.names.lookup z.1 = some .local) (hx : scope.names.lookup x = some .local)
    (hy : env.kindOf y = some .local) (hp : (env.scope.kind == .class || (env.scope.kind == .module && env.locals != env.globals)) = false)
    (hs : ∀ x, foldedSetIterable iter env x = pure x)
    (h : wpAny (model prog w) A (eval iter env) (fun xv s₁ => wpAny (model prog w) A (pyIter xv) (fun it s₂ => CompAt prog w A h₀ env.locals m env scope cl x elt
      (fun D ys c news₁ _ _ s₂ => ∀ h' tk, Fr h₀ env.locals h' (fun z => if z = y then some (.ref D) else m z) → News h₀ env.locals h' ((D, PySem.W.listOf ys.toArray c) :: news₁) → Q .next { s₂ with heap := h', toks := tk }) it s₂) E s₁) E s) :
    wpAny (model prog w) A (exec (.Assign [.Name y py] (.ListComp elt [⟨.Name x px, iter, [], 0⟩] scope pos) spos) env) Q E s :=
  Assign_ListComp_own hsw hclos hcell hkind hnames hx hy hp hs h
end
/-- what told gives: the tuple of the sorted pairs, of the symbols, of the rows -/
def ToldIs (ns : List (Addr × Obj)) (T : Addr) (secs : List (Str × List Int)) (syms : List Sym) (rels : List Rel) : Prop :=
  ∃ P S R ps ss rs, (T, tup3 (.ref P) (.ref S) (.ref R)) ∈ ns ∧ (P, tupL ps) ∈ ns ∧ All2 (PairTup ns) ps (sortN secs) ∧ (S, tupL ss) ∈ ns ∧ All2 (SymTold ns) ss syms ∧ (R, tupL rs) ∈ ns ∧ All2 (RelTup ns) rs rels
theorem PairTup.keeps {n n' : List (Addr × Obj)} (k : ∀ p ∈ n, p ∈ n') {v : Value} {y : Str × List Int} (h : PairTup n v y) : PairTup n' v y := by
  obtain ⟨x, b, u1, u2, e, a, q⟩ := h; exact ⟨x, b, u1, u2, e, k _ a, q⟩
theorem SymTold.keeps {n n' : List (Addr × Obj)} (k : ∀ p ∈ n, p ∈ n') {v : Value} {y : Sym} (h : SymTold n v y) : SymTold n' v y := by
  obtain ⟨x, u1, u2, u3, e, a⟩ := h; exact ⟨x, u1, u2, u3, e, k _ a⟩
theorem kv_of_mem {kS : List (Str × Value)} {secs : List (Str × List Int)} (hS : All2 KvAt kS secs) (hn : (secs.map (·.1)).Nodup) {p : Str × List Int} (hp' : p ∈ secs) : ∃ b t, valueAt kS p.1 = some (.bytes b t) ∧ KBw.bInts b = p.2 := out_of (by exact trivial : Hold (by
  obtain ⟨i, hi⟩ := List.getElem?_of_mem hp'
  have hlt := (List.getElem?_eq_some_iff.mp hi).1
  obtain ⟨kv, hkv⟩ : ∃ kv, kS[i]? = some kv := ⟨_, List.getElem?_eq_getElem (by rw [hS.length]; exact hlt)⟩
  obtain ⟨p', hp2, r1, b, t, r2, r3⟩ := hS.get hkv
  rw [hi] at hp2
  cases hp2
  exact ⟨b, t, kv_get hS hn (by rw [hkv]; exact congrArg some (Prod.ext r1 r2)), r3⟩))
theorem off_new1 {T : Addr} {o : Obj} {ns own : List (Addr × Obj)} (h : AllLt T (ns ++ own)) (off : Off ns own) : Off ((T, o) :: ns) own := fun p hp q hq => by
  rcases List.mem_cons.mp hp with rfl | hp
  · exact (allLt_ne h q (List.mem_append_right _ hq)).symm
  · exact off p hp q hq
theorem off_new2 {T : Addr} {o : Obj} {ns own : List (Addr × Obj)} (h : ∀ p ∈ ns ++ own, p.1 < T) (off : Off ns own) : Off ((T, o) :: ns) own := fun p hp q hq => by
  rcases List.mem_cons.mp hp with rfl | hp
  · exact (lt_ne h q (List.mem_append_right _ hq)).symm
  · exact off p hp q hq
theorem keys_nodup {ks : List Str} (h : ∃ k, 1 ≤ k ∧ k ≤ 3 ∧ ks = [Str.ofString ".text", Str.ofString ".data", Str.ofString "x"].take k) : ks.Nodup := by
  obtain ⟨k, k1, k2, rfl⟩ := h
  exact (List.take_sublist _ _).nodup (by decide)
theorem told_fin {h₀ h' : Heap} {L T P S R x1 x2 x3 : Addr} {o1 o2 o3 : Obj} {m : Str → Option Value} {s : Shared} {Q : Value → Shared → Prop} {tk' : Nat} {news ns ns2 ns3 : List (Addr × Obj)} {ps ss rs : List Value} {secs : List (Str × List Int)} {syms : List Sym} {rels : List Rel}
    (ret : ∀ T ns h' tk', Fr h₀ L h' m → News h₀ L h' ns → (∀ p ∈ news, p ∈ ns) → ToldIs ns T secs syms rels → Q (.ref T) { s with heap := h', toks := tk' })
    (F : Fr h₀ L h' m) (NN : News h₀ L h' ((T, tup3 (.ref P) (.ref S) (.ref R)) :: (R, tupL rs) :: (x3, o3) :: ns3)) (hb : ∀ p ∈ news, p ∈ ns) (h2 : ∀ p ∈ (P, tupL ps) :: (x1, o1) :: ns, p ∈ ns2) (h3 : ∀ p ∈ (S, tupL ss) :: (x2, o2) :: ns2, p ∈ ns3)
    (a1 : All2 (PairTup ns) ps (sortN secs)) (a2 : All2 (SymTold ns2) ss syms) (a3 : All2 (RelTup ns3) rs rels) : Q (.ref T) { s with heap := h', toks := tk' } := out_of (by exact trivial : Hold (by
  have c3 : ∀ p ∈ ns3, p ∈ (T, tup3 (.ref P) (.ref S) (.ref R)) :: (R, tupL rs) :: (x3, o3) :: ns3 := fun p hp => List.Mem.tail _ (List.Mem.tail _ (List.Mem.tail _ hp))
  have c2 := fun p (hp : p ∈ ns2) => c3 _ (h3 p (.tail _ (.tail _ hp)))
  have c1 := fun p (hp : p ∈ ns) => c2 _ (h2 p (.tail _ (.tail _ hp)))
  exact ret _ _ _ _ F NN (fun p hp => c1 _ (hb p hp)) ⟨P, S, R, ps, ss, rs, .head _, c2 _ (h2 _ (.head _)), a1.mono fun _ _ z => z.keeps c1, c3 _ (h3 _ (.head _)), a2.mono fun _ _ z => z.keeps c2, .tail _ (.head _), a3.mono fun _ _ z => z.keeps c3⟩))
def tJ1 (base : List (Addr × Obj)) (secs : List (Str × List Int)) (i : Nat) (ys : List Value) (ns : List (Addr × Obj)) : Prop := (∀ p ∈ base, p ∈ ns) ∧ All2 (PairTup ns) ys ((sortN secs).take i)
def tJ2 (base : List (Addr × Obj)) (syms : List Sym) (i : Nat) (ys : List Value) (ns : List (Addr × Obj)) : Prop := (∀ p ∈ base, p ∈ ns) ∧ All2 (SymTold ns) ys (syms.take i)
def tJ3 (base : List (Addr × Obj)) (rels : List Rel) (i : Nat) (ys : List Value) (ns : List (Addr × Obj)) : Prop := (∀ p ∈ base, p ∈ ns) ∧ All2 (RelTup ns) ys (rels.take i)
section
set_option maxHeartbeats 80000000 in
theorem told_ok {w : World} {A : Around} {base h₀ : Heap} {l : List Env} {L : Addr} {m : Str → Option Value} {s : Shared} {Q E : Value → Shared → Prop} {news : List (Addr × Obj)} {asm da D Y R O : Addr} {t1 t2 t3 t4 : Tok} {vs rs : List Value} {c c2 : Nat} {syms : List Sym} {rels : List Rel} {oS : Obj} {kS : List (Str × Value)} {secs : List (Str × List Int)}
    (H : Here 8 w A base l h₀ L m s.heap news) (hx : (asm, instObj 186 da) ∈ news) (hda : (da, asmDict w t1 t2 t3 t4 (.ref D) (.ref Y) (.ref R) (.ref O)) ∈ news) (hY : (Y, PySem.W.listOf vs.toArray c) ∈ news) (hs : All2 (SymAt w news) vs syms)
    (hR : (R, PySem.W.listOf rs.toArray c2) ∈ news) (hr : All2 (RelAt w news) rs rels) (hzs : vs.length ≤ 1000) (hzr : rs.length ≤ 1000)
    (hS : (D, oS) ∈ news) (hSd : oS.IsDictOf (PySem.strKind PySem.Challenge.pw_nn0048_01 w) kS) (hSl : (D == sysModules) = false) (hkS : All2 KvAt kS secs) (hkeys : ∃ k, 1 ≤ k ∧ k ≤ 3 ∧ secs.map (·.1) = [Str.ofString ".text", Str.ofString ".data", Str.ofString "x"].take k)
    (ret : ∀ T ns h' tk', Fr h₀ L h' m → News h₀ L h' ns → (∀ p ∈ news, p ∈ ns) → ToldIs ns T secs syms rels → Q (.ref T) { s with heap := h', toks := tk' }) :
    wpAny (model PySem.Challenge.pw_nn0048_01 w) A (call (.ref 176) [.ref asm]) Q E s := out_of (by exact trivial : Hold (by
  obtain ⟨e, el, Bl, F, X, N, T, hk, hd, hu⟩ := H
  subst e el
  refine wpAny_call ?_
  k_dflt ((refine' code_defC ?k1 ?k2 ?k3 ?k4 ?k5 ?kA ?kF ?kK ?k6 ?k7 ?k8 ?k9 ?kB ?kD ?_ ?c2 ?c3 ?c4; (case kA => exact rfl); (case kF => exact rfl); (case kK => assumption); (case k1 => k_asm); (case k2 => k_asm); (case k3 => k_asm); (case k4 => k_asm); (case k5 => k_asm); (case k6 => k_is); (case k7 => k_is); (case k8 => ktr_room); (case k9 => exact BindsTo.of_eq rfl); (case kB => exact rfl); (case kD => decide +kernel); (case c2 => exact rfl); (case c3 => exact rfl); (case c4 => exact rfl); k_whole; intro g' L' h' tk' cells' FG' F' N' Y' B' X' T' l1; (try k_lt l1); k_cells Y'; (try simp only [List.cons_append, List.nil_append] at N')))
  walk1
  ((k_here; (rename Fr _ _ _ _ => lF'); (refine' Assign_ListComp_ownF lF' ?c0 ?c1 ?c2 ?c3 ?c4 ?c5 ?c7 ?c8 ?c6 ?_; (case c0 => exact rfl); (case c1 => exact rfl); (case c2 => decide); (case c3 => exact rfl); (case c4 => decide); (case c5 => exact rfl); (case c7 => exact rfl); (case c8 => exact rfl); (case c6 => intro _; exact rfl); k_whole)))
  ((try ((show let Q' := _; let E' := _; wpAny _ _ _ Q' E' _); intro Q' E')); repeat' (first | (k_unfold; (try dsimp only)) | ((with_reducible show wpAny _ _ (eval _ _) _ _ _); first | ((with_reducible show wpAny _ _ (eval (PySem.Expr.ListComp (PySem.Expr.Call _ _ _ _) _ _ _) _) _ _ _); (k_here; (rename Fr _ _ _ _ => lF'); (refine' ListComp_ownF lF' ?c1 ?c2 ?c3 ?c4 ?c5 ?c6 ?_; (case c1 => exact rfl); (case c2 => decide); (case c3 => exact rfl); (case c4 => decide); (case c5 => exact rfl); (case c6 => intro _; exact rfl); k_whole))) | ((with_reducible show wpAny _ _ (eval (PySem.Expr.Name _ _) _) _ _ _); (refine name_comp (by assumption) (by assumption) ?_))) | ((with_reducible show wpAny _ _ (call _ _) _ _ _); first | ((with_reducible show wpAny _ _ (call (Value.type "tuple") _) _ _ _); (k_here; (with_reducible show wpAny _ _ (call (Value.type _) [Value.ref _]) _ _ _); k_dflt (refine' kde_tupleOf ?F ?N ?l ?z rfl ?_; (case F => k_asm); (case N => k_asm); (case l => exact News.isList (by k_asm) (by k_mem)); (case z => (rw [List.size_toArray]; omega)); k_whole); intro D' h' F' N' l1')) | ((k_here; (show wpAny _ _ (call (Value.ref 150) [Value.ref _]) _ _ _); k_dflt (refine' reltold_ok ?kH ?p0 ?p1 ?_; (case kH => walk_at "M here"); (case p0 => assumption); (case p1 => assumption); k_whole); intro h' tk' T' F' N' l1')) | ((k_here; (show wpAny _ _ (call (Value.ref 122) [Value.ref _]) _ _ _); k_dflt (refine' symtold_ok ?kH ?p0 ?p1 ?_; (case kH => walk_at "M here"); (case p0 => assumption); (case p1 => assumption); k_whole); intro h' tk' T' F' N' l1')) | ((with_reducible show wpAny _ _ (call (Value.builtin "sorted") _) _ _ _); (k_here; k_dflt (refine' names_sorted ?k0 ?k1 ?k2 ?k3 ?k4 ?k5 ?k6 ?k7 ?_; (case k0 => exact rfl); (case k1 => k_asm); (case k2 => k_asm); (case k3 => k_mem); (case k4 => assumption); (case k5 => assumption); (case k6 => assumption); (case k7 => assumption); k_whole); intro us' c' B' h' tk' hus' F' N' l1'; (try k_lt l1')))) | ((with_reducible show wpAny _ _ (subscriptTail _ _ _ _) _ _ _); first | ((with_reducible show wpAny _ _ (subscriptTail (PySem.Expr.Name _ _) (PySem.Expr.Name _ _) (Value.ref _) (Value.str _ _)) _ _ _); (k_here; k_dflt (refine' kda_item (knd := PySem.strKind _ _) ?k1 ?k2 ?k3 (strKind_is _ _ _ _) ?k5 ?_; (case k1 => k_asm); (case k2 => k_mem); (case k3 => assumption); (case k5 => assumption))))) | ((with_reducible show wpAny _ _ (newTuple _) _ _ _); first | ((with_reducible show wpAny _ _ (newTuple _) _ _ _); (k_here; k_dflt (refine' kup_newTuple ?F ?N ?_ ?z; (case F => k_asm); (case N => k_asm); (case z => size_fits); k_whole); intro D' h' F' N' l1'; (try k_lt l1')))) | ((fail_if_success (with_reducible show wpAny _ _ (pyIter _) _ _ _)); walk1) | (dsimp only; (fail_if_success (with_reducible show wpAny _ _ (pyIter _) _ _ _)); walk1) | (leave1; walk_say "STEP leave1"; try dsimp only) | fail "no step"))
  have hnd := keys_nodup hkeys
  replace hkeys : Names3 (secs.map (·.1)) := ⟨hkeys⟩
  rename (All2 StrV _ (sortN _)) => hus
  have hl3 : secs.length ≤ 3 := by
    obtain ⟨k, k1, k3, ek⟩ := hkeys
    rw [← List.length_map (f := fun p : Str × List Int => p.1), ek, List.length_take]
    simp only [List.length_cons, List.length_nil]; omega
  refine compList (tJ1 _ secs) rfl (by assumption) (by assumption) (.head _) ?hsz ?hJ ⟨fun _ z => z, by rw [List.take_zero]; exact .nil⟩ ?turn ?fin
  case hsz =>
    rw [List.size_toArray, hus.length, sortN_len, List.length_map, sizeLine_eq]; omega
  case hJ => rintro i ys n ⟨hb, -⟩; exact hb _ (.head _)
  case turn =>
    intro i v ys ns h tk own C mc E' hi hJ0' off nsO hmc F1 N1
    refine Classical.byContradiction fun hG => ?_
    obtain ⟨hsub, hall⟩ := hJ0'
    rw [List.getElem?_toArray] at hi
    obtain ⟨nm, hnm, tn, rfl⟩ := hus.get hi
    rw [← sortN_map, List.getElem?_map] at hnm
    obtain ⟨p, hp, hpe⟩ := Option.map_eq_some_iff.mp hnm
    subst hpe
    obtain ⟨b, tb, hv, hb⟩ := kv_of_mem hkS hnd (sortN_mem (List.mem_of_getElem? hp))
    refine hG ?_
    clear hG
    have hNs := nsO h fun p hp => (N1 p (List.mem_append_right _ hp)).1
    have up : ∀ p ∈ news, p ∈ ns ++ own := fun p hp => List.mem_append_left _ (hsub _ (.tail _ (.tail _ hp)))
    have hx := up _ hx
    have hda := up _ hda
    have hS := up _ hS
    have hcell := List.mem_append_left own (hsub _ (.tail _ (.head _)))
    ((try ((show let Q' := _; let E' := _; wpAny _ _ _ Q' E' _); intro Q' E')); repeat' (first | (k_unfold; (try dsimp only)) | ((with_reducible show wpAny _ _ (eval _ _) _ _ _); first | ((with_reducible show wpAny _ _ (eval (PySem.Expr.ListComp (PySem.Expr.Call _ _ _ _) _ _ _) _) _ _ _); (k_here; (rename Fr _ _ _ _ => lF'); (refine' ListComp_ownF lF' ?c1 ?c2 ?c3 ?c4 ?c5 ?c6 ?_; (case c1 => exact rfl); (case c2 => decide); (case c3 => exact rfl); (case c4 => decide); (case c5 => exact rfl); (case c6 => intro _; exact rfl); k_whole))) | ((with_reducible show wpAny _ _ (eval (PySem.Expr.Name _ _) _) _ _ _); (refine name_comp (by assumption) (by assumption) ?_))) | ((with_reducible show wpAny _ _ (call _ _) _ _ _); first | ((with_reducible show wpAny _ _ (call (Value.type "tuple") _) _ _ _); (k_here; (with_reducible show wpAny _ _ (call (Value.type _) [Value.ref _]) _ _ _); k_dflt (refine' kde_tupleOf ?F ?N ?l ?z rfl ?_; (case F => k_asm); (case N => k_asm); (case l => exact News.isList (by k_asm) (by k_mem)); (case z => (rw [List.size_toArray]; omega)); k_whole); intro D' h' F' N' l1')) | ((k_here; (show wpAny _ _ (call (Value.ref 150) [Value.ref _]) _ _ _); k_dflt (refine' reltold_ok ?kH ?p0 ?p1 ?_; (case kH => walk_at "M here"); (case p0 => assumption); (case p1 => assumption); k_whole); intro h' tk' T' F' N' l1')) | ((k_here; (show wpAny _ _ (call (Value.ref 122) [Value.ref _]) _ _ _); k_dflt (refine' symtold_ok ?kH ?p0 ?p1 ?_; (case kH => walk_at "M here"); (case p0 => assumption); (case p1 => assumption); k_whole); intro h' tk' T' F' N' l1')) | ((with_reducible show wpAny _ _ (call (Value.builtin "sorted") _) _ _ _); (k_here; k_dflt (refine' names_sorted ?k0 ?k1 ?k2 ?k3 ?k4 ?k5 ?k6 ?k7 ?_; (case k0 => exact rfl); (case k1 => k_asm); (case k2 => k_asm); (case k3 => k_mem); (case k4 => assumption); (case k5 => assumption); (case k6 => assumption); (case k7 => assumption); k_whole); intro us' c' B' h' tk' hus' F' N' l1'; (try k_lt l1')))) | ((with_reducible show wpAny _ _ (subscriptTail _ _ _ _) _ _ _); first | ((with_reducible show wpAny _ _ (subscriptTail (PySem.Expr.Name _ _) (PySem.Expr.Name _ _) (Value.ref _) (Value.str _ _)) _ _ _); (k_here; k_dflt (refine' kda_item (knd := PySem.strKind _ _) ?k1 ?k2 ?k3 (strKind_is _ _ _ _) ?k5 ?_; (case k1 => k_asm); (case k2 => k_mem); (case k3 => assumption); (case k5 => assumption))))) | ((with_reducible show wpAny _ _ (newTuple _) _ _ _); first | ((with_reducible show wpAny _ _ (newTuple _) _ _ _); (k_here; k_dflt (refine' kup_newTuple ?F ?N ?_ ?z; (case F => k_asm); (case N => k_asm); (case z => size_fits); k_whole); intro D' h' F' N' l1'; (try k_lt l1')))) | ((fail_if_success (with_reducible show wpAny _ _ (pyIter _) _ _ _)); walk1) | (dsimp only; (fail_if_success (with_reducible show wpAny _ _ (pyIter _) _ _ _)); walk1) | (leave1; walk_say "STEP leave1"; try dsimp only) | fail "no step"))
    have NN := (by with_reducible assumption : News _ _ _ ((_, tup2 _ _) :: (ns ++ own)))
    refine comp_end (news' := (_, _) :: ns) (by assumption) NN rfl (off_new2 (by with_reducible assumption) off) ⟨fun p hp => .tail _ (hsub p hp), ?_⟩
    rw [List.take_succ, hp]
    exact (hall.mono fun _ _ z => z.keeps fun p hp => .tail _ hp).snoc ⟨_, b, _, _, rfl, .head _, hb⟩
  case fin =>
    intro D1 ys c1 ns h tk H2 hJ0' hlen F1 N1 hne h' tk' F2 N2
    refine Classical.byContradiction fun hG => ?_
    obtain ⟨hsub, hall⟩ := hJ0'
    refine hG ?_
    clear hG
    rw [List.size_toArray, hus.length, sortN_len, List.length_map] at hlen
    rw [List.size_toArray, hus.length, sortN_len, List.length_map, ← sortN_len secs, List.take_length] at hall
    have hyl : ys.length ≤ 1000 := by omega
    have hx2 := hsub _ (.tail _ (.tail _ hx))
    have hda2 := hsub _ (.tail _ (.tail _ hda))
    have hY2 := hsub _ (.tail _ (.tail _ hY))
    have hR2 := hsub _ (.tail _ (.tail _ hR))
    have hcell := hsub _ (.tail _ (.head _))
    have hbase := fun p hp => hsub p (.tail _ (.tail _ hp))
    ((try ((show let Q' := _; let E' := _; wpAny _ _ _ Q' E' _); intro Q' E')); repeat' (first | (k_unfold; (try dsimp only)) | ((with_reducible show wpAny _ _ (eval _ _) _ _ _); first | ((with_reducible show wpAny _ _ (eval (PySem.Expr.ListComp (PySem.Expr.Call _ _ _ _) _ _ _) _) _ _ _); (k_here; (rename Fr _ _ _ _ => lF'); (refine' ListComp_ownF lF' ?c1 ?c2 ?c3 ?c4 ?c5 ?c6 ?_; (case c1 => exact rfl); (case c2 => decide); (case c3 => exact rfl); (case c4 => decide); (case c5 => exact rfl); (case c6 => intro _; exact rfl); k_whole))) | ((with_reducible show wpAny _ _ (eval (PySem.Expr.Name _ _) _) _ _ _); (refine name_comp (by assumption) (by assumption) ?_))) | ((with_reducible show wpAny _ _ (call _ _) _ _ _); first | ((with_reducible show wpAny _ _ (call (Value.type "tuple") _) _ _ _); (k_here; (with_reducible show wpAny _ _ (call (Value.type _) [Value.ref _]) _ _ _); k_dflt (refine' kde_tupleOf ?F ?N ?l ?z rfl ?_; (case F => k_asm); (case N => k_asm); (case l => exact News.isList (by k_asm) (by k_mem)); (case z => (rw [List.size_toArray]; omega)); k_whole); intro D' h' F' N' l1')) | ((k_here; (show wpAny _ _ (call (Value.ref 150) [Value.ref _]) _ _ _); k_dflt (refine' reltold_ok ?kH ?p0 ?p1 ?_; (case kH => walk_at "M here"); (case p0 => assumption); (case p1 => assumption); k_whole); intro h' tk' T' F' N' l1')) | ((k_here; (show wpAny _ _ (call (Value.ref 122) [Value.ref _]) _ _ _); k_dflt (refine' symtold_ok ?kH ?p0 ?p1 ?_; (case kH => walk_at "M here"); (case p0 => assumption); (case p1 => assumption); k_whole); intro h' tk' T' F' N' l1')) | ((with_reducible show wpAny _ _ (call (Value.builtin "sorted") _) _ _ _); (k_here; k_dflt (refine' names_sorted ?k0 ?k1 ?k2 ?k3 ?k4 ?k5 ?k6 ?k7 ?_; (case k0 => exact rfl); (case k1 => k_asm); (case k2 => k_asm); (case k3 => k_mem); (case k4 => assumption); (case k5 => assumption); (case k6 => assumption); (case k7 => assumption); k_whole); intro us' c' B' h' tk' hus' F' N' l1'; (try k_lt l1')))) | ((with_reducible show wpAny _ _ (subscriptTail _ _ _ _) _ _ _); first | ((with_reducible show wpAny _ _ (subscriptTail (PySem.Expr.Name _ _) (PySem.Expr.Name _ _) (Value.ref _) (Value.str _ _)) _ _ _); (k_here; k_dflt (refine' kda_item (knd := PySem.strKind _ _) ?k1 ?k2 ?k3 (strKind_is _ _ _ _) ?k5 ?_; (case k1 => k_asm); (case k2 => k_mem); (case k3 => assumption); (case k5 => assumption))))) | ((with_reducible show wpAny _ _ (newTuple _) _ _ _); first | ((with_reducible show wpAny _ _ (newTuple _) _ _ _); (k_here; k_dflt (refine' kup_newTuple ?F ?N ?_ ?z; (case F => k_asm); (case N => k_asm); (case z => size_fits); k_whole); intro D' h' F' N' l1'; (try k_lt l1')))) | ((fail_if_success (with_reducible show wpAny _ _ (pyIter _) _ _ _)); walk1) | (dsimp only; (fail_if_success (with_reducible show wpAny _ _ (pyIter _) _ _ _)); walk1) | (leave1; walk_say "STEP leave1"; try dsimp only) | fail "no step"))
    refine compList (tJ2 _ syms) rfl (by assumption) (by assumption) (items := List.toArray vs) (c := c) ?hl2 ?hsz2 ?hJ2 ⟨fun _ z => z, by rw [List.take_zero]; exact .nil⟩ ?turn2 ?fin2
    case hl2 => k_mem
    case hsz2 => rw [List.size_toArray, sizeLine_eq]; omega
    case hJ2 => rintro i ys2 n ⟨hb, -⟩; exact hb _ (by k_mem)
    case turn2 =>
      intro i v ys2 ns2 h2 tk2 own C mc E' hi hJ0' off nsO hmc F3 N3
      refine Classical.byContradiction fun hG => ?_
      obtain ⟨hsub2, hall2⟩ := hJ0'
      rw [List.getElem?_toArray] at hi
      obtain ⟨y, hy, x, dx, s1, s2, s3, s4, u1, u2, u3, rfl, hx1, hdx1⟩ := hs.get hi
      refine hG ?_
      clear hG
      have hNs := nsO h2 fun p hp => (N3 p (List.mem_append_right _ hp)).1
      replace hx1 := List.mem_append_left own (hsub2 _ (.tail _ (.tail _ (hbase _ hx1))))
      replace hdx1 := List.mem_append_left own (hsub2 _ (.tail _ (.tail _ (hbase _ hdx1))))
      ((try ((show let Q' := _; let E' := _; wpAny _ _ _ Q' E' _); intro Q' E')); repeat' (first | (k_unfold; (try dsimp only)) | ((with_reducible show wpAny _ _ (eval _ _) _ _ _); first | ((with_reducible show wpAny _ _ (eval (PySem.Expr.ListComp (PySem.Expr.Call _ _ _ _) _ _ _) _) _ _ _); (k_here; (rename Fr _ _ _ _ => lF'); (refine' ListComp_ownF lF' ?c1 ?c2 ?c3 ?c4 ?c5 ?c6 ?_; (case c1 => exact rfl); (case c2 => decide); (case c3 => exact rfl); (case c4 => decide); (case c5 => exact rfl); (case c6 => intro _; exact rfl); k_whole))) | ((with_reducible show wpAny _ _ (eval (PySem.Expr.Name _ _) _) _ _ _); (refine name_comp (by assumption) (by assumption) ?_))) | ((with_reducible show wpAny _ _ (call _ _) _ _ _); first | ((with_reducible show wpAny _ _ (call (Value.type "tuple") _) _ _ _); (k_here; (with_reducible show wpAny _ _ (call (Value.type _) [Value.ref _]) _ _ _); k_dflt (refine' kde_tupleOf ?F ?N ?l ?z rfl ?_; (case F => k_asm); (case N => k_asm); (case l => exact News.isList (by k_asm) (by k_mem)); (case z => (rw [List.size_toArray]; omega)); k_whole); intro D' h' F' N' l1')) | ((k_here; (show wpAny _ _ (call (Value.ref 150) [Value.ref _]) _ _ _); k_dflt (refine' reltold_ok ?kH ?p0 ?p1 ?_; (case kH => walk_at "M here"); (case p0 => assumption); (case p1 => assumption); k_whole); intro h' tk' T' F' N' l1')) | ((k_here; (show wpAny _ _ (call (Value.ref 122) [Value.ref _]) _ _ _); k_dflt (refine' symtold_ok ?kH ?p0 ?p1 ?_; (case kH => walk_at "M here"); (case p0 => assumption); (case p1 => assumption); k_whole); intro h' tk' T' F' N' l1')) | ((with_reducible show wpAny _ _ (call (Value.builtin "sorted") _) _ _ _); (k_here; k_dflt (refine' names_sorted ?k0 ?k1 ?k2 ?k3 ?k4 ?k5 ?k6 ?k7 ?_; (case k0 => exact rfl); (case k1 => k_asm); (case k2 => k_asm); (case k3 => k_mem); (case k4 => assumption); (case k5 => assumption); (case k6 => assumption); (case k7 => assumption); k_whole); intro us' c' B' h' tk' hus' F' N' l1'; (try k_lt l1')))) | ((with_reducible show wpAny _ _ (subscriptTail _ _ _ _) _ _ _); first | ((with_reducible show wpAny _ _ (subscriptTail (PySem.Expr.Name _ _) (PySem.Expr.Name _ _) (Value.ref _) (Value.str _ _)) _ _ _); (k_here; k_dflt (refine' kda_item (knd := PySem.strKind _ _) ?k1 ?k2 ?k3 (strKind_is _ _ _ _) ?k5 ?_; (case k1 => k_asm); (case k2 => k_mem); (case k3 => assumption); (case k5 => assumption))))) | ((with_reducible show wpAny _ _ (newTuple _) _ _ _); first | ((with_reducible show wpAny _ _ (newTuple _) _ _ _); (k_here; k_dflt (refine' kup_newTuple ?F ?N ?_ ?z; (case F => k_asm); (case N => k_asm); (case z => size_fits); k_whole); intro D' h' F' N' l1'; (try k_lt l1')))) | ((fail_if_success (with_reducible show wpAny _ _ (pyIter _) _ _ _)); walk1) | (dsimp only; (fail_if_success (with_reducible show wpAny _ _ (pyIter _) _ _ _)); walk1) | (leave1; walk_say "STEP leave1"; try dsimp only) | fail "no step"))
      have NN := (by with_reducible assumption : News _ _ _ ((_, tup4 (.str y.name _) _ _ _) :: (ns2 ++ own)))
      refine comp_end (news' := (_, _) :: ns2) (by assumption) NN rfl (off_new2 (by with_reducible assumption) off) ⟨fun p hp => .tail _ (hsub2 p hp), ?_⟩
      rw [List.take_succ, hy]
      exact (hall2.mono fun _ _ z => z.keeps fun p hp => .tail _ hp).snoc ⟨_, _, _, _, rfl, .head _⟩
    case fin2 =>
      intro D2 ys2 c2' ns2 h2 tk2 H3 hJ0' hlen2 F3 N3 hne2
      refine Classical.byContradiction fun hG => ?_
      obtain ⟨hsub2, hall2⟩ := hJ0'
      refine hG ?_
      clear hG
      rw [List.size_toArray] at hlen2
      rw [List.size_toArray, hs.length, List.take_length] at hall2
      have hyl2 : ys2.length ≤ 1000 := by omega
      have hx3 := hsub2 _ (.tail _ (.tail _ hx2))
      have hda3 := hsub2 _ (.tail _ (.tail _ hda2))
      have hR3 := hsub2 _ (.tail _ (.tail _ hR2))
      have hcell3 := hsub2 _ (.tail _ (.tail _ hcell))
      ((try ((show let Q' := _; let E' := _; wpAny _ _ _ Q' E' _); intro Q' E')); repeat' (first | (k_unfold; (try dsimp only)) | ((with_reducible show wpAny _ _ (eval _ _) _ _ _); first | ((with_reducible show wpAny _ _ (eval (PySem.Expr.ListComp (PySem.Expr.Call _ _ _ _) _ _ _) _) _ _ _); (k_here; (rename Fr _ _ _ _ => lF'); (refine' ListComp_ownF lF' ?c1 ?c2 ?c3 ?c4 ?c5 ?c6 ?_; (case c1 => exact rfl); (case c2 => decide); (case c3 => exact rfl); (case c4 => decide); (case c5 => exact rfl); (case c6 => intro _; exact rfl); k_whole))) | ((with_reducible show wpAny _ _ (eval (PySem.Expr.Name _ _) _) _ _ _); (refine name_comp (by assumption) (by assumption) ?_))) | ((with_reducible show wpAny _ _ (call _ _) _ _ _); first | ((with_reducible show wpAny _ _ (call (Value.type "tuple") _) _ _ _); (k_here; (with_reducible show wpAny _ _ (call (Value.type _) [Value.ref _]) _ _ _); k_dflt (refine' kde_tupleOf ?F ?N ?l ?z rfl ?_; (case F => k_asm); (case N => k_asm); (case l => exact News.isList (by k_asm) (by k_mem)); (case z => (rw [List.size_toArray]; omega)); k_whole); intro D' h' F' N' l1')) | ((k_here; (show wpAny _ _ (call (Value.ref 150) [Value.ref _]) _ _ _); k_dflt (refine' reltold_ok ?kH ?p0 ?p1 ?_; (case kH => walk_at "M here"); (case p0 => assumption); (case p1 => assumption); k_whole); intro h' tk' T' F' N' l1')) | ((k_here; (show wpAny _ _ (call (Value.ref 122) [Value.ref _]) _ _ _); k_dflt (refine' symtold_ok ?kH ?p0 ?p1 ?_; (case kH => walk_at "M here"); (case p0 => assumption); (case p1 => assumption); k_whole); intro h' tk' T' F' N' l1')) | ((with_reducible show wpAny _ _ (call (Value.builtin "sorted") _) _ _ _); (k_here; k_dflt (refine' names_sorted ?k0 ?k1 ?k2 ?k3 ?k4 ?k5 ?k6 ?k7 ?_; (case k0 => exact rfl); (case k1 => k_asm); (case k2 => k_asm); (case k3 => k_mem); (case k4 => assumption); (case k5 => assumption); (case k6 => assumption); (case k7 => assumption); k_whole); intro us' c' B' h' tk' hus' F' N' l1'; (try k_lt l1')))) | ((with_reducible show wpAny _ _ (subscriptTail _ _ _ _) _ _ _); first | ((with_reducible show wpAny _ _ (subscriptTail (PySem.Expr.Name _ _) (PySem.Expr.Name _ _) (Value.ref _) (Value.str _ _)) _ _ _); (k_here; k_dflt (refine' kda_item (knd := PySem.strKind _ _) ?k1 ?k2 ?k3 (strKind_is _ _ _ _) ?k5 ?_; (case k1 => k_asm); (case k2 => k_mem); (case k3 => assumption); (case k5 => assumption))))) | ((with_reducible show wpAny _ _ (newTuple _) _ _ _); first | ((with_reducible show wpAny _ _ (newTuple _) _ _ _); (k_here; k_dflt (refine' kup_newTuple ?F ?N ?_ ?z; (case F => k_asm); (case N => k_asm); (case z => size_fits); k_whole); intro D' h' F' N' l1'; (try k_lt l1')))) | ((fail_if_success (with_reducible show wpAny _ _ (pyIter _) _ _ _)); walk1) | (dsimp only; (fail_if_success (with_reducible show wpAny _ _ (pyIter _) _ _ _)); walk1) | (leave1; walk_say "STEP leave1"; try dsimp only) | fail "no step"))
      refine compList (tJ3 _ rels) rfl (by assumption) (by assumption) (items := List.toArray rs) (c := c2) ?hl3 ?hsz3 ?hJ3 ⟨fun _ z => z, by rw [List.take_zero]; exact .nil⟩ ?turn3 ?fin3
      case hl3 => k_mem
      case hsz3 => rw [List.size_toArray, sizeLine_eq]; omega
      case hJ3 => rintro i ys2 n ⟨hb, -⟩; exact hb _ (by k_mem)
      case turn3 =>
        intro i v ys3 ns3 h4 tk4 own C mc E' hi hJ0' off nsO hmc F5 N5
        refine Classical.byContradiction fun hG => ?_
        obtain ⟨hsub3, hall3⟩ := hJ0'
        rw [List.getElem?_toArray] at hi
        obtain ⟨y, hy, x, dx, s1, s2, s3, s4, s5, s6, u1, u2, u3, u4, u5, u6, rfl, hx1, hdx1⟩ := hr.get hi
        refine hG ?_
        clear hG
        have hNs := nsO h4 fun p hp => (N5 p (List.mem_append_right _ hp)).1
        replace hx1 := List.mem_append_left own (hsub3 _ (.tail _ (.tail _ (hsub2 _ (.tail _ (.tail _ (hbase _ hx1)))))))
        replace hdx1 := List.mem_append_left own (hsub3 _ (.tail _ (.tail _ (hsub2 _ (.tail _ (.tail _ (hbase _ hdx1)))))))
        ((try ((show let Q' := _; let E' := _; wpAny _ _ _ Q' E' _); intro Q' E')); repeat' (first | (k_unfold; (try dsimp only)) | ((with_reducible show wpAny _ _ (eval _ _) _ _ _); first | ((with_reducible show wpAny _ _ (eval (PySem.Expr.ListComp (PySem.Expr.Call _ _ _ _) _ _ _) _) _ _ _); (k_here; (rename Fr _ _ _ _ => lF'); (refine' ListComp_ownF lF' ?c1 ?c2 ?c3 ?c4 ?c5 ?c6 ?_; (case c1 => exact rfl); (case c2 => decide); (case c3 => exact rfl); (case c4 => decide); (case c5 => exact rfl); (case c6 => intro _; exact rfl); k_whole))) | ((with_reducible show wpAny _ _ (eval (PySem.Expr.Name _ _) _) _ _ _); (refine name_comp (by assumption) (by assumption) ?_))) | ((with_reducible show wpAny _ _ (call _ _) _ _ _); first | ((with_reducible show wpAny _ _ (call (Value.type "tuple") _) _ _ _); (k_here; (with_reducible show wpAny _ _ (call (Value.type _) [Value.ref _]) _ _ _); k_dflt (refine' kde_tupleOf ?F ?N ?l ?z rfl ?_; (case F => k_asm); (case N => k_asm); (case l => exact News.isList (by k_asm) (by k_mem)); (case z => (rw [List.size_toArray]; omega)); k_whole); intro D' h' F' N' l1')) | ((k_here; (show wpAny _ _ (call (Value.ref 150) [Value.ref _]) _ _ _); k_dflt (refine' reltold_ok ?kH ?p0 ?p1 ?_; (case kH => walk_at "M here"); (case p0 => assumption); (case p1 => assumption); k_whole); intro h' tk' T' F' N' l1')) | ((k_here; (show wpAny _ _ (call (Value.ref 122) [Value.ref _]) _ _ _); k_dflt (refine' symtold_ok ?kH ?p0 ?p1 ?_; (case kH => walk_at "M here"); (case p0 => assumption); (case p1 => assumption); k_whole); intro h' tk' T' F' N' l1')) | ((with_reducible show wpAny _ _ (call (Value.builtin "sorted") _) _ _ _); (k_here; k_dflt (refine' names_sorted ?k0 ?k1 ?k2 ?k3 ?k4 ?k5 ?k6 ?k7 ?_; (case k0 => exact rfl); (case k1 => k_asm); (case k2 => k_asm); (case k3 => k_mem); (case k4 => assumption); (case k5 => assumption); (case k6 => assumption); (case k7 => assumption); k_whole); intro us' c' B' h' tk' hus' F' N' l1'; (try k_lt l1')))) | ((with_reducible show wpAny _ _ (subscriptTail _ _ _ _) _ _ _); first | ((with_reducible show wpAny _ _ (subscriptTail (PySem.Expr.Name _ _) (PySem.Expr.Name _ _) (Value.ref _) (Value.str _ _)) _ _ _); (k_here; k_dflt (refine' kda_item (knd := PySem.strKind _ _) ?k1 ?k2 ?k3 (strKind_is _ _ _ _) ?k5 ?_; (case k1 => k_asm); (case k2 => k_mem); (case k3 => assumption); (case k5 => assumption))))) | ((with_reducible show wpAny _ _ (newTuple _) _ _ _); first | ((with_reducible show wpAny _ _ (newTuple _) _ _ _); (k_here; k_dflt (refine' kup_newTuple ?F ?N ?_ ?z; (case F => k_asm); (case N => k_asm); (case z => size_fits); k_whole); intro D' h' F' N' l1'; (try k_lt l1')))) | ((fail_if_success (with_reducible show wpAny _ _ (pyIter _) _ _ _)); walk1) | (dsimp only; (fail_if_success (with_reducible show wpAny _ _ (pyIter _) _ _ _)); walk1) | (leave1; walk_say "STEP leave1"; try dsimp only) | fail "no step"))
        have NN := (by with_reducible assumption : News _ _ _ ((_, tup6 (.str y.sect _) _ _ _ _ _) :: (ns3 ++ own)))
        refine comp_end (news' := (_, _) :: ns3) (by assumption) NN rfl (off_new2 (by with_reducible assumption) off) ⟨fun p hp => .tail _ (hsub3 p hp), ?_⟩
        rw [List.take_succ, hy]
        exact (hall3.mono fun _ _ z => z.keeps fun p hp => .tail _ hp).snoc ⟨_, _, _, _, _, _, _, rfl, .head _⟩
      case fin3 =>
        intro D3 ys3 c3' ns3 h4 tk4 H4 hJ0' hlen3 F5 N5 hne3
        refine Classical.byContradiction fun hG => ?_
        obtain ⟨hsub3, hall3⟩ := hJ0'
        refine hG ?_
        clear hG
        rw [List.size_toArray] at hlen3
        rw [List.size_toArray, hr.length, List.take_length] at hall3
        have hyl3 : ys3.length ≤ 1000 := by omega
        ((try ((show let Q' := _; let E' := _; wpAny _ _ _ Q' E' _); intro Q' E')); repeat' (first | (k_unfold; (try dsimp only)) | ((with_reducible show wpAny _ _ (eval _ _) _ _ _); first | ((with_reducible show wpAny _ _ (eval (PySem.Expr.ListComp (PySem.Expr.Call _ _ _ _) _ _ _) _) _ _ _); (k_here; (rename Fr _ _ _ _ => lF'); (refine' ListComp_ownF lF' ?c1 ?c2 ?c3 ?c4 ?c5 ?c6 ?_; (case c1 => exact rfl); (case c2 => decide); (case c3 => exact rfl); (case c4 => decide); (case c5 => exact rfl); (case c6 => intro _; exact rfl); k_whole))) | ((with_reducible show wpAny _ _ (eval (PySem.Expr.Name _ _) _) _ _ _); (refine name_comp (by assumption) (by assumption) ?_))) | ((with_reducible show wpAny _ _ (call _ _) _ _ _); first | ((with_reducible show wpAny _ _ (call (Value.type "tuple") _) _ _ _); (k_here; (with_reducible show wpAny _ _ (call (Value.type _) [Value.ref _]) _ _ _); k_dflt (refine' kde_tupleOf ?F ?N ?l ?z rfl ?_; (case F => k_asm); (case N => k_asm); (case l => exact News.isList (by k_asm) (by k_mem)); (case z => (rw [List.size_toArray]; omega)); k_whole); intro D' h' F' N' l1')) | ((k_here; (show wpAny _ _ (call (Value.ref 150) [Value.ref _]) _ _ _); k_dflt (refine' reltold_ok ?kH ?p0 ?p1 ?_; (case kH => walk_at "M here"); (case p0 => assumption); (case p1 => assumption); k_whole); intro h' tk' T' F' N' l1')) | ((k_here; (show wpAny _ _ (call (Value.ref 122) [Value.ref _]) _ _ _); k_dflt (refine' symtold_ok ?kH ?p0 ?p1 ?_; (case kH => walk_at "M here"); (case p0 => assumption); (case p1 => assumption); k_whole); intro h' tk' T' F' N' l1')) | ((with_reducible show wpAny _ _ (call (Value.builtin "sorted") _) _ _ _); (k_here; k_dflt (refine' names_sorted ?k0 ?k1 ?k2 ?k3 ?k4 ?k5 ?k6 ?k7 ?_; (case k0 => exact rfl); (case k1 => k_asm); (case k2 => k_asm); (case k3 => k_mem); (case k4 => assumption); (case k5 => assumption); (case k6 => assumption); (case k7 => assumption); k_whole); intro us' c' B' h' tk' hus' F' N' l1'; (try k_lt l1')))) | ((with_reducible show wpAny _ _ (subscriptTail _ _ _ _) _ _ _); first | ((with_reducible show wpAny _ _ (subscriptTail (PySem.Expr.Name _ _) (PySem.Expr.Name _ _) (Value.ref _) (Value.str _ _)) _ _ _); (k_here; k_dflt (refine' kda_item (knd := PySem.strKind _ _) ?k1 ?k2 ?k3 (strKind_is _ _ _ _) ?k5 ?_; (case k1 => k_asm); (case k2 => k_mem); (case k3 => assumption); (case k5 => assumption))))) | ((with_reducible show wpAny _ _ (newTuple _) _ _ _); first | ((with_reducible show wpAny _ _ (newTuple _) _ _ _); (k_here; k_dflt (refine' kup_newTuple ?F ?N ?_ ?z; (case F => k_asm); (case N => k_asm); (case z => size_fits); k_whole); intro D' h' F' N' l1'; (try k_lt l1')))) | ((fail_if_success (with_reducible show wpAny _ _ (pyIter _) _ _ _)); walk1) | (dsimp only; (fail_if_success (with_reducible show wpAny _ _ (pyIter _) _ _ _)); walk1) | (leave1; walk_say "STEP leave1"; try dsimp only) | fail "no step"))
        have NN := (by with_reducible assumption : News h₀ L _ ((_, tup3 _ _ _) :: (_, _) :: (D3, _) :: ns3))
        exact told_fin ret (by assumption) NN hbase hsub2 hsub3 hall hall2 hall3))
end

end
/-! part LawA -/
section
theorem atLawA : True := by
  w_top off
  exact trivial
def Stop (p : Prop) : Prop := p
theorem stop_here {p : Prop} (h : Stop p) : p := h
theorem pull {h₀ h : Heap} {L c : Addr} {oc : Obj} {x : Addr × Obj} {R : List (Addr × Obj)} (N : News h₀ L h (x :: R)) (hc : (c, oc) ∈ R) :
    ∃ R2, News h₀ L h (x :: (c, oc) :: R2) ∧ (∀ p ∈ R2, p.1 ≠ c) ∧ (∀ p ∈ R, p.2 ≠ oc → p ∈ R2) ∧ (∀ p ∈ R2, p ∈ R) := out_of (by exact trivial : Hold (by
  refine ⟨R.filter fun p => decide (p.1 ≠ c), fun p hp => ?_, fun p hp => of_decide_eq_true (List.mem_filter.mp hp).2, fun p hp hne => List.mem_filter.mpr ⟨hp, decide_eq_true fun e => hne ?_⟩, fun p hp => (List.mem_filter.mp hp).1⟩
  · rcases List.mem_cons.mp hp with rfl | hp
    · exact N _ (.head _)
    · rcases List.mem_cons.mp hp with rfl | hp
      · exact N _ (.tail _ hc)
      · exact N _ (.tail _ (List.mem_filter.mp hp).1)
  · have e1 := (N _ (.tail _ hp)).1
    have e2 := (N _ (.tail _ hc)).1
    rw [e] at e1
    exact Option.some.inj (e1.symm.trans e2)))
theorem obj_pull {w : World} {R R2 : List (Addr × Obj)} {oc : Obj} {v : Option Value} (hd : oc.data = .cell v) (k : ∀ p ∈ R, p.2 ≠ oc → p ∈ R2) {T d Y Rr : Addr} {secs : List (Str × List Int)} {syms : List Sym} {rels : List Rel} (M : ObjMade w R T d Y Rr secs syms rels) : ObjMade w R2 T d Y Rr secs syms rels := out_of (by exact trivial : Hold (by
  have seq : ∀ (x : Addr) (c : Value) (dd : Option Addr) (its : Array Value) (n : Nat) (sl : Array (Option Value)), (x, (⟨c, dd, .seq its n, sl⟩ : Obj)) ∈ R → (x, (⟨c, dd, .seq its n, sl⟩ : Obj)) ∈ R2 := fun x c dd its n sl hx => k _ hx fun e => by
    have := congrArg Obj.data e
    rw [hd] at this; cases this
  obtain ⟨o, kS, hdm, hod, hkS⟩ := M.dict
  obtain ⟨ys, cY, hY, hs⟩ := M.symL
  obtain ⟨rs, cR, hR, hr⟩ := M.relL
  refine ⟨seq _ _ _ _ _ _ M.tup, ⟨o, kS, k _ hdm fun e => ?_, hod, hkS⟩, M.lo, ⟨ys, cY, seq _ _ _ _ _ _ hY, hs.mono fun _ _ z => ?_⟩, ⟨rs, cR, seq _ _ _ _ _ _ hR, hr.mono fun _ _ z => ?_⟩, M.keys, M.lens, M.names, M.nsym, M.sects, M.nrel, M.rels⟩
  · obtain ⟨ep, ha⟩ := KdkAt.of hod
    have e' : o = oc := e
    subst e'
    obtain ⟨es, ha⟩ := ha
    simp_all
  · obtain ⟨x, u1, u2, u3, e, a⟩ := z; exact ⟨x, u1, u2, u3, e, seq _ _ _ _ _ _ a⟩
  · obtain ⟨x, u1, u2, u3, u4, u5, u6, e, a⟩ := z; exact ⟨x, u1, u2, u3, u4, u5, u6, e, seq _ _ _ _ _ _ a⟩))
section
variable {prog : Program} {w : World} {K : Type} [DecidableEq K] {knd : KeyKind prog w K} {A : Around} {E : Value → Shared → Prop} {s : Shared} {h₀ : Heap} {L src D : Addr} {m : Str → Option Value} {news : List (Addr × Obj)} {t u : Tok} {value slice : PySem.Expr}
theorem dict_copy {Q : Value → Shared → Prop} {o : Obj} {kS : List (K × Value)} (F : Fr h₀ L s.heap m) (N : News h₀ L s.heap news) (hbig : h₀.NoLimit) (hm : (src, o) ∈ news) (hd : o.IsDictOf knd kS) (lo : (src == sysModules) = false) (hsz : kS.length ≤ sizeLine)
    (k : ∀ h' o' d, Fr h₀ L h' m → News h₀ L h' ((d, o') :: news) → (∀ p ∈ news, p.1 < d) → (d == sysModules) = false → o'.IsDictOf knd kS → Q (.ref d) { s with heap := h' }) :
    wpAny (model prog w) A (call (.type "dict") [.ref src]) Q E s := out_of (by exact trivial : Hold (by
  refine kt_call_dict lo (kda_dict N hm hd) hsz fun h' hm' hs => ?_
  obtain ⟨o', ho', hd'⟩ := Heap.dictOf_iff.mp hm'
  have N1 := News.push F N { cls := .type "dict", data := .dict #[] }
  exact k h' o' _ ((F.push _).change hs (N1 _ (.head _)).2.1 (N1.fresh (.head _))) (N1.setHead N.apart hs ho') (fun p hp => Heap.lt_size (N p hp).1) (F.notModules (modules_low hbig)) hd'))
theorem tup_item {Q : Value → Shared → Prop} {items : Array Value} {n j : Nat} {k : Int} {v : Value} (N : News h₀ L s.heap news) (hm : (D, ({ cls := .type "tuple", data := .seq items n } : Obj)) ∈ news) (h0 : -(2 ^ 63) ≤ k) (h1 : k < 2 ^ 63) (hj : seqIndex? k items.size = some j) (hx : items[j]? = some v) (h : Q v s)
    (hs : subscripted slice false (.ref D) (.int k u) = operate [.ref D, .int k u] (getItem (.ref D) (.int k u)) := by with_unfolding_all rfl) :
    wpAny (model prog w) A (subscriptTail value slice (.ref D) (.int k u)) Q E s :=
  tail_any (News.isTup N hm).typeIs slot_tuple_getitem.lookup (PyProof.Rows.getItem_tuple (News.isTup N hm) h0 h1 hj hx h) hs
end
/-- an object made for each row: the ledger behind the pen and the cell grows -/
def mkJ1 (w : World) (pen cell : Addr) (po oc : Obj) (base : List (Addr × Obj)) (syms : List Sym) (i : Nat) (ys : List Value) (n : List (Addr × Obj)) : Prop :=
  ∃ ns, n = (pen, po) :: (cell, oc) :: ns ∧ (∀ p ∈ base, p ∈ ns) ∧ (∀ p ∈ ns, p.1 ≠ pen) ∧ (∀ p ∈ ns, p.1 ≠ cell) ∧ All2 (SymAt w ns) ys (syms.take i)
def mkJ2 (w : World) (pen cell : Addr) (po oc : Obj) (base : List (Addr × Obj)) (rels : List Rel) (i : Nat) (ys : List Value) (n : List (Addr × Obj)) : Prop :=
  ∃ ns, n = (pen, po) :: (cell, oc) :: ns ∧ (∀ p ∈ base, p ∈ ns) ∧ (∀ p ∈ ns, p.1 ≠ pen) ∧ (∀ p ∈ ns, p.1 ≠ cell) ∧ All2 (RelAt w ns) ys (rels.take i)
theorem mk_end {h₀ h' : Heap} {L x dx pen cell : Addr} {m : Str → Option Value} {od ox po oc : Obj} {ns own : List (Addr × Obj)} {J : Value → List (Addr × Obj) → Prop} {s₁ : Shared} {y : Value} {tk : Nat} (F : Fr h₀ L h' m) (N : News h₀ L h' ((x, ox) :: (dx, od) :: (pen, po) :: (cell, oc) :: (ns ++ own))) (l1 : ∀ p ∈ (pen, po) :: (cell, oc) :: (ns ++ own), p.1 < dx) (l2 : @LT.lt Nat _ dx x)
    (off : Off ((pen, po) :: (cell, oc) :: ns) own) (hp : ∀ p ∈ ns, p.1 ≠ pen) (hc : ∀ p ∈ ns, p.1 ≠ cell)
    (j : (∀ p ∈ (x, ox) :: (dx, od) :: ns, p.1 ≠ pen) → (∀ p ∈ (x, ox) :: (dx, od) :: ns, p.1 ≠ cell) → J y ((pen, po) :: (cell, oc) :: (x, ox) :: (dx, od) :: ns)) :
    CompEnd h₀ L m own J s₁ y { s₁ with heap := h', toks := tk } := out_of (by exact trivial : Hold (by
  have a1 : pen ≠ dx := Nat.ne_of_lt (l1 (pen, po) (.head _))
  have a2 : cell ≠ dx := Nat.ne_of_lt (l1 (cell, oc) (.tail _ (.head _)))
  have a3 : pen ≠ x := Nat.ne_of_lt (Nat.lt_trans (l1 (pen, po) (.head _)) l2)
  have a4 : cell ≠ x := Nat.ne_of_lt (Nat.lt_trans (l1 (cell, oc) (.tail _ (.head _))) l2)
  refine comp_end (news' := (pen, po) :: (cell, oc) :: (x, ox) :: (dx, od) :: ns) F (cb_drop N fun p hp => ?_) rfl (fun p hp q hq => ?_) (j (all_cons a3.symm (all_cons a1.symm hp)) (all_cons a4.symm (all_cons a2.symm hc)))
  · simp only [List.cons_append, List.mem_cons] at hp ⊢
    rcases hp with h | h | h | h | h <;> simp [h]
  · have o1 : ∀ q ∈ own, q.1 < dx := fun q hq => l1 q (.tail _ (.tail _ (List.mem_append_right _ hq)))
    rcases List.mem_cons.mp hp with rfl | hp
    · exact off _ (.head _) q hq
    rcases List.mem_cons.mp hp with rfl | hp
    · exact off _ (.tail _ (.head _)) q hq
    rcases List.mem_cons.mp hp with rfl | hp
    · exact Ne.symm (Nat.ne_of_lt (Nat.lt_trans (o1 q hq) l2))
    rcases List.mem_cons.mp hp with rfl | hp
    · exact Ne.symm (Nat.ne_of_lt (o1 q hq))
    · exact off _ (.tail _ (.tail _ hp)) q hq))
theorem with_law {h₀ h' : Heap} {L D2 pen : Addr} {oD po : Obj} {c : Addr × Obj} {R : List (Addr × Obj)} {G : Prop} (_ : News h₀ L h' ((D2, oD) :: (pen, po) :: c :: R)) (k : ∀ D2' pen' oD', D2' = D2 → pen' = pen → oD' = oD → G) : G := k _ _ _ rfl rfl rfl
theorem news_rot {h₀ h : Heap} {L : Addr} {x y z : Addr × Obj} {l : List (Addr × Obj)} (N : News h₀ L h (z :: x :: y :: l)) : News h₀ L h (x :: y :: z :: l) := cb_drop N fun p hp => by
  simp only [List.mem_cons] at hp ⊢
  rcases hp with h | h | h | h <;> simp [h]
theorem symAt_new {w : World} {x dx : Addr} {t1 t2 t3 t4 u1 u2 u3 : Tok} {ns : List (Addr × Obj)} {ys : List Value} {syms : List Sym} {i : Nat} {y : Sym} (hy : syms[i]? = some y) (h : All2 (SymAt w ns) ys (syms.take i)) :
    All2 (SymAt w ((x, instObj 125 dx) :: (dx, symDict w t1 t2 t3 t4 (.str y.name u1) (.str y.sect u2) (.int y.worth u3) (.bool false)) :: ns)) (ys ++ [.ref x]) (syms.take (i + 1)) := by
  rw [List.take_add_one, hy]
  exact (h.mono fun _ _ z => z.keeps fun p hp => .tail _ (.tail _ hp)).snoc ⟨x, dx, t1, t2, t3, t4, u1, u2, u3, rfl, .head _, .tail _ (.head _)⟩
theorem relAt_new {w : World} {x dx : Addr} {t1 t2 t3 t4 t5 t6 u1 u2 u3 u4 u5 u6 : Tok} {ns : List (Addr × Obj)} {ys : List Value} {rels : List Rel} {i : Nat} {y : Rel} (hy : rels[i]? = some y) (h : All2 (RelAt w ns) ys (rels.take i)) :
    All2 (RelAt w ((x, instObj 153 dx) :: (dx, relDict w t1 t2 t3 t4 t5 t6 (.str y.sect u1) (.int y.at_ u2) (.int y.width u3) (.str y.name u4) (.int y.worth u5) (.str y.way u6)) :: ns)) (ys ++ [.ref x]) (rels.take (i + 1)) := by
  rw [List.take_add_one, hy]
  exact (h.mono fun _ _ z => z.keeps fun p hp => .tail _ (.tail _ hp)).snoc ⟨x, dx, t1, t2, t3, t4, t5, t6, u1, u2, u3, u4, u5, u6, rfl, .head _, .tail _ (.head _)⟩
theorem pull2 {h₀ h : Heap} {L pen cell : Addr} {po oc : Obj} {R : List (Addr × Obj)} (N : News h₀ L h R) (hp : (pen, po) ∈ R) (hc : (cell, oc) ∈ R) :
    ∃ R2, News h₀ L h ((pen, po) :: (cell, oc) :: R2) ∧ (∀ p ∈ R2, p.1 ≠ pen) ∧ (∀ p ∈ R2, p.1 ≠ cell) ∧ (∀ p ∈ R, p.1 ≠ pen → p.1 ≠ cell → p ∈ R2) ∧ (∀ p ∈ R, p.2 ≠ po → p.2 ≠ oc → p ∈ R2) := out_of (by exact trivial : Hold (by
  have same : ∀ p ∈ R, ∀ c o, (c, o) ∈ R → p.1 = c → p.2 = o := fun p hp' c o hc' e => by
    have e1 := (N _ hp').1
    have e2 := (N _ hc').1
    rw [e] at e1
    exact Option.some.inj (e1.symm.trans e2)
  refine ⟨R.filter fun p => decide (p.1 ≠ pen ∧ p.1 ≠ cell), fun p hm => ?_, fun p hm => (of_decide_eq_true (List.mem_filter.mp hm).2).1, fun p hm => (of_decide_eq_true (List.mem_filter.mp hm).2).2, fun p hm a b => List.mem_filter.mpr ⟨hm, decide_eq_true ⟨a, b⟩⟩, fun p hm a b => List.mem_filter.mpr ⟨hm, decide_eq_true ⟨fun e => a (same p hm _ _ hp e), fun e => b (same p hm _ _ hc e)⟩⟩⟩
  rcases List.mem_cons.mp hm with rfl | hm
  · exact N _ hp
  · rcases List.mem_cons.mp hm with rfl | hm
    · exact N _ hc
    · exact N _ (List.mem_filter.mp hm).1))
theorem toldIs_pull {ns R : List (Addr × Obj)} {po oc : Obj} {v : Option Value} (hpo : po.cls = .type "list") (hoc : oc.data = .cell v) (k : ∀ p ∈ ns, p.2 ≠ po → p.2 ≠ oc → p ∈ R) {T : Addr} {secs : List (Str × List Int)} {syms : List Sym} {rels : List Rel} (h : ToldIs ns T secs syms rels) : ToldIs R T secs syms rels := out_of (by exact trivial : Hold (by
  have tup : ∀ (x : Addr) (its : Array Value), (x, ({ cls := .type "tuple", data := .seq its } : Obj)) ∈ ns → (x, ({ cls := .type "tuple", data := .seq its } : Obj)) ∈ R := fun x its hx => k _ hx (fun e => by
    have := congrArg Obj.cls e
    rw [hpo] at this; simp at this) (fun e => by
    have := congrArg Obj.data e
    rw [hoc] at this; cases this)
  obtain ⟨P, S, Rr, ps, ss, rs, a1, a2, a3, a4, a5, a6, a7⟩ := h
  refine ⟨P, S, Rr, ps, ss, rs, tup _ _ a1, tup _ _ a2, a3.mono fun _ _ z => ?_, tup _ _ a4, a5.mono fun _ _ z => ?_, tup _ _ a6, a7.mono fun _ _ z => ?_⟩
  · obtain ⟨x, b, u1, u2, e, a, q⟩ := z; exact ⟨x, b, u1, u2, e, tup _ _ a, q⟩
  · obtain ⟨x, u1, u2, u3, e, a⟩ := z; exact ⟨x, u1, u2, u3, e, tup _ _ a⟩
  · obtain ⟨x, u1, u2, u3, u4, u5, u6, e, a⟩ := z; exact ⟨x, u1, u2, u3, u4, u5, u6, e, tup _ _ a⟩))
theorem ToldIs.keeps {n n' : List (Addr × Obj)} (k : ∀ p ∈ n, p ∈ n') {T : Addr} {secs : List (Str × List Int)} {syms : List Sym} {rels : List Rel} (h : ToldIs n T secs syms rels) : ToldIs n' T secs syms rels := by
  obtain ⟨P, S, Rr, ps, ss, rs, a1, a2, a3, a4, a5, a6, a7⟩ := h
  exact ⟨P, S, Rr, ps, ss, rs, k _ a1, k _ a2, a3.mono fun _ _ z => z.keeps k, k _ a4, a5.mono fun _ _ z => z.keeps k, k _ a6, a7.mono fun _ _ z => z.keeps k⟩
theorem asm_base {h₀ h : Heap} {L asm da O D4 pen cell : Addr} {oa oda oO o4 po oc : Obj} {m : Str → Option Value} {ns : List (Addr × Obj)} (N : News h₀ L h ((asm, oa) :: (da, oda) :: (O, oO) :: (D4, o4) :: (pen, po) :: (cell, oc) :: ns)) (l1 : ∀ p ∈ (O, oO) :: (D4, o4) :: (pen, po) :: (cell, oc) :: ns, p.1 < da) (l2 : @LT.lt Nat _ da asm)
    (hO : @LT.lt Nat _ D4 O ∧ @LT.lt Nat _ pen O ∧ @LT.lt Nat _ cell O ∧ AllLt O ns) (h4 : ∀ p ∈ (pen, po) :: (cell, oc) :: ns, p.1 ≠ D4) (hp : ∀ p ∈ ns, p.1 ≠ pen) (hc : ∀ p ∈ ns, p.1 ≠ cell) :
    ∃ B, News h₀ L h ((pen, po) :: (cell, oc) :: B) ∧ (∀ p ∈ B, p.1 ≠ pen) ∧ (∀ p ∈ B, p.1 ≠ cell) ∧ (asm, oa) ∈ B ∧ (da, oda) ∈ B ∧ (D4, o4) ∈ B ∧ (∀ p ∈ ns, p ∈ B) := out_of (by exact trivial : Hold (by
  have lp : @LT.lt Nat _ pen da := l1 _ (.tail _ (.tail _ (.head _)))
  have lc : @LT.lt Nat _ cell da := l1 _ (.tail _ (.tail _ (.tail _ (.head _))))
  refine ⟨(asm, oa) :: (da, oda) :: (O, oO) :: (D4, o4) :: ns, cb_drop N fun p hp => ?_, ?_, ?_, .head _, .tail _ (.head _), .tail _ (.tail _ (.tail _ (.head _))), fun p hp => .tail _ (.tail _ (.tail _ (.tail _ hp)))⟩
  · simp only [List.mem_cons] at hp ⊢
    rcases hp with h | h | h | h | h | h | h <;> simp [h]
  · exact all_cons (Nat.ne_of_gt (Nat.lt_trans lp l2)) (all_cons (Nat.ne_of_gt lp) (all_cons (Nat.ne_of_gt hO.2.1) (all_cons (Ne.symm (h4 _ (.head _))) hp)))
  · exact all_cons (Nat.ne_of_gt (Nat.lt_trans lc l2)) (all_cons (Nat.ne_of_gt lc) (all_cons (Nat.ne_of_gt hO.2.2.1) (all_cons (Ne.symm (h4 _ (.tail _ (.head _)))) hc)))))
def lawJ (asm T0 Y Rr pen cells cell : Addr) (oc : Obj) (B0 : List (Addr × Obj)) (i : Nat) (m : Str → Option Value) (ns : List (Addr × Obj)) : Prop :=
  m (Str.ofString "made") = some (.ref asm) ∧ m (Str.ofString "before") = some (.ref T0) ∧ m (Str.ofString "symbols") = some (.ref Y) ∧ m (Str.ofString "rows") = some (.ref Rr) ∧ m (Str.ofString "pen") = some (.ref pen) ∧
  ∃ R a ta, ns = (pen, PySem.W.listOf #[.ref cells, .int a ta] 0) :: (cell, oc) :: R ∧ (∀ p ∈ B0, p ∈ R) ∧ (∀ p ∈ R, p.1 ≠ pen) ∧ (∀ p ∈ R, p.1 ≠ cell) ∧ 0 ≤ a ∧ a ≤ 400 + 6 * i
def homeOf (kB : List (Str × Value)) (k : Str) : Int := match valueAt kB k with | some (.int i _) => i | _ => 0
def HomesOk (kB : List (Str × Value)) : Prop := ∀ kv ∈ kB, ∃ (i : Int) (t : Tok), kv.2 = .int i t
theorem homes_at {kB : List (Str × Value)} (h : HomesOk kB) {k : Str} (hk : k ∈ kB.map (·.1)) : ∃ t, valueAt kB k = some (.int (homeOf kB k) t) := out_of (by exact trivial : Hold (by
  obtain ⟨kv, hkv, rfl⟩ := List.mem_map.mp hk
  have : (kB.find? fun x => x.1 = kv.1).isSome := List.find?_isSome.mpr ⟨kv, hkv, by simp⟩
  obtain ⟨x, hx⟩ := Option.isSome_iff_exists.mp this
  obtain ⟨i, t, e⟩ := h x (List.mem_of_find?_eq_some hx)
  have hv : valueAt kB kv.1 = some (.int i t) := by unfold valueAt; rw [hx]; exact congrArg some e
  refine ⟨t, ?_⟩
  unfold homeOf
  rw [hv]))
def homesJ (w : World) (asm T0 Y Rr pen cells cell Hd : Addr) (oc : Obj) (secs : List (Str × List Int)) (R : List (Addr × Obj)) (a0 : Int) (i : Nat) (m : Str → Option Value) (ns : List (Addr × Obj)) : Prop :=
  m (Str.ofString "made") = some (.ref asm) ∧ m (Str.ofString "before") = some (.ref T0) ∧ m (Str.ofString "symbols") = some (.ref Y) ∧ m (Str.ofString "rows") = some (.ref Rr) ∧ m (Str.ofString "pen") = some (.ref pen) ∧ m (Str.ofString "homes") = some (.ref Hd) ∧
  ∃ oH kB a ta, ns = (Hd, oH) :: (pen, PySem.W.listOf #[.ref cells, .int a ta] 0) :: (cell, oc) :: R ∧ oH.IsDictOf (PySem.strKind PySem.Challenge.pw_nn0048_01 w) kB ∧ HomesOk kB ∧ kB.map (·.1) = (secs.map (·.1)).take i ∧ a0 ≤ a ∧ a ≤ a0 + 2 * i
theorem with_Hd {h₀ h' : Heap} {L Hd pen : Addr} {oH po : Obj} {c : Addr × Obj} {R : List (Addr × Obj)} {G : Prop} (_ : News h₀ L h' ((Hd, oH) :: (pen, po) :: c :: R)) (k : ∀ Hd' oH', Hd' = Hd → oH' = oH → G) : G := k _ _ rfl rfl
theorem stored_app {kB : List (Str × Value)} {k : Str} (hk : k ∉ kB.map (·.1)) (v : Value) : stored kB k v = kB ++ [(k, v)] := out_of (by exact trivial : Hold (by
  unfold stored
  rw [if_neg]
  rw [List.any_eq_true]
  rintro ⟨kv, hm, e⟩
  exact hk (by rw [← of_decide_eq_true e]; exact List.mem_map_of_mem hm)))
theorem homes_app {kB : List (Str × Value)} (h : HomesOk kB) (k : Str) (i : Int) (t : Tok) : HomesOk (kB ++ [(k, .int i t)]) := fun kv hkv => by
  rcases List.mem_append.mp hkv with h' | h'
  · exact h kv h'
  · rw [List.mem_singleton.mp h']; exact ⟨i, t, rfl⟩
theorem keys_step {kB : List (Str × Value)} {secs : List (Str × List Int)} {j : Nat} {p : Str × List Int} {v : Value} (h : kB.map (·.1) = (secs.map (·.1)).take j) (hp : secs[j]? = some p) : (kB ++ [(p.1, v)]).map (·.1) = (secs.map (·.1)).take (j + 1) := by
  rw [List.map_append, h, List.take_add_one, List.getElem?_map, hp]; rfl
theorem sname_nodup {n : Nat} (h : n ≤ 6) : ((List.range n).map sname).Nodup := by
  have : ∀ k : Fin 7, ((List.range k.1).map sname).Nodup := by decide +kernel
  exact this ⟨n, by omega⟩
theorem sect_cases {names : List Str} {x : Str} (h : x ∈ names ++ [Str.ofString "*", Str.ofString ""]) : x = Str.ofString "" ∨ x = Str.ofString "*" ∨ x ∈ names := out_of (by exact trivial : Hold (by
  rcases List.mem_append.mp h with h | h
  · exact .inr (.inr h)
  · simp only [List.mem_cons, List.not_mem_nil, or_false] at h
    rcases h with h | h
    · exact .inr (.inl h)
    · exact .inl h))
theorem mem5 {a b c d e p : Addr × Obj} {R : List (Addr × Obj)} (h : p ∈ R) : p ∈ a :: b :: c :: d :: e :: R := .tail _ (.tail _ (.tail _ (.tail _ (.tail _ h))))
theorem mem4 {a b c d p : Addr × Obj} {R : List (Addr × Obj)} (h : p ∈ R) : p ∈ a :: b :: c :: d :: R := .tail _ (.tail _ (.tail _ (.tail _ h)))

end
/-! part LawB -/
section
theorem atLawB : True := by
  w_top off
  exact trivial
theorem u8_inj : ∀ {a b : List UInt8}, (a.map fun c => (c.toNat : Int)) = b.map (fun c => (c.toNat : Int)) → a = b
  | [], [], _ => rfl
  | [], _ :: _, h => by simp at h
  | _ :: _, [], h => by simp at h
  | x :: xs, y :: ys, h => by
    rw [List.map_cons, List.map_cons, List.cons.injEq] at h
    have e : x = y := UInt8.toNat_inj.mp (Int.ofNat.inj h.1)
    rw [e, u8_inj h.2]
theorem bytes_same {A : Around} {s : Shared} {b c : Array UInt8} {t u : Tok} (h : KBw.bInts b = KBw.bInts c) : SeqAt.EqAt A s (.bytes b t) (.bytes c u) true := fun prog w E Q hq => by
  refine eqBool_bytes ?_
  rw [decide_eq_true (u8_inj h)]
  exact hq
theorem hits_of {A : Around} {s : Shared} {kb : List (Str × Value)} {fs : List (Str × List Int)} (hb : All2 KvAt kb fs) (hn : (fs.map (·.1)).Nodup) : ∀ {ka : List (Str × Value)} {gs : List (Str × List Int)}, All2 KvAt ka gs → (∀ p ∈ gs, p ∈ fs) → KeqHits A s kb ka true := by
  intro ka gs ha
  induction ha with
  | nil => intro _; exact .nil
  | cons r _ ih =>
    intro hsub
    obtain ⟨e1, b1, t1, e2, e3⟩ := r
    rename_i a p as bs _
    obtain ⟨b2, t2, h1, h2⟩ := kv_of_mem hb hn (hsub _ (.head _))
    obtain ⟨ak, av⟩ := a
    dsimp only at e1 e2
    subst e1 e2
    exact KeqHits.hit (e := true) (b := true) h1 (bytes_same (e3.trans h2.symm)) (ih fun q hq => hsub q (.tail _ hq))
section
variable {prog : Program} {w : World} {A : Around} {E : Value → Shared → Prop} {s : Shared} {h₀ : Heap} {L a b : Addr} {m : Str → Option Value} {news : List (Addr × Obj)} {Q : Value → Shared → Prop}
theorem dicts_same {oa ob : Obj} {ka kb : List (Str × Value)} {fs : List (Str × List Int)} (N : News h₀ L s.heap news) (pa : (a, oa) ∈ news) (pb : (b, ob) ∈ news) (da : oa.IsDictOf (PySem.strKind prog w) ka) (db : ob.IsDictOf (PySem.strKind prog w) kb) (la : (a == sysModules) = false) (lb : (b == sysModules) = false)
    (ha : All2 KvAt ka fs) (hb : All2 KvAt kb fs) (hn : (fs.map (·.1)).Nodup) (hu : A.units < cLine) (h : Q (.bool false) s) : wpAny (model prog w) A (compareOp .NotEq (.ref a) (.ref b)) Q E s :=
  kne_pairs N pa pb da db la lb (ha.length.trans hb.length.symm) hu (hits_of hb hn ha fun _ z => z) h
/-- tuples whose items are equal one by one -/
theorem tup_same {xs ys : List Value} (hl : s.heap.IsTuple a xs.toArray) (hb : s.heap.IsTuple b ys.toArray) (hu : A.units < cLine) (hlen : xs.length = ys.length) (he : ∀ j (h1 : j < xs.length) (h2 : j < ys.length), SeqAt.EqAt A.in1 s xs[j] ys[j] true) : SeqAt.EqAt A s (.ref a) (.ref b) true := out_of (by exact trivial : Hold (by
  by_cases q : a = b
  · subst q; exact SeqAt.EqAt.same _
  · refine SeqAt.EqAt.of_refs q ?_
    have := SeqAt.RcAt.tuples (A := A) (e := fun _ => true) hl hb hu fun j h1 h2 => by
      have := he j (by simpa using h1) (by simpa using h2)
      simpa using this
    have e : ((List.range (min xs.toArray.size ys.toArray.size)).all (fun _ => true) && xs.toArray.size == ys.toArray.size) = true := by simp [hlen]
    rwa [e] at this))
end
theorem all2_same {α : Type} {R S : Value → α → Prop} {xs ys : List Value} {zs : List α} (hx : All2 R xs zs) (hy : All2 S ys zs) : ∀ j (h1 : j < xs.length) (h2 : j < ys.length), ∃ z, R xs[j] z ∧ S ys[j] z := out_of (by exact trivial : Hold (by
  intro j h1 h2
  obtain ⟨z, hz, r⟩ := hx.get (List.getElem?_eq_getElem h1)
  obtain ⟨z', hz', r'⟩ := hy.get (List.getElem?_eq_getElem h2)
  rw [hz] at hz'
  cases hz'
  exact ⟨z, r, r'⟩))
section
variable {prog : Program} {w : World} {A : Around} {E : Value → Shared → Prop} {s : Shared} {h₀ : Heap} {L T1 T2 : Addr} {m : Str → Option Value} {news : List (Addr × Obj)} {secs : List (Str × List Int)} {syms : List Sym} {rels : List Rel}
theorem isT (N : News h₀ L s.heap news) {a : Addr} {xs : List Value} (h : (a, tupL xs) ∈ news) : s.heap.IsTuple a xs.toArray := ⟨_, N.get h, rfl, _, rfl⟩
theorem pairs_eq (N : News h₀ L s.heap news) (hu : A.units + 8 < cLine) {P1 P2 : Addr} {xs ys : List Value} (h1 : (P1, tupL xs) ∈ news) (h2 : (P2, tupL ys) ∈ news) (a1 : All2 (PairTup news) xs secs) (a2 : All2 (PairTup news) ys secs) : SeqAt.EqAt A s (.ref P1) (.ref P2) true := out_of (by exact trivial : Hold (by
  refine tup_same (isT N h1) (isT N h2) (by omega) (a1.length.trans a2.length.symm) fun j l1 l2 => ?_
  obtain ⟨p, ⟨x, b, u1, u2, e, q, r⟩, ⟨x', b', u1', u2', e', q', r'⟩⟩ := all2_same a1 a2 j l1 l2
  rw [e, e']
  refine tup_same (A := A.in1) (xs := [.str p.1 u1, .bytes b u2]) (ys := [.str p.1 u1', .bytes b' u2']) (isT N q) (isT N q') (by rw [units_in1]; omega) rfl fun j l1 l2 => ?_
  rcases j with _ | _ | j
  · have := SeqAt.EqAt.str_str (A := A.in1.in1) (s := s) p.1 u1 p.1 u1'
    rwa [beq_self_eq_true] at this
  · exact bytes_same (r.trans r'.symm)
  · simp at l1; omega))
theorem syms_eq (N : News h₀ L s.heap news) (hu : A.units + 8 < cLine) {P1 P2 : Addr} {xs ys : List Value} (h1 : (P1, tupL xs) ∈ news) (h2 : (P2, tupL ys) ∈ news) (a1 : All2 (SymTold news) xs syms) (a2 : All2 (SymTold news) ys syms) : SeqAt.EqAt A s (.ref P1) (.ref P2) true := out_of (by exact trivial : Hold (by
  refine tup_same (isT N h1) (isT N h2) (by omega) (a1.length.trans a2.length.symm) fun j l1 l2 => ?_
  obtain ⟨p, ⟨x, u1, u2, u3, e, q⟩, ⟨x', u1', u2', u3', e', q'⟩⟩ := all2_same a1 a2 j l1 l2
  rw [e, e']
  refine tup_same (A := A.in1) (xs := [.str p.name u1, .str p.sect u2, .int p.worth u3, .bool false]) (ys := [.str p.name u1', .str p.sect u2', .int p.worth u3', .bool false]) (isT N q) (isT N q') (by rw [units_in1]; omega) rfl fun j l1 l2 => ?_
  rcases j with _ | _ | _ | _ | j
  · have := SeqAt.EqAt.str_str (A := A.in1.in1) (s := s) p.name u1 p.name u1'
    rwa [beq_self_eq_true] at this
  · have := SeqAt.EqAt.str_str (A := A.in1.in1) (s := s) p.sect u2 p.sect u2'
    rwa [beq_self_eq_true] at this
  · have := SeqAt.EqAt.int_int (A := A.in1.in1) (s := s) p.worth u3 p.worth u3'
    rwa [beq_self_eq_true] at this
  · exact SeqAt.EqAt.same _
  · simp at l1; omega))
theorem rels_eq (N : News h₀ L s.heap news) (hu : A.units + 8 < cLine) {P1 P2 : Addr} {xs ys : List Value} (h1 : (P1, tupL xs) ∈ news) (h2 : (P2, tupL ys) ∈ news) (a1 : All2 (RelTup news) xs rels) (a2 : All2 (RelTup news) ys rels) : SeqAt.EqAt A s (.ref P1) (.ref P2) true := out_of (by exact trivial : Hold (by
  refine tup_same (isT N h1) (isT N h2) (by omega) (a1.length.trans a2.length.symm) fun j l1 l2 => ?_
  obtain ⟨p, ⟨x, u1, u2, u3, u4, u5, u6, e, q⟩, ⟨x', v1, v2, v3, v4, v5, v6, e', q'⟩⟩ := all2_same a1 a2 j l1 l2
  rw [e, e']
  have hst : ∀ (z : Str) (t u : Tok), SeqAt.EqAt A.in1.in1 s (.str z t) (.str z u) true := fun z t u => by
    have := SeqAt.EqAt.str_str (A := A.in1.in1) (s := s) z t z u
    rwa [beq_self_eq_true] at this
  have hin : ∀ (z : Int) (t u : Tok), SeqAt.EqAt A.in1.in1 s (.int z t) (.int z u) true := fun z t u => by
    have := SeqAt.EqAt.int_int (A := A.in1.in1) (s := s) z t z u
    rwa [beq_self_eq_true] at this
  refine tup_same (A := A.in1) (xs := [.str p.sect u1, .int p.at_ u2, .int p.width u3, .str p.name u4, .int p.worth u5, .str p.way u6]) (ys := [.str p.sect v1, .int p.at_ v2, .int p.width v3, .str p.name v4, .int p.worth v5, .str p.way v6]) (isT N q) (isT N q') (by rw [units_in1]; omega) rfl fun j l1 l2 => ?_
  rcases j with _ | _ | _ | _ | _ | _ | j
  · exact hst _ _ _
  · exact hin _ _ _
  · exact hin _ _ _
  · exact hst _ _ _
  · exact hin _ _ _
  · exact hst _ _ _
  · simp at l1; omega))
theorem told_same {Q : Value → Shared → Prop} (N : News h₀ L s.heap news) (hu : A.units + 16 < cLine) (t1 : ToldIs news T1 secs syms rels) (t2 : ToldIs news T2 secs syms rels) (h : Q (.bool false) s) : wpAny (model prog w) A (compareOp .NotEq (.ref T1) (.ref T2)) Q E s := out_of (by exact trivial : Hold (by
  obtain ⟨P, S, R, ps, ss, rs, a1, a2, a3, a4, a5, a6, a7⟩ := t1
  obtain ⟨P', S', R', ps', ss', rs', b1, b2, b3, b4, b5, b6, b7⟩ := t2
  have hne := SeqAt.RcNeAt.tuples (A := A) (s := s) (l := T1) (b := T2) (items := #[.ref P, .ref S, .ref R]) (items2 := #[.ref P', .ref S', .ref R']) (e := fun _ => true) ⟨_, N.get a1, rfl, _, rfl⟩ ⟨_, N.get b1, rfl, _, rfl⟩ (by omega) (fun j l1 l2 => ?_)
  · exact hne prog w E Q h
  have hu' : A.in1.units + 8 < cLine := by rw [units_in1]; omega
  rcases j with _ | _ | _ | j
  · exact pairs_eq (A := A.in1) N hu' a2 b2 a3 b3
  · exact syms_eq (A := A.in1) N hu' a4 b4 a5 b5
  · exact rels_eq (A := A.in1) N hu' a6 b6 a7 b7
  · simp at l1; omega))
end
theorem loadF_keys {names : List Str} {bf : Str → Int} {syms : List Sym} {rels : List Rel} : ∀ {secs acc fs : List (Str × List Int)}, loadF names bf syms rels acc secs = .ok fs → fs.map (·.1) = acc.map (·.1) ++ secs.map (·.1)
  | [], acc, fs, h => by cases h; simp
  | (nm, bs) :: rest, acc, fs, h => by
    have h' : (match secF names bf syms nm bs rels with | .error x => Except.error x | .ok bs' => loadF names bf syms rels (acc ++ [(nm, bs')]) rest) = .ok fs := h
    cases q : secF names bf syms nm bs rels with
    | error x => rw [q] at h'; cases h'
    | ok bs' =>
      rw [q] at h'
      rw [loadF_keys h', List.map_append]
      simp

end
/-! part Catch -/
section
theorem atCatch : True := by
  w_top off
  exact trivial
section
variable {prog : Program} {w : World} {A A₀ : Around} {E : Value → Shared → Prop} {s' : Shared} {K : Frag} {h₀ h : Heap} {outer : List Env} {L a e C D : Addr} {m mg mb : Str → Option Value} {cn : Str} {cs : Scope} {ccd : Value} {cl : List (Str × Addr)}
variable {nm q : Str} {N : Addr} {bs : List Value} {hdct : Bool} {sn : List Str} {sub : List Value} {ab : Bool} {col : Option Bool} {dd : Option Addr} {k0 k1 k2 k3 k5 : Option Value}
variable {nm' q' : Str} {N' : Addr} {bs' : List Value} {hdct' : Bool} {sn' : List Str} {sub' : List Value} {ab' : Bool} {col' : Option Bool} {dd' : Option Addr} {k0' k1' k2' k3' k5' : Option Value}
variable {x x2 : Str} {np np2 pos pos2 : Pos} {b₀ b₁ : Stmt} {suite suite1 : List Stmt} {rest : List ExceptHandler} {Q : Flow → Shared → Prop} {news : List (Addr × Obj)} {p : Program} {loose : List Str}
theorem match_other {M : Model} {g : Array GenState} {d : Drawn} {t : Nat} {os : OsState} {oe : Obj} {Q : Bool → Shared → Prop}
    (hC : h.get? C = some (excClassObj nm q C N bs mintTail hdct sn sub ab col dd k0 k1 k2 k3 k5 "Exception.__new__")) (hD : h.get? D = some (excClassObj nm' q' D N' bs' mintTail hdct' sn' sub' ab' col' dd' k0' k1' k2' k3' k5' "Exception.__new__"))
    (he : h.get? e = some oe) (hcls : oe.cls = .ref C) (hcD : (Value.ref C :: mintTail).contains (.ref D) = false) (hq : Q false ⟨h, g, d, t, os⟩) : wpAny M A (excMatches (.ref e) (.ref D)) Q E ⟨h, g, d, t, os⟩ := out_of (by exact trivial : Hold (by
  have hcB : (Value.ref C :: mintTail).contains (.type "BaseException") = true := by simp
  have hdB : (Value.ref D :: mintTail).contains (.type "BaseException") = true := by simp
  have f := tc_notTuple
  unfold excMatches
  repeat (first | (with_reducible refine wpAny_loadPart_at he ?_; rw [hcls]) | with_reducible refine wpAny_loadPart_at hC ?_ | with_reducible refine wpAny_loadPart_at hD ?_ | (with_reducible refine wpAny_isSubtype_exc hC ?_; first | rw [hcB] | rw [hcD]) | (with_reducible refine wpAny_isSubtype_exc hD ?_; rw [hdB]) | wp_step)
  exact hq))
theorem caught_first (Kb : Below A₀ h₀ outer h₀) (F : Fr h₀ L h m) (hsm : h.UpToSlots s'.heap) (R : RaisedN h₀ (envX cn cs L a ccd cl :: outer) e (.ref C) news s'.heap)
    (X : K.In h₀) (T : TopRead p loose mg mb h₀) (ex : nsIn K mainGlobals x = some (some (.ref C))) (hC : K.lookup C = some (excClassObj nm q C N bs mintTail hdct sn sub ab col dd k0 k1 k2 k3 k5 "Exception.__new__"))
    (k : ∀ h', Fr h₀ L h' m → News h₀ L h' news →
      wpAny (model prog w) ((A₀.deeper (envX cn cs L a ccd cl)).mark (some (.ref e))) (execs (b₀ :: suite) (envX cn cs L a ccd cl)) Q E { s' with heap := h' })
    (hk : cs.kind = .function := by rfl) (hx : (envX cn cs L a ccd cl).kindOf x = some .globalImplicit := by rfl) (hd : (x == ("__debug__" : Str)) = false := by decide)
    (hE : PassesOwnAt (model prog w) ((A₀.deeper (envX cn cs L a ccd cl)).mark (some (.ref e))) (A₀.deeper (envX cn cs L a ccd cl)) (envX cn cs L a ccd cl) E := by passes_own) :
    wpAny (model prog w) (A₀.deeper (envX cn cs L a ccd cl)) (noteFrame (.ref e) (envX cn cs L a ccd cl))
      (fun _ s₂ => wpAny (model prog w) (A₀.deeper (envX cn cs L a ccd cl)) (setFlight (.ref e) none) (fun _ s₃ =>
        wpAny (model prog w) (A₀.deeper (envX cn cs L a ccd cl)) (handleBy (.ref e) (envX cn cs L a ccd cl) (.ExceptHandler (some (.Name x np)) none (b₀ :: suite) pos :: rest)) Q E s₃) E s₂) E s' := out_of (by exact trivial : Hold (by
  obtain ⟨B, a0, hB, hl, hfl⟩ := R
  have hL : B.get? L = none := by
    obtain ⟨_, ⟨L', _, hf, hn', _⟩, _⟩ := hfl.2.2.1
    obtain rfl : L = L' := Option.some.inj hf
    exact hn'
  refine wpAny_looks_onW (Around.frames_deeper Kb.stack) rfl hfl fun h₄ hheld₄ hsm₄ => ?_
  refine wpAny_landsW hheld₄ fun h₅ hheld hsm₅' => ?_
  have hsm₅ := hsm₄.trans hsm₅'
  have hheld' := flyingW_base hB hheld
  have F₅ := F.of_stays hheld'.1 (hsm.trans hsm₅)
  obtain ⟨ob, hob, hobc⟩ := hheld'.there
  refine wpAny_handleBy_cons (codeAny_handlers_test (nameX_K F₅ X T ex ?_ hk hx hd)) (by intro q; cases q)
  refine wpAny_excMatches_sub_self (X.keeps F₅.keep _ _ hC) hob hobc (by simp) (codeAny_handlers_suite ?_)
  refine lands_againW hheld fun h₆ hfl₆ hsm₆ => ?_
  have F₆ := F.of_stays (flyingW_base hB hfl₆).1 ((hsm.trans hsm₅).trans hsm₆)
  exact wpAny_passesOwnAt hE (k h₆ F₆ fun q hq => ⟨hfl₆.1 _ _ (hl q hq).1, (fun z => by have := (hl q hq).1; rw [z, hL] at this; cases this), (hl q hq).2⟩)))
theorem caught_second (Kb : Below A₀ h₀ outer h₀) (F : Fr h₀ L h m) (hsm : h.UpToSlots s'.heap) (R : RaisedN h₀ (envX cn cs L a ccd cl :: outer) e (.ref C) news s'.heap)
    (X : K.In h₀) (T : TopRead p loose mg mb h₀) (ex1 : nsIn K mainGlobals x2 = some (some (.ref D))) (hD : K.lookup D = some (excClassObj nm' q' D N' bs' mintTail hdct' sn' sub' ab' col' dd' k0' k1' k2' k3' k5' "Exception.__new__")) (hcD : (Value.ref C :: mintTail).contains (.ref D) = false) (ex : nsIn K mainGlobals x = some (some (.ref C))) (hC : K.lookup C = some (excClassObj nm q C N bs mintTail hdct sn sub ab col dd k0 k1 k2 k3 k5 "Exception.__new__"))
    (k : ∀ h', Fr h₀ L h' m → News h₀ L h' news →
      wpAny (model prog w) ((A₀.deeper (envX cn cs L a ccd cl)).mark (some (.ref e))) (execs (b₀ :: suite) (envX cn cs L a ccd cl)) Q E { s' with heap := h' })
    (hk : cs.kind = .function := by rfl) (hx : (envX cn cs L a ccd cl).kindOf x = some .globalImplicit := by rfl) (hd : (x == ("__debug__" : Str)) = false := by decide) (hx2 : (envX cn cs L a ccd cl).kindOf x2 = some .globalImplicit := by rfl) (hd2 : (x2 == ("__debug__" : Str)) = false := by decide)
    (hE : PassesOwnAt (model prog w) ((A₀.deeper (envX cn cs L a ccd cl)).mark (some (.ref e))) (A₀.deeper (envX cn cs L a ccd cl)) (envX cn cs L a ccd cl) E := by passes_own) :
    wpAny (model prog w) (A₀.deeper (envX cn cs L a ccd cl)) (noteFrame (.ref e) (envX cn cs L a ccd cl))
      (fun _ s₂ => wpAny (model prog w) (A₀.deeper (envX cn cs L a ccd cl)) (setFlight (.ref e) none) (fun _ s₃ =>
        wpAny (model prog w) (A₀.deeper (envX cn cs L a ccd cl)) (handleBy (.ref e) (envX cn cs L a ccd cl) (.ExceptHandler (some (.Name x2 np2)) none (b₁ :: suite1) pos2 :: .ExceptHandler (some (.Name x np)) none (b₀ :: suite) pos :: rest)) Q E s₃) E s₂) E s' := out_of (by exact trivial : Hold (by
  obtain ⟨B, a0, hB, hl, hfl⟩ := R
  have hL : B.get? L = none := by
    obtain ⟨_, ⟨L', _, hf, hn', _⟩, _⟩ := hfl.2.2.1
    obtain rfl : L = L' := Option.some.inj hf
    exact hn'
  refine wpAny_looks_onW (Around.frames_deeper Kb.stack) rfl hfl fun h₄ hheld₄ hsm₄ => ?_
  refine wpAny_landsW hheld₄ fun h₅ hheld hsm₅' => ?_
  have hsm₅ := hsm₄.trans hsm₅'
  have hheld' := flyingW_base hB hheld
  have F₅ := F.of_stays hheld'.1 (hsm.trans hsm₅)
  obtain ⟨ob, hob, hobc⟩ := hheld'.there
  refine wpAny_handleBy_cons (codeAny_handlers_test (nameX_K F₅ X T ex1 ?_ hk hx2 hd2)) (by intro q; cases q)
  refine match_other (X.keeps F₅.keep _ _ hC) (X.keeps F₅.keep _ _ hD) hob hobc hcD ?_
  refine wpAny_handleBy_cons (codeAny_handlers_test (nameX_K F₅ X T ex ?_ hk hx hd)) (by intro q; cases q)
  refine wpAny_excMatches_sub_self (X.keeps F₅.keep _ _ hC) hob hobc (by simp) (codeAny_handlers_suite ?_)
  refine lands_againW hheld fun h₆ hfl₆ hsm₆ => ?_
  have F₆ := F.of_stays (flyingW_base hB hfl₆).1 ((hsm.trans hsm₅).trans hsm₆)
  exact wpAny_passesOwnAt hE (k h₆ F₆ fun q hq => ⟨hfl₆.1 _ _ (hl q hq).1, (fun z => by have := (hl q hq).1; rw [z, hL] at this; cases this), (hl q hq).2⟩)))
end

end
/-! part LawC -/
section
theorem atLawC : True := by
  w_top off
  exact trivial
section
variable {prog : Program} {w : World} {A : Around} {E : Value → Shared → Prop} {s : Shared} {h₀ : Heap} {L : Addr} {news : List (Addr × Obj)} {secs : List (Str × List Int)}
theorem pairs_cmp {Q : Value → Shared → Prop} (N : News h₀ L s.heap news) (hu : A.units + 16 < cLine) {P1 P2 : Addr} {xs ys : List Value} (h1 : (P1, tupL xs) ∈ news) (h2 : (P2, tupL ys) ∈ news) (a1 : All2 (PairTup news) xs secs) (a2 : All2 (PairTup news) ys secs) (h : Q (.bool true) s) :
    wpAny (model prog w) A (compareOp .Eq (.ref P1) (.ref P2)) Q E s := out_of (by exact trivial : Hold (by
  refine SeqAt.eq_tupleAt (items := xs.toArray) (items2 := ys.toArray) (e := fun _ => true) (isT N h1) (isT N h2) (by omega) (fun j l1 l2 => ?_) ?_
  · obtain ⟨p, ⟨x, b, u1, u2, e, q, r⟩, ⟨x', b', u1', u2', e', q', r'⟩⟩ := all2_same a1 a2 j (by simpa using l1) (by simpa using l2)
    rw [List.getElem_toArray, List.getElem_toArray, e, e']
    refine tup_same (A := A.in1) (xs := [.str p.1 u1, .bytes b u2]) (ys := [.str p.1 u1', .bytes b' u2']) (isT N q) (isT N q') (by rw [units_in1]; omega) rfl fun j l1 l2 => ?_
    rcases j with _ | _ | j
    · have := SeqAt.EqAt.str_str (A := A.in1.in1) (s := s) p.1 u1 p.1 u1'
      rwa [beq_self_eq_true] at this
    · exact bytes_same (r.trans r'.symm)
    · simp at l1; omega
  · have e : ((List.range (min xs.toArray.size ys.toArray.size)).all (fun _ => true) && xs.toArray.size == ys.toArray.size) = true := by simp [a1.length.trans a2.length.symm]
    rw [e]
    exact h))
end
theorem pen_bound {a b : Int} {k i : Nat} (h1 : a ≤ 400 + 6 * (i : Int)) (h2 : b ≤ a + 2 * (k : Int)) (h3 : k ≤ 3) : b ≤ 400 + 6 * ((i + 1 : Nat) : Int) := by omega

end
/-! part Law -/
section
theorem atLaw : True := by
  w_top off
  exact trivial
local macro_rules | `(tactic| walk_at "pad 0") => `(tactic| skip)
local macro_rules | `(tactic| walk_at "pad 1") => `(tactic| skip)
local macro_rules | `(tactic| walk_at "pad 2") => `(tactic| skip)
local macro_rules | `(tactic| walk_at "pad 3") => `(tactic| skip)
local macro_rules | `(tactic| walk_at "pad 4") => `(tactic| skip)
local macro_rules | `(tactic| walk_at "pad 5") => `(tactic| skip)
local macro_rules | `(tactic| walk_at "pad 6") => `(tactic| skip)
section
local macro_rules | `(tactic| ktr_room) => `(tactic| ((try simp only [depth_under_make, depth_under_kw, depth_in1, depth_deeper, depth_caller]); decide))
local macro_rules | `(tactic| walk_at "noteFrame ref") => `(tactic| (k_here; first
  | (refine' caught_first ?K ?F ?U ?R ?X ?T ?ex ?hC ?_; (case K => assumption); (case F => assumption); (case U => assumption); (case R => assumption); (case X => k_asm); (case T => k_asm); (case ex => k_is); (case hC => k_is); k_whole; intro h' F' N')
  | (refine' caught_second ?K ?F ?U ?R ?X ?T ?ex1 ?hD ?hcD ?ex ?hC ?_; (case K => assumption); (case F => assumption); (case U => assumption); (case R => assumption); (case X => k_asm); (case T => k_asm); (case ex1 => k_is); (case hD => k_is); (case hcD => decide); (case ex => k_is); (case hC => k_is); k_whole; intro h' F' N')))
set_option maxHeartbeats 80000000 in
theorem law_holds : PySem.Challenge.rw_nn0048_01.Holds := out_of (by exact trivial : Hold (by
  w_on
  refine holds_law law_said fun said => ?_
  refine holds_open (q := hd.view_39) (loose := [Str.ofString "MintError"]) (Xt := fun s => xlAt hd.view_39 [] s && recOk (RowW.records (OpenRow.toRowW (OpenLaw.row PySem.Challenge.rw_nn0048_01))) s) (XP := XL hd.view_39 []) (Yf := Hook.obs (kHook hd.heap_39 hd.addrs hd.keys)) (Ya := Hook.val (kHook hd.heap_39 hd.addrs hd.keys)) (YP := Hook.says (kHook hd.heap_39 hd.addrs hd.keys)) (N := 4124) hd.left (Hook.of _) (Hook.keeps _) (fun s e => xl_of s (Bool.and_eq_true_iff.mp e).1) XL.keeps (by rfl) (by rfl) (by rfl) (fun s e => recFacts_of (Bool.and_eq_true_iff.mp e).2) (by rfl) (by first | assumption | decide +kernel) (by decide +kernel) ⟨rfl, rfl, rfl, rfl, rfl, by decide +kernel⟩ ?hw ?hc
  case hw => w_witness2
  k_go0
  all_goals try k_fold
  rename World => w
  with_reducible rename WShape.hasAll _ _ _ = true => hz1
  with_reducible rename PyData.layable0 _ = true => hz2
  with_reducible rename Shape.has _ _ = true => hz3
  with_reducible rename PyData.layableAll0 _ = true => hz4
  with_reducible rename WData.layableAll _ = true => hz5
  clear said hz1 hz2 hz3 hz4 hz5
  (repeat' (first | (k_unfold; (try dsimp only)) | ((with_reducible show wpAny _ _ (eval _ _) _ _ _); first | ((with_reducible show wpAny _ _ (eval (PySem.Expr.ListComp (PySem.Expr.Tuple _ _ _) _ _ _) _) _ _ _); (k_here; (rename Fr _ _ _ _ => lF'); (refine' ListComp_ownF lF' (by (exact rfl)) (by (decide)) (by (exact rfl)) (by (decide)) (by (exact rfl)) (by (intro _; exact rfl)) ?_; k_whole))) | ((with_reducible show wpAny _ _ (eval (PySem.Expr.Name _ _) _) _ _ _); (refine name_comp (by with_reducible assumption) (by with_reducible assumption) ?_)) | ((with_reducible show wpAny _ _ (eval (PySem.Expr.ListComp (PySem.Expr.Call _ _ _ _) _ _ _) _) _ _ _); (k_here; (rename Fr _ _ _ _ => lF'); (refine' ListComp_ownF lF' (by (exact rfl)) (by (decide)) (by (exact rfl)) (by (decide)) (by (exact rfl)) (by (intro _; exact rfl)) ?_; k_whole)))) | ((with_reducible show wpAny _ _ (call _ _) _ _ _); first | ((with_reducible show wpAny _ _ (call (Value.type "tuple") _) _ _ _); (k_here; (with_reducible show wpAny _ _ (call (Value.type _) [Value.ref _]) _ _ _); k_dflt (refine' kde_tupleOf (by (k_asm)) (by (k_asm)) (by (exact News.isList (by k_asm) (by k_mem))) (by ((rw [List.size_toArray]; omega))) rfl ?_; k_whole); intro D' h' F' N' l1')) | ((with_reducible show wpAny _ _ (call (Value.builtin "sorted") _) _ _ _); (k_here; k_dflt (refine' names_sorted (by (exact rfl)) (by (k_asm)) (by (k_asm)) (by (k_mem)) (by (assumption)) (by (assumption)) (by (assumption)) (by (assumption)) ?_; k_whole); intro us' c' B' h' tk' hus' F' N' l1'; (try k_lt l1'))) | ((k_here; (with_reducible show wpAny _ _ (call (Value.ref 225) [Value.ref _, Value.int _ _]) _ _ _); k_dflt (refine' draw_u (by (walk_at "M here")) (by (intro t1; k_upd)) (by (k_mem)) (by (assumption)) (by (exact List.length_take_le _ _)) (by (omega)) (by (omega)) (by (omega)) ?_; k_whole); intro v' t1' t2' h' tk' hv1' hv2' F' N')) | ((with_reducible show wpAny _ _ (call (Value.type "range") _) _ _ _); (k_here; k_dflt (refine' range1 (by (k_asm)) (by (k_asm)) ?_; k_whole); intro r' t1' t2' t3' h' tk' R' F' N')) | (((show wpAny _ _ (call (Value.ref 176) [Value.ref _]) _ _ _); refine stop_here ?_)) | (((show wpAny _ _ (call (Value.ref 176) [Value.ref _]) _ _ _); refine stop_here ?_)) | (((with_reducible show wpAny _ _ (call (Value.ref 218) _) _ _ _); refine stop_here ?_)) | (((with_reducible show wpAny _ _ (call (Value.ref 251) _) _ _ _); refine stop_here ?_)) | (((with_reducible show wpAny _ _ (call (Value.ref 186) _) _ _ _); refine stop_here ?_)) | ((k_here; (with_reducible show wpAny _ _ (call (Value.ref 153) _) _ _ _); k_dflt (refine' relnew_ok (by (walk_at "M here")) ?_; k_whole); intro h' tk' x' dx' t1' t2' t3' t4' t5' t6' F' N' l1' l2')) | ((k_here; (with_reducible show wpAny _ _ (call (Value.ref 125) _) _ _ _); k_dflt (refine' symnew_ok (by (walk_at "M here")) ?_; k_whole); intro h' tk' x' dx' t1' t2' t3' t4' F' N' l1' l2')) | ((with_reducible show wpAny _ _ (call (Value.type "dict") _) _ _ _); (k_here; (with_reducible show wpAny _ _ (call (Value.type "dict") [Value.ref _]) _ _ _); k_dflt (refine' dict_copy (knd := PySem.strKind _ _) (by (k_asm)) (by (k_asm)) (by (exact Top.nolimit (by k_asm))) (by (k_mem)) (by (assumption)) (by (assumption)) (by (assumption)) ?_; k_whole); intro h' o' d' F' N' l1' lo' hd'; (try k_lt l1'))) | (((with_reducible show wpAny _ _ (call (Value.ref 237) [Value.ref _]) _ _ _); refine stop_here ?_))) | ((with_reducible show wpAny _ _ (subscriptTail _ _ _ _) _ _ _); first | ((with_reducible show wpAny _ _ (subscriptTail (PySem.Expr.Name _ _) (PySem.Expr.Name _ _) (Value.ref _) (Value.str _ _)) _ _ _); (k_here; k_dflt (refine' kda_item (knd := PySem.strKind _ _) (by (k_asm)) (by (k_mem)) (by (assumption)) (strKind_is _ _ _ _) (by (assumption)) ?_))) | ((with_reducible show wpAny _ _ (subscriptTail (PySem.Expr.Name _ _) (PySem.Expr.Constant _ _ _) (Value.ref _) (Value.int _ _)) _ _ _); (k_here; k_dflt (refine' tup_item (by (k_asm)) (by (k_mem)) (by (decide)) (by (decide)) (by (exact rfl)) (by (exact rfl)) ?_)))) | ((with_reducible show wpAny _ _ (newTuple _) _ _ _); first | ((with_reducible show wpAny _ _ (newTuple _) _ _ _); (k_here; (with_reducible show wpAny _ _ (newTuple [Value.str _ _, Value.bytes _ _]) _ _ _); k_dflt (refine' kup_newTuple (by (k_asm)) (by (k_asm)) ?_ (by (size_fits)); k_whole); intro D' h' F' N' l1'; (try k_lt l1')))) | ((with_reducible show wpAny _ _ (compareOp _ _ _) _ _ _); first | ((with_reducible show wpAny _ _ (compareOp CmpOp.NotEq (Value.ref _) (Value.ref _)) _ _ _); (k_here; k_dflt (refine' dicts_same (by (k_asm)) (by (k_mem)) (by (k_mem)) (by (assumption)) (by (assumption)) (by (assumption)) (by (assumption)) (by (assumption)) (by (assumption)) (by (assumption)) (by (ktr_units)) ?_))) | ((with_reducible show wpAny _ _ (compareOp CmpOp.NotEq (Value.ref _) (Value.ref _)) _ _ _); (k_here; k_dflt (refine' told_same (by (k_asm)) (by (ktr_units)) (by (assumption)) (by (assumption)) ?_)))) | ((with_reducible show wpAny _ _ (exec _ _) _ _ _); first | ((with_reducible show wpAny _ _ (exec (PySem.Stmt.Try _ _ _ _ _) _) _ _ _); (refine wpAny_Try_except ?_)) | ((with_reducible show wpAny _ _ (exec (PySem.Stmt.For _ _ _ _ _) _) _ _ _); (k_here; (rename Fr _ _ _ _ => lF'); (with_unfolding_all refine' For_invVF lF' (by (exact rfl)) (by (exact rfl)) ?_; k_whole)))) | ((with_reducible show wpAny _ _ (binaryOp _ _ _) _ _ _); first | ((with_reducible show wpAny _ _ (binaryOp Operator.Pow (Value.int _ _) (Value.int _ _)) _ _ _); (k_here; (with_reducible refine pow2_x (by (decide)) (by (decide)) ?_)))) | ((with_reducible show wpAny _ _ (setItem _ _ _) _ _ _); first | ((with_reducible show wpAny _ _ (setItem (Value.ref _) (Value.str _ _) (Value.int _ _)) _ _ _); (k_here; k_dflt (refine' kda_set (knd := PySem.strKind _ _) (by (k_asm)) (by (k_asm)) (by (k_updF)) (by (assumption)) (strKind_is _ _ _ _) (by (assumption)) ?_); intro h' o' F' N' hd'; (try dsimp only at N')))) | ((fail_if_success (with_reducible show wpAny _ _ (pyIter _) _ _ _)); walk1) | (dsimp only; (fail_if_success (with_reducible show wpAny _ _ (pyIter _) _ _ _)); walk1) | (leave1; walk_say "STEP leave1"; try dsimp only) | fail "no step"))
  refine object_ok (.mk rfl rfl (by k_asm) (by k_asm) (by k_asm) (by k_asm) (by k_asm) rfl (by ktr_room) (by ktr_units)) (by k_all) (by k_mem) (by assumption) (List.length_take_le _ _) ?_
  intro T d Y Rr R secs syms rels a ta h tk F N hRp hsub OM ha0 ha1
  refine Classical.byContradiction fun hG => ?_
  obtain ⟨R2, N, hR2c, hR2, hR2s⟩ := pull N (hsub _ (.tail _ (.tail _ (.head _))))
  have hcd := (by assumption : Obj.data _ = Data.cell _)
  replace OM := obj_pull hcd hR2 OM
  have hRp2 := fun p hp => hRp p (hR2s p hp)
  have hcells := hR2 _ (hsub _ (.head _)) (fun e => by have := congrArg Obj.data e; rw [hcd] at this; cases this)
  obtain ⟨htup, ⟨o, kS, hdm, hod, hkS⟩, hlo, ⟨ys, cY, hY, hs⟩, ⟨rs, cR, hRr, hr⟩, hkeys, hlens, hnames, hnsym, hsects, hnrel, hrok⟩ := OM
  replace hkeys : Names3 (secs.map (·.1)) := ⟨hkeys⟩
  refine hG ?_
  clear hG
  have hkz : kS.length ≤ sizeLine := by
    obtain ⟨k, k1, k3, ek⟩ := hkeys
    rw [hkS.length, ← List.length_map (f := fun p : Str × List Int => p.1), ek, List.length_take, sizeLine_eq]
    simp only [List.length_cons, List.length_nil]; omega
  have hyl : ys.length ≤ 1000 := by rw [hs.length]; omega
  have hrl : rs.length ≤ 1000 := by rw [hr.length]; omega
  (repeat' (first | (k_unfold; (try dsimp only)) | ((with_reducible show wpAny _ _ (eval _ _) _ _ _); first | ((with_reducible show wpAny _ _ (eval (PySem.Expr.ListComp (PySem.Expr.Tuple _ _ _) _ _ _) _) _ _ _); (k_here; (rename Fr _ _ _ _ => lF'); (refine' ListComp_ownF lF' (by (exact rfl)) (by (decide)) (by (exact rfl)) (by (decide)) (by (exact rfl)) (by (intro _; exact rfl)) ?_; k_whole))) | ((with_reducible show wpAny _ _ (eval (PySem.Expr.Name _ _) _) _ _ _); (refine name_comp (by with_reducible assumption) (by with_reducible assumption) ?_)) | ((with_reducible show wpAny _ _ (eval (PySem.Expr.ListComp (PySem.Expr.Call _ _ _ _) _ _ _) _) _ _ _); (k_here; (rename Fr _ _ _ _ => lF'); (refine' ListComp_ownF lF' (by (exact rfl)) (by (decide)) (by (exact rfl)) (by (decide)) (by (exact rfl)) (by (intro _; exact rfl)) ?_; k_whole)))) | ((with_reducible show wpAny _ _ (call _ _) _ _ _); first | ((with_reducible show wpAny _ _ (call (Value.type "tuple") _) _ _ _); (k_here; (with_reducible show wpAny _ _ (call (Value.type _) [Value.ref _]) _ _ _); k_dflt (refine' kde_tupleOf (by (k_asm)) (by (k_asm)) (by (exact News.isList (by k_asm) (by k_mem))) (by ((rw [List.size_toArray]; omega))) rfl ?_; k_whole); intro D' h' F' N' l1')) | ((with_reducible show wpAny _ _ (call (Value.builtin "sorted") _) _ _ _); (k_here; k_dflt (refine' names_sorted (by (exact rfl)) (by (k_asm)) (by (k_asm)) (by (k_mem)) (by (assumption)) (by (assumption)) (by (assumption)) (by (assumption)) ?_; k_whole); intro us' c' B' h' tk' hus' F' N' l1'; (try k_lt l1'))) | ((k_here; (with_reducible show wpAny _ _ (call (Value.ref 225) [Value.ref _, Value.int _ _]) _ _ _); k_dflt (refine' draw_u (by (walk_at "M here")) (by (intro t1; k_upd)) (by (k_mem)) (by (assumption)) (by (exact List.length_take_le _ _)) (by (omega)) (by (omega)) (by (omega)) ?_; k_whole); intro v' t1' t2' h' tk' hv1' hv2' F' N')) | ((with_reducible show wpAny _ _ (call (Value.type "range") _) _ _ _); (k_here; k_dflt (refine' range1 (by (k_asm)) (by (k_asm)) ?_; k_whole); intro r' t1' t2' t3' h' tk' R' F' N')) | (((show wpAny _ _ (call (Value.ref 176) [Value.ref _]) _ _ _); refine stop_here ?_)) | (((show wpAny _ _ (call (Value.ref 176) [Value.ref _]) _ _ _); refine stop_here ?_)) | (((with_reducible show wpAny _ _ (call (Value.ref 218) _) _ _ _); refine stop_here ?_)) | (((with_reducible show wpAny _ _ (call (Value.ref 251) _) _ _ _); refine stop_here ?_)) | (((with_reducible show wpAny _ _ (call (Value.ref 186) _) _ _ _); refine stop_here ?_)) | ((k_here; (with_reducible show wpAny _ _ (call (Value.ref 153) _) _ _ _); k_dflt (refine' relnew_ok (by (walk_at "M here")) ?_; k_whole); intro h' tk' x' dx' t1' t2' t3' t4' t5' t6' F' N' l1' l2')) | ((k_here; (with_reducible show wpAny _ _ (call (Value.ref 125) _) _ _ _); k_dflt (refine' symnew_ok (by (walk_at "M here")) ?_; k_whole); intro h' tk' x' dx' t1' t2' t3' t4' F' N' l1' l2')) | ((with_reducible show wpAny _ _ (call (Value.type "dict") _) _ _ _); (k_here; (with_reducible show wpAny _ _ (call (Value.type "dict") [Value.ref _]) _ _ _); k_dflt (refine' dict_copy (knd := PySem.strKind _ _) (by (k_asm)) (by (k_asm)) (by (exact Top.nolimit (by k_asm))) (by (k_mem)) (by (assumption)) (by (assumption)) (by (assumption)) ?_; k_whole); intro h' o' d' F' N' l1' lo' hd'; (try k_lt l1'))) | (((with_reducible show wpAny _ _ (call (Value.ref 237) [Value.ref _]) _ _ _); refine stop_here ?_))) | ((with_reducible show wpAny _ _ (subscriptTail _ _ _ _) _ _ _); first | ((with_reducible show wpAny _ _ (subscriptTail (PySem.Expr.Name _ _) (PySem.Expr.Name _ _) (Value.ref _) (Value.str _ _)) _ _ _); (k_here; k_dflt (refine' kda_item (knd := PySem.strKind _ _) (by (k_asm)) (by (k_mem)) (by (assumption)) (strKind_is _ _ _ _) (by (assumption)) ?_))) | ((with_reducible show wpAny _ _ (subscriptTail (PySem.Expr.Name _ _) (PySem.Expr.Constant _ _ _) (Value.ref _) (Value.int _ _)) _ _ _); (k_here; k_dflt (refine' tup_item (by (k_asm)) (by (k_mem)) (by (decide)) (by (decide)) (by (exact rfl)) (by (exact rfl)) ?_)))) | ((with_reducible show wpAny _ _ (newTuple _) _ _ _); first | ((with_reducible show wpAny _ _ (newTuple _) _ _ _); (k_here; (with_reducible show wpAny _ _ (newTuple [Value.str _ _, Value.bytes _ _]) _ _ _); k_dflt (refine' kup_newTuple (by (k_asm)) (by (k_asm)) ?_ (by (size_fits)); k_whole); intro D' h' F' N' l1'; (try k_lt l1')))) | ((with_reducible show wpAny _ _ (compareOp _ _ _) _ _ _); first | ((with_reducible show wpAny _ _ (compareOp CmpOp.NotEq (Value.ref _) (Value.ref _)) _ _ _); (k_here; k_dflt (refine' dicts_same (by (k_asm)) (by (k_mem)) (by (k_mem)) (by (assumption)) (by (assumption)) (by (assumption)) (by (assumption)) (by (assumption)) (by (assumption)) (by (assumption)) (by (ktr_units)) ?_))) | ((with_reducible show wpAny _ _ (compareOp CmpOp.NotEq (Value.ref _) (Value.ref _)) _ _ _); (k_here; k_dflt (refine' told_same (by (k_asm)) (by (ktr_units)) (by (assumption)) (by (assumption)) ?_)))) | ((with_reducible show wpAny _ _ (exec _ _) _ _ _); first | ((with_reducible show wpAny _ _ (exec (PySem.Stmt.Try _ _ _ _ _) _) _ _ _); (refine wpAny_Try_except ?_)) | ((with_reducible show wpAny _ _ (exec (PySem.Stmt.For _ _ _ _ _) _) _ _ _); (k_here; (rename Fr _ _ _ _ => lF'); (with_unfolding_all refine' For_invVF lF' (by (exact rfl)) (by (exact rfl)) ?_; k_whole)))) | ((with_reducible show wpAny _ _ (binaryOp _ _ _) _ _ _); first | ((with_reducible show wpAny _ _ (binaryOp Operator.Pow (Value.int _ _) (Value.int _ _)) _ _ _); (k_here; (with_reducible refine pow2_x (by (decide)) (by (decide)) ?_)))) | ((with_reducible show wpAny _ _ (setItem _ _ _) _ _ _); first | ((with_reducible show wpAny _ _ (setItem (Value.ref _) (Value.str _ _) (Value.int _ _)) _ _ _); (k_here; k_dflt (refine' kda_set (knd := PySem.strKind _ _) (by (k_asm)) (by (k_asm)) (by (k_updF)) (by (assumption)) (strKind_is _ _ _ _) (by (assumption)) ?_); intro h' o' F' N' hd'; (try dsimp only at N')))) | ((fail_if_success (with_reducible show wpAny _ _ (pyIter _) _ _ _)); walk1) | (dsimp only; (fail_if_success (with_reducible show wpAny _ _ (pyIter _) _ _ _)); walk1) | (leave1; walk_say "STEP leave1"; try dsimp only) | fail "no step"))
  refine Classical.byContradiction fun hG => ?_
  refine with_law (by assumption) fun D2 pen oD e1 e2 e3 => ?_
  subst e1 e2 e3
  refine hG ?_
  clear hG
  have hD2 := (by assumption : @LT.lt Nat _ pen D2 ∧ @LT.lt Nat _ _ D2 ∧ AllLt D2 R2)
  refine compList (mkJ1 w pen _ _ _ ((D2, oD) :: R2) syms) rfl (by assumption) (news_rot (by assumption)) (items := List.toArray ys) (c := cY) (by k_mem) (by rw [List.size_toArray, sizeLine_eq]; omega) ?hJ1 ⟨_, rfl, fun _ z => z, all_cons (Nat.ne_of_gt hD2.1) hRp2, all_cons (Nat.ne_of_gt hD2.2.1) hR2c, by rw [List.take_zero]; exact .nil⟩ ?turn1 ?fin1
  case hJ1 => rintro i ys1 n ⟨ns, rfl, hsub, -⟩; exact .tail _ (.tail _ (hsub _ (.tail _ hY)))
  case turn1 =>
    intro i v ys1 n h4 tk4 own C mc E' hi hJ0' off nsO hmc F4 N4
    refine Classical.byContradiction fun hG => ?_
    obtain ⟨ns, rfl, hsub, hp, hc, hall⟩ := hJ0'
    rw [List.getElem?_toArray] at hi
    obtain ⟨y, hy, x, u1, u2, u3, rfl, hx⟩ := hs.get hi
    refine hG ?_
    clear hG
    have hNs := nsO h4 fun p hp => (N4 p (List.mem_append_right _ hp)).1
    replace hx := List.mem_append_left own (hsub _ (.tail _ hx))
    simp only [List.cons_append] at N4
    (repeat' (first | (k_unfold; (try dsimp only)) | ((with_reducible show wpAny _ _ (eval _ _) _ _ _); first | ((with_reducible show wpAny _ _ (eval (PySem.Expr.ListComp (PySem.Expr.Tuple _ _ _) _ _ _) _) _ _ _); (k_here; (rename Fr _ _ _ _ => lF'); (refine' ListComp_ownF lF' (by (exact rfl)) (by (decide)) (by (exact rfl)) (by (decide)) (by (exact rfl)) (by (intro _; exact rfl)) ?_; k_whole))) | ((with_reducible show wpAny _ _ (eval (PySem.Expr.Name _ _) _) _ _ _); (refine name_comp (by with_reducible assumption) (by with_reducible assumption) ?_)) | ((with_reducible show wpAny _ _ (eval (PySem.Expr.ListComp (PySem.Expr.Call _ _ _ _) _ _ _) _) _ _ _); (k_here; (rename Fr _ _ _ _ => lF'); (refine' ListComp_ownF lF' (by (exact rfl)) (by (decide)) (by (exact rfl)) (by (decide)) (by (exact rfl)) (by (intro _; exact rfl)) ?_; k_whole)))) | ((with_reducible show wpAny _ _ (call _ _) _ _ _); first | ((with_reducible show wpAny _ _ (call (Value.type "tuple") _) _ _ _); (k_here; (with_reducible show wpAny _ _ (call (Value.type _) [Value.ref _]) _ _ _); k_dflt (refine' kde_tupleOf (by (k_asm)) (by (k_asm)) (by (exact News.isList (by k_asm) (by k_mem))) (by ((rw [List.size_toArray]; omega))) rfl ?_; k_whole); intro D' h' F' N' l1')) | ((with_reducible show wpAny _ _ (call (Value.builtin "sorted") _) _ _ _); (k_here; k_dflt (refine' names_sorted (by (exact rfl)) (by (k_asm)) (by (k_asm)) (by (k_mem)) (by (assumption)) (by (assumption)) (by (assumption)) (by (assumption)) ?_; k_whole); intro us' c' B' h' tk' hus' F' N' l1'; (try k_lt l1'))) | ((k_here; (with_reducible show wpAny _ _ (call (Value.ref 225) [Value.ref _, Value.int _ _]) _ _ _); k_dflt (refine' draw_u (by (walk_at "M here")) (by (intro t1; k_upd)) (by (k_mem)) (by (assumption)) (by (exact List.length_take_le _ _)) (by (omega)) (by (omega)) (by (omega)) ?_; k_whole); intro v' t1' t2' h' tk' hv1' hv2' F' N')) | ((with_reducible show wpAny _ _ (call (Value.type "range") _) _ _ _); (k_here; k_dflt (refine' range1 (by (k_asm)) (by (k_asm)) ?_; k_whole); intro r' t1' t2' t3' h' tk' R' F' N')) | (((show wpAny _ _ (call (Value.ref 176) [Value.ref _]) _ _ _); refine stop_here ?_)) | (((show wpAny _ _ (call (Value.ref 176) [Value.ref _]) _ _ _); refine stop_here ?_)) | (((with_reducible show wpAny _ _ (call (Value.ref 218) _) _ _ _); refine stop_here ?_)) | (((with_reducible show wpAny _ _ (call (Value.ref 251) _) _ _ _); refine stop_here ?_)) | (((with_reducible show wpAny _ _ (call (Value.ref 186) _) _ _ _); refine stop_here ?_)) | ((k_here; (with_reducible show wpAny _ _ (call (Value.ref 153) _) _ _ _); k_dflt (refine' relnew_ok (by (walk_at "M here")) ?_; k_whole); intro h' tk' x' dx' t1' t2' t3' t4' t5' t6' F' N' l1' l2')) | ((k_here; (with_reducible show wpAny _ _ (call (Value.ref 125) _) _ _ _); k_dflt (refine' symnew_ok (by (walk_at "M here")) ?_; k_whole); intro h' tk' x' dx' t1' t2' t3' t4' F' N' l1' l2')) | ((with_reducible show wpAny _ _ (call (Value.type "dict") _) _ _ _); (k_here; (with_reducible show wpAny _ _ (call (Value.type "dict") [Value.ref _]) _ _ _); k_dflt (refine' dict_copy (knd := PySem.strKind _ _) (by (k_asm)) (by (k_asm)) (by (exact Top.nolimit (by k_asm))) (by (k_mem)) (by (assumption)) (by (assumption)) (by (assumption)) ?_; k_whole); intro h' o' d' F' N' l1' lo' hd'; (try k_lt l1'))) | (((with_reducible show wpAny _ _ (call (Value.ref 237) [Value.ref _]) _ _ _); refine stop_here ?_))) | ((with_reducible show wpAny _ _ (subscriptTail _ _ _ _) _ _ _); first | ((with_reducible show wpAny _ _ (subscriptTail (PySem.Expr.Name _ _) (PySem.Expr.Name _ _) (Value.ref _) (Value.str _ _)) _ _ _); (k_here; k_dflt (refine' kda_item (knd := PySem.strKind _ _) (by (k_asm)) (by (k_mem)) (by (assumption)) (strKind_is _ _ _ _) (by (assumption)) ?_))) | ((with_reducible show wpAny _ _ (subscriptTail (PySem.Expr.Name _ _) (PySem.Expr.Constant _ _ _) (Value.ref _) (Value.int _ _)) _ _ _); (k_here; k_dflt (refine' tup_item (by (k_asm)) (by (k_mem)) (by (decide)) (by (decide)) (by (exact rfl)) (by (exact rfl)) ?_)))) | ((with_reducible show wpAny _ _ (newTuple _) _ _ _); first | ((with_reducible show wpAny _ _ (newTuple _) _ _ _); (k_here; (with_reducible show wpAny _ _ (newTuple [Value.str _ _, Value.bytes _ _]) _ _ _); k_dflt (refine' kup_newTuple (by (k_asm)) (by (k_asm)) ?_ (by (size_fits)); k_whole); intro D' h' F' N' l1'; (try k_lt l1')))) | ((with_reducible show wpAny _ _ (compareOp _ _ _) _ _ _); first | ((with_reducible show wpAny _ _ (compareOp CmpOp.NotEq (Value.ref _) (Value.ref _)) _ _ _); (k_here; k_dflt (refine' dicts_same (by (k_asm)) (by (k_mem)) (by (k_mem)) (by (assumption)) (by (assumption)) (by (assumption)) (by (assumption)) (by (assumption)) (by (assumption)) (by (assumption)) (by (ktr_units)) ?_))) | ((with_reducible show wpAny _ _ (compareOp CmpOp.NotEq (Value.ref _) (Value.ref _)) _ _ _); (k_here; k_dflt (refine' told_same (by (k_asm)) (by (ktr_units)) (by (assumption)) (by (assumption)) ?_)))) | ((with_reducible show wpAny _ _ (exec _ _) _ _ _); first | ((with_reducible show wpAny _ _ (exec (PySem.Stmt.Try _ _ _ _ _) _) _ _ _); (refine wpAny_Try_except ?_)) | ((with_reducible show wpAny _ _ (exec (PySem.Stmt.For _ _ _ _ _) _) _ _ _); (k_here; (rename Fr _ _ _ _ => lF'); (with_unfolding_all refine' For_invVF lF' (by (exact rfl)) (by (exact rfl)) ?_; k_whole)))) | ((with_reducible show wpAny _ _ (binaryOp _ _ _) _ _ _); first | ((with_reducible show wpAny _ _ (binaryOp Operator.Pow (Value.int _ _) (Value.int _ _)) _ _ _); (k_here; (with_reducible refine pow2_x (by (decide)) (by (decide)) ?_)))) | ((with_reducible show wpAny _ _ (setItem _ _ _) _ _ _); first | ((with_reducible show wpAny _ _ (setItem (Value.ref _) (Value.str _ _) (Value.int _ _)) _ _ _); (k_here; k_dflt (refine' kda_set (knd := PySem.strKind _ _) (by (k_asm)) (by (k_asm)) (by (k_updF)) (by (assumption)) (strKind_is _ _ _ _) (by (assumption)) ?_); intro h' o' F' N' hd'; (try dsimp only at N')))) | ((fail_if_success (with_reducible show wpAny _ _ (pyIter _) _ _ _)); walk1) | (dsimp only; (fail_if_success (with_reducible show wpAny _ _ (pyIter _) _ _ _)); walk1) | (leave1; walk_say "STEP leave1"; try dsimp only) | fail "no step"))
    exact mk_end (by with_reducible assumption) (by with_reducible assumption) (by with_reducible assumption) (by with_reducible assumption) off hp hc fun a b => ⟨_, rfl, fun p hp => .tail _ (.tail _ (hsub p hp)), a, b, symAt_new hy hall⟩
  case fin1 =>
    intro D3 ys1 c1 n h4 tk4 H4 hJ0' hlen F4 N4 hne4
    refine Classical.byContradiction fun hG => ?_
    obtain ⟨ns, rfl, hsub, hp, hc, hall⟩ := hJ0'
    refine hG ?_
    clear hG
    (repeat' (first | (k_unfold; (try dsimp only)) | ((with_reducible show wpAny _ _ (eval _ _) _ _ _); first | ((with_reducible show wpAny _ _ (eval (PySem.Expr.ListComp (PySem.Expr.Tuple _ _ _) _ _ _) _) _ _ _); (k_here; (rename Fr _ _ _ _ => lF'); (refine' ListComp_ownF lF' (by (exact rfl)) (by (decide)) (by (exact rfl)) (by (decide)) (by (exact rfl)) (by (intro _; exact rfl)) ?_; k_whole))) | ((with_reducible show wpAny _ _ (eval (PySem.Expr.Name _ _) _) _ _ _); (refine name_comp (by with_reducible assumption) (by with_reducible assumption) ?_)) | ((with_reducible show wpAny _ _ (eval (PySem.Expr.ListComp (PySem.Expr.Call _ _ _ _) _ _ _) _) _ _ _); (k_here; (rename Fr _ _ _ _ => lF'); (refine' ListComp_ownF lF' (by (exact rfl)) (by (decide)) (by (exact rfl)) (by (decide)) (by (exact rfl)) (by (intro _; exact rfl)) ?_; k_whole)))) | ((with_reducible show wpAny _ _ (call _ _) _ _ _); first | ((with_reducible show wpAny _ _ (call (Value.type "tuple") _) _ _ _); (k_here; (with_reducible show wpAny _ _ (call (Value.type _) [Value.ref _]) _ _ _); k_dflt (refine' kde_tupleOf (by (k_asm)) (by (k_asm)) (by (exact News.isList (by k_asm) (by k_mem))) (by ((rw [List.size_toArray]; omega))) rfl ?_; k_whole); intro D' h' F' N' l1')) | ((with_reducible show wpAny _ _ (call (Value.builtin "sorted") _) _ _ _); (k_here; k_dflt (refine' names_sorted (by (exact rfl)) (by (k_asm)) (by (k_asm)) (by (k_mem)) (by (assumption)) (by (assumption)) (by (assumption)) (by (assumption)) ?_; k_whole); intro us' c' B' h' tk' hus' F' N' l1'; (try k_lt l1'))) | ((k_here; (with_reducible show wpAny _ _ (call (Value.ref 225) [Value.ref _, Value.int _ _]) _ _ _); k_dflt (refine' draw_u (by (walk_at "M here")) (by (intro t1; k_upd)) (by (k_mem)) (by (assumption)) (by (exact List.length_take_le _ _)) (by (omega)) (by (omega)) (by (omega)) ?_; k_whole); intro v' t1' t2' h' tk' hv1' hv2' F' N')) | ((with_reducible show wpAny _ _ (call (Value.type "range") _) _ _ _); (k_here; k_dflt (refine' range1 (by (k_asm)) (by (k_asm)) ?_; k_whole); intro r' t1' t2' t3' h' tk' R' F' N')) | (((show wpAny _ _ (call (Value.ref 176) [Value.ref _]) _ _ _); refine stop_here ?_)) | (((show wpAny _ _ (call (Value.ref 176) [Value.ref _]) _ _ _); refine stop_here ?_)) | (((with_reducible show wpAny _ _ (call (Value.ref 218) _) _ _ _); refine stop_here ?_)) | (((with_reducible show wpAny _ _ (call (Value.ref 251) _) _ _ _); refine stop_here ?_)) | (((with_reducible show wpAny _ _ (call (Value.ref 186) _) _ _ _); refine stop_here ?_)) | ((k_here; (with_reducible show wpAny _ _ (call (Value.ref 153) _) _ _ _); k_dflt (refine' relnew_ok (by (walk_at "M here")) ?_; k_whole); intro h' tk' x' dx' t1' t2' t3' t4' t5' t6' F' N' l1' l2')) | ((k_here; (with_reducible show wpAny _ _ (call (Value.ref 125) _) _ _ _); k_dflt (refine' symnew_ok (by (walk_at "M here")) ?_; k_whole); intro h' tk' x' dx' t1' t2' t3' t4' F' N' l1' l2')) | ((with_reducible show wpAny _ _ (call (Value.type "dict") _) _ _ _); (k_here; (with_reducible show wpAny _ _ (call (Value.type "dict") [Value.ref _]) _ _ _); k_dflt (refine' dict_copy (knd := PySem.strKind _ _) (by (k_asm)) (by (k_asm)) (by (exact Top.nolimit (by k_asm))) (by (k_mem)) (by (assumption)) (by (assumption)) (by (assumption)) ?_; k_whole); intro h' o' d' F' N' l1' lo' hd'; (try k_lt l1'))) | (((with_reducible show wpAny _ _ (call (Value.ref 237) [Value.ref _]) _ _ _); refine stop_here ?_))) | ((with_reducible show wpAny _ _ (subscriptTail _ _ _ _) _ _ _); first | ((with_reducible show wpAny _ _ (subscriptTail (PySem.Expr.Name _ _) (PySem.Expr.Name _ _) (Value.ref _) (Value.str _ _)) _ _ _); (k_here; k_dflt (refine' kda_item (knd := PySem.strKind _ _) (by (k_asm)) (by (k_mem)) (by (assumption)) (strKind_is _ _ _ _) (by (assumption)) ?_))) | ((with_reducible show wpAny _ _ (subscriptTail (PySem.Expr.Name _ _) (PySem.Expr.Constant _ _ _) (Value.ref _) (Value.int _ _)) _ _ _); (k_here; k_dflt (refine' tup_item (by (k_asm)) (by (k_mem)) (by (decide)) (by (decide)) (by (exact rfl)) (by (exact rfl)) ?_)))) | ((with_reducible show wpAny _ _ (newTuple _) _ _ _); first | ((with_reducible show wpAny _ _ (newTuple _) _ _ _); (k_here; (with_reducible show wpAny _ _ (newTuple [Value.str _ _, Value.bytes _ _]) _ _ _); k_dflt (refine' kup_newTuple (by (k_asm)) (by (k_asm)) ?_ (by (size_fits)); k_whole); intro D' h' F' N' l1'; (try k_lt l1')))) | ((with_reducible show wpAny _ _ (compareOp _ _ _) _ _ _); first | ((with_reducible show wpAny _ _ (compareOp CmpOp.NotEq (Value.ref _) (Value.ref _)) _ _ _); (k_here; k_dflt (refine' dicts_same (by (k_asm)) (by (k_mem)) (by (k_mem)) (by (assumption)) (by (assumption)) (by (assumption)) (by (assumption)) (by (assumption)) (by (assumption)) (by (assumption)) (by (ktr_units)) ?_))) | ((with_reducible show wpAny _ _ (compareOp CmpOp.NotEq (Value.ref _) (Value.ref _)) _ _ _); (k_here; k_dflt (refine' told_same (by (k_asm)) (by (ktr_units)) (by (assumption)) (by (assumption)) ?_)))) | ((with_reducible show wpAny _ _ (exec _ _) _ _ _); first | ((with_reducible show wpAny _ _ (exec (PySem.Stmt.Try _ _ _ _ _) _) _ _ _); (refine wpAny_Try_except ?_)) | ((with_reducible show wpAny _ _ (exec (PySem.Stmt.For _ _ _ _ _) _) _ _ _); (k_here; (rename Fr _ _ _ _ => lF'); (with_unfolding_all refine' For_invVF lF' (by (exact rfl)) (by (exact rfl)) ?_; k_whole)))) | ((with_reducible show wpAny _ _ (binaryOp _ _ _) _ _ _); first | ((with_reducible show wpAny _ _ (binaryOp Operator.Pow (Value.int _ _) (Value.int _ _)) _ _ _); (k_here; (with_reducible refine pow2_x (by (decide)) (by (decide)) ?_)))) | ((with_reducible show wpAny _ _ (setItem _ _ _) _ _ _); first | ((with_reducible show wpAny _ _ (setItem (Value.ref _) (Value.str _ _) (Value.int _ _)) _ _ _); (k_here; k_dflt (refine' kda_set (knd := PySem.strKind _ _) (by (k_asm)) (by (k_asm)) (by (k_updF)) (by (assumption)) (strKind_is _ _ _ _) (by (assumption)) ?_); intro h' o' F' N' hd'; (try dsimp only at N')))) | ((fail_if_success (with_reducible show wpAny _ _ (pyIter _) _ _ _)); walk1) | (dsimp only; (fail_if_success (with_reducible show wpAny _ _ (pyIter _) _ _ _)); walk1) | (leave1; walk_say "STEP leave1"; try dsimp only) | fail "no step"))
    have hRr2 := hsub _ (.tail _ hRr)
    refine compList (mkJ2 w pen _ _ _ ((D3, PySem.W.listOf (List.toArray ys1) c1) :: ns) rels) rfl (by assumption) (news_rot (by assumption)) (items := List.toArray rs) (c := cR) (by k_mem) (by rw [List.size_toArray, sizeLine_eq]; omega) ?hJ2 ⟨_, rfl, fun _ z => z, all_cons (Ne.symm (hne4 (pen, _) (.head _))) hp, all_cons (Ne.symm (hne4 _ (.tail _ (.head _)))) hc, by rw [List.take_zero]; exact .nil⟩ ?turn2 ?fin2
    case hJ2 => rintro i ys1 n ⟨ns', rfl, hsub', -⟩; exact .tail _ (.tail _ (hsub' _ (.tail _ hRr2)))
    case turn2 =>
      intro i v ys2 n h5 tk5 own C mc E' hi hJ0' off nsO hmc F5 N5
      refine Classical.byContradiction fun hG => ?_
      obtain ⟨ns', rfl, hsub', hp', hc', hall'⟩ := hJ0'
      rw [List.getElem?_toArray] at hi
      obtain ⟨y, hy, x, u1, u2, u3, u4, u5, u6, rfl, hx⟩ := hr.get hi
      refine hG ?_
      clear hG
      have hNs := nsO h5 fun p hp => (N5 p (List.mem_append_right _ hp)).1
      replace hx := List.mem_append_left own (hsub' _ (.tail _ (hsub _ (.tail _ hx))))
      simp only [List.cons_append] at N5
      (repeat' (first | (k_unfold; (try dsimp only)) | ((with_reducible show wpAny _ _ (eval _ _) _ _ _); first | ((with_reducible show wpAny _ _ (eval (PySem.Expr.ListComp (PySem.Expr.Tuple _ _ _) _ _ _) _) _ _ _); (k_here; (rename Fr _ _ _ _ => lF'); (refine' ListComp_ownF lF' (by (exact rfl)) (by (decide)) (by (exact rfl)) (by (decide)) (by (exact rfl)) (by (intro _; exact rfl)) ?_; k_whole))) | ((with_reducible show wpAny _ _ (eval (PySem.Expr.Name _ _) _) _ _ _); (refine name_comp (by with_reducible assumption) (by with_reducible assumption) ?_)) | ((with_reducible show wpAny _ _ (eval (PySem.Expr.ListComp (PySem.Expr.Call _ _ _ _) _ _ _) _) _ _ _); (k_here; (rename Fr _ _ _ _ => lF'); (refine' ListComp_ownF lF' (by (exact rfl)) (by (decide)) (by (exact rfl)) (by (decide)) (by (exact rfl)) (by (intro _; exact rfl)) ?_; k_whole)))) | ((with_reducible show wpAny _ _ (call _ _) _ _ _); first | ((with_reducible show wpAny _ _ (call (Value.type "tuple") _) _ _ _); (k_here; (with_reducible show wpAny _ _ (call (Value.type _) [Value.ref _]) _ _ _); k_dflt (refine' kde_tupleOf (by (k_asm)) (by (k_asm)) (by (exact News.isList (by k_asm) (by k_mem))) (by ((rw [List.size_toArray]; omega))) rfl ?_; k_whole); intro D' h' F' N' l1')) | ((with_reducible show wpAny _ _ (call (Value.builtin "sorted") _) _ _ _); (k_here; k_dflt (refine' names_sorted (by (exact rfl)) (by (k_asm)) (by (k_asm)) (by (k_mem)) (by (assumption)) (by (assumption)) (by (assumption)) (by (assumption)) ?_; k_whole); intro us' c' B' h' tk' hus' F' N' l1'; (try k_lt l1'))) | ((k_here; (with_reducible show wpAny _ _ (call (Value.ref 225) [Value.ref _, Value.int _ _]) _ _ _); k_dflt (refine' draw_u (by (walk_at "M here")) (by (intro t1; k_upd)) (by (k_mem)) (by (assumption)) (by (exact List.length_take_le _ _)) (by (omega)) (by (omega)) (by (omega)) ?_; k_whole); intro v' t1' t2' h' tk' hv1' hv2' F' N')) | ((with_reducible show wpAny _ _ (call (Value.type "range") _) _ _ _); (k_here; k_dflt (refine' range1 (by (k_asm)) (by (k_asm)) ?_; k_whole); intro r' t1' t2' t3' h' tk' R' F' N')) | (((show wpAny _ _ (call (Value.ref 176) [Value.ref _]) _ _ _); refine stop_here ?_)) | (((show wpAny _ _ (call (Value.ref 176) [Value.ref _]) _ _ _); refine stop_here ?_)) | (((with_reducible show wpAny _ _ (call (Value.ref 218) _) _ _ _); refine stop_here ?_)) | (((with_reducible show wpAny _ _ (call (Value.ref 251) _) _ _ _); refine stop_here ?_)) | (((with_reducible show wpAny _ _ (call (Value.ref 186) _) _ _ _); refine stop_here ?_)) | ((k_here; (with_reducible show wpAny _ _ (call (Value.ref 153) _) _ _ _); k_dflt (refine' relnew_ok (by (walk_at "M here")) ?_; k_whole); intro h' tk' x' dx' t1' t2' t3' t4' t5' t6' F' N' l1' l2')) | ((k_here; (with_reducible show wpAny _ _ (call (Value.ref 125) _) _ _ _); k_dflt (refine' symnew_ok (by (walk_at "M here")) ?_; k_whole); intro h' tk' x' dx' t1' t2' t3' t4' F' N' l1' l2')) | ((with_reducible show wpAny _ _ (call (Value.type "dict") _) _ _ _); (k_here; (with_reducible show wpAny _ _ (call (Value.type "dict") [Value.ref _]) _ _ _); k_dflt (refine' dict_copy (knd := PySem.strKind _ _) (by (k_asm)) (by (k_asm)) (by (exact Top.nolimit (by k_asm))) (by (k_mem)) (by (assumption)) (by (assumption)) (by (assumption)) ?_; k_whole); intro h' o' d' F' N' l1' lo' hd'; (try k_lt l1'))) | (((with_reducible show wpAny _ _ (call (Value.ref 237) [Value.ref _]) _ _ _); refine stop_here ?_))) | ((with_reducible show wpAny _ _ (subscriptTail _ _ _ _) _ _ _); first | ((with_reducible show wpAny _ _ (subscriptTail (PySem.Expr.Name _ _) (PySem.Expr.Name _ _) (Value.ref _) (Value.str _ _)) _ _ _); (k_here; k_dflt (refine' kda_item (knd := PySem.strKind _ _) (by (k_asm)) (by (k_mem)) (by (assumption)) (strKind_is _ _ _ _) (by (assumption)) ?_))) | ((with_reducible show wpAny _ _ (subscriptTail (PySem.Expr.Name _ _) (PySem.Expr.Constant _ _ _) (Value.ref _) (Value.int _ _)) _ _ _); (k_here; k_dflt (refine' tup_item (by (k_asm)) (by (k_mem)) (by (decide)) (by (decide)) (by (exact rfl)) (by (exact rfl)) ?_)))) | ((with_reducible show wpAny _ _ (newTuple _) _ _ _); first | ((with_reducible show wpAny _ _ (newTuple _) _ _ _); (k_here; (with_reducible show wpAny _ _ (newTuple [Value.str _ _, Value.bytes _ _]) _ _ _); k_dflt (refine' kup_newTuple (by (k_asm)) (by (k_asm)) ?_ (by (size_fits)); k_whole); intro D' h' F' N' l1'; (try k_lt l1')))) | ((with_reducible show wpAny _ _ (compareOp _ _ _) _ _ _); first | ((with_reducible show wpAny _ _ (compareOp CmpOp.NotEq (Value.ref _) (Value.ref _)) _ _ _); (k_here; k_dflt (refine' dicts_same (by (k_asm)) (by (k_mem)) (by (k_mem)) (by (assumption)) (by (assumption)) (by (assumption)) (by (assumption)) (by (assumption)) (by (assumption)) (by (assumption)) (by (ktr_units)) ?_))) | ((with_reducible show wpAny _ _ (compareOp CmpOp.NotEq (Value.ref _) (Value.ref _)) _ _ _); (k_here; k_dflt (refine' told_same (by (k_asm)) (by (ktr_units)) (by (assumption)) (by (assumption)) ?_)))) | ((with_reducible show wpAny _ _ (exec _ _) _ _ _); first | ((with_reducible show wpAny _ _ (exec (PySem.Stmt.Try _ _ _ _ _) _) _ _ _); (refine wpAny_Try_except ?_)) | ((with_reducible show wpAny _ _ (exec (PySem.Stmt.For _ _ _ _ _) _) _ _ _); (k_here; (rename Fr _ _ _ _ => lF'); (with_unfolding_all refine' For_invVF lF' (by (exact rfl)) (by (exact rfl)) ?_; k_whole)))) | ((with_reducible show wpAny _ _ (binaryOp _ _ _) _ _ _); first | ((with_reducible show wpAny _ _ (binaryOp Operator.Pow (Value.int _ _) (Value.int _ _)) _ _ _); (k_here; (with_reducible refine pow2_x (by (decide)) (by (decide)) ?_)))) | ((with_reducible show wpAny _ _ (setItem _ _ _) _ _ _); first | ((with_reducible show wpAny _ _ (setItem (Value.ref _) (Value.str _ _) (Value.int _ _)) _ _ _); (k_here; k_dflt (refine' kda_set (knd := PySem.strKind _ _) (by (k_asm)) (by (k_asm)) (by (k_updF)) (by (assumption)) (strKind_is _ _ _ _) (by (assumption)) ?_); intro h' o' F' N' hd'; (try dsimp only at N')))) | ((fail_if_success (with_reducible show wpAny _ _ (pyIter _) _ _ _)); walk1) | (dsimp only; (fail_if_success (with_reducible show wpAny _ _ (pyIter _) _ _ _)); walk1) | (leave1; walk_say "STEP leave1"; try dsimp only) | fail "no step"))
      exact mk_end (by with_reducible assumption) (by with_reducible assumption) (by with_reducible assumption) (by with_reducible assumption) off hp' hc' fun a b => ⟨_, rfl, fun p hp => .tail _ (.tail _ (hsub' p hp)), a, b, relAt_new hy hall'⟩
    case fin2 =>
      intro D4 rs1 c2 n h5 tk5 H5 hJ0' hlen2 F5 N5 hne5
      refine Classical.byContradiction fun hG => ?_
      obtain ⟨ns2, rfl, hsub2, hp2, hc2, hall2⟩ := hJ0'
      refine hG ?_
      clear hG
      (repeat' (first | (k_unfold; (try dsimp only)) | ((with_reducible show wpAny _ _ (eval _ _) _ _ _); first | ((with_reducible show wpAny _ _ (eval (PySem.Expr.ListComp (PySem.Expr.Tuple _ _ _) _ _ _) _) _ _ _); (k_here; (rename Fr _ _ _ _ => lF'); (refine' ListComp_ownF lF' (by (exact rfl)) (by (decide)) (by (exact rfl)) (by (decide)) (by (exact rfl)) (by (intro _; exact rfl)) ?_; k_whole))) | ((with_reducible show wpAny _ _ (eval (PySem.Expr.Name _ _) _) _ _ _); (refine name_comp (by with_reducible assumption) (by with_reducible assumption) ?_)) | ((with_reducible show wpAny _ _ (eval (PySem.Expr.ListComp (PySem.Expr.Call _ _ _ _) _ _ _) _) _ _ _); (k_here; (rename Fr _ _ _ _ => lF'); (refine' ListComp_ownF lF' (by (exact rfl)) (by (decide)) (by (exact rfl)) (by (decide)) (by (exact rfl)) (by (intro _; exact rfl)) ?_; k_whole)))) | ((with_reducible show wpAny _ _ (call _ _) _ _ _); first | ((with_reducible show wpAny _ _ (call (Value.type "tuple") _) _ _ _); (k_here; (with_reducible show wpAny _ _ (call (Value.type _) [Value.ref _]) _ _ _); k_dflt (refine' kde_tupleOf (by (k_asm)) (by (k_asm)) (by (exact News.isList (by k_asm) (by k_mem))) (by ((rw [List.size_toArray]; omega))) rfl ?_; k_whole); intro D' h' F' N' l1')) | ((with_reducible show wpAny _ _ (call (Value.builtin "sorted") _) _ _ _); (k_here; k_dflt (refine' names_sorted (by (exact rfl)) (by (k_asm)) (by (k_asm)) (by (k_mem)) (by (assumption)) (by (assumption)) (by (assumption)) (by (assumption)) ?_; k_whole); intro us' c' B' h' tk' hus' F' N' l1'; (try k_lt l1'))) | ((k_here; (with_reducible show wpAny _ _ (call (Value.ref 225) [Value.ref _, Value.int _ _]) _ _ _); k_dflt (refine' draw_u (by (walk_at "M here")) (by (intro t1; k_upd)) (by (k_mem)) (by (assumption)) (by (exact List.length_take_le _ _)) (by (omega)) (by (omega)) (by (omega)) ?_; k_whole); intro v' t1' t2' h' tk' hv1' hv2' F' N')) | ((with_reducible show wpAny _ _ (call (Value.type "range") _) _ _ _); (k_here; k_dflt (refine' range1 (by (k_asm)) (by (k_asm)) ?_; k_whole); intro r' t1' t2' t3' h' tk' R' F' N')) | (((show wpAny _ _ (call (Value.ref 176) [Value.ref _]) _ _ _); refine stop_here ?_)) | (((show wpAny _ _ (call (Value.ref 176) [Value.ref _]) _ _ _); refine stop_here ?_)) | (((with_reducible show wpAny _ _ (call (Value.ref 218) _) _ _ _); refine stop_here ?_)) | (((with_reducible show wpAny _ _ (call (Value.ref 251) _) _ _ _); refine stop_here ?_)) | (((with_reducible show wpAny _ _ (call (Value.ref 186) _) _ _ _); refine stop_here ?_)) | ((k_here; (with_reducible show wpAny _ _ (call (Value.ref 153) _) _ _ _); k_dflt (refine' relnew_ok (by (walk_at "M here")) ?_; k_whole); intro h' tk' x' dx' t1' t2' t3' t4' t5' t6' F' N' l1' l2')) | ((k_here; (with_reducible show wpAny _ _ (call (Value.ref 125) _) _ _ _); k_dflt (refine' symnew_ok (by (walk_at "M here")) ?_; k_whole); intro h' tk' x' dx' t1' t2' t3' t4' F' N' l1' l2')) | ((with_reducible show wpAny _ _ (call (Value.type "dict") _) _ _ _); (k_here; (with_reducible show wpAny _ _ (call (Value.type "dict") [Value.ref _]) _ _ _); k_dflt (refine' dict_copy (knd := PySem.strKind _ _) (by (k_asm)) (by (k_asm)) (by (exact Top.nolimit (by k_asm))) (by (k_mem)) (by (assumption)) (by (assumption)) (by (assumption)) ?_; k_whole); intro h' o' d' F' N' l1' lo' hd'; (try k_lt l1'))) | (((with_reducible show wpAny _ _ (call (Value.ref 237) [Value.ref _]) _ _ _); refine stop_here ?_))) | ((with_reducible show wpAny _ _ (subscriptTail _ _ _ _) _ _ _); first | ((with_reducible show wpAny _ _ (subscriptTail (PySem.Expr.Name _ _) (PySem.Expr.Name _ _) (Value.ref _) (Value.str _ _)) _ _ _); (k_here; k_dflt (refine' kda_item (knd := PySem.strKind _ _) (by (k_asm)) (by (k_mem)) (by (assumption)) (strKind_is _ _ _ _) (by (assumption)) ?_))) | ((with_reducible show wpAny _ _ (subscriptTail (PySem.Expr.Name _ _) (PySem.Expr.Constant _ _ _) (Value.ref _) (Value.int _ _)) _ _ _); (k_here; k_dflt (refine' tup_item (by (k_asm)) (by (k_mem)) (by (decide)) (by (decide)) (by (exact rfl)) (by (exact rfl)) ?_)))) | ((with_reducible show wpAny _ _ (newTuple _) _ _ _); first | ((with_reducible show wpAny _ _ (newTuple _) _ _ _); (k_here; (with_reducible show wpAny _ _ (newTuple [Value.str _ _, Value.bytes _ _]) _ _ _); k_dflt (refine' kup_newTuple (by (k_asm)) (by (k_asm)) ?_ (by (size_fits)); k_whole); intro D' h' F' N' l1'; (try k_lt l1')))) | ((with_reducible show wpAny _ _ (compareOp _ _ _) _ _ _); first | ((with_reducible show wpAny _ _ (compareOp CmpOp.NotEq (Value.ref _) (Value.ref _)) _ _ _); (k_here; k_dflt (refine' dicts_same (by (k_asm)) (by (k_mem)) (by (k_mem)) (by (assumption)) (by (assumption)) (by (assumption)) (by (assumption)) (by (assumption)) (by (assumption)) (by (assumption)) (by (ktr_units)) ?_))) | ((with_reducible show wpAny _ _ (compareOp CmpOp.NotEq (Value.ref _) (Value.ref _)) _ _ _); (k_here; k_dflt (refine' told_same (by (k_asm)) (by (ktr_units)) (by (assumption)) (by (assumption)) ?_)))) | ((with_reducible show wpAny _ _ (exec _ _) _ _ _); first | ((with_reducible show wpAny _ _ (exec (PySem.Stmt.Try _ _ _ _ _) _) _ _ _); (refine wpAny_Try_except ?_)) | ((with_reducible show wpAny _ _ (exec (PySem.Stmt.For _ _ _ _ _) _) _ _ _); (k_here; (rename Fr _ _ _ _ => lF'); (with_unfolding_all refine' For_invVF lF' (by (exact rfl)) (by (exact rfl)) ?_; k_whole)))) | ((with_reducible show wpAny _ _ (binaryOp _ _ _) _ _ _); first | ((with_reducible show wpAny _ _ (binaryOp Operator.Pow (Value.int _ _) (Value.int _ _)) _ _ _); (k_here; (with_reducible refine pow2_x (by (decide)) (by (decide)) ?_)))) | ((with_reducible show wpAny _ _ (setItem _ _ _) _ _ _); first | ((with_reducible show wpAny _ _ (setItem (Value.ref _) (Value.str _ _) (Value.int _ _)) _ _ _); (k_here; k_dflt (refine' kda_set (knd := PySem.strKind _ _) (by (k_asm)) (by (k_asm)) (by (k_updF)) (by (assumption)) (strKind_is _ _ _ _) (by (assumption)) ?_); intro h' o' F' N' hd'; (try dsimp only at N')))) | ((fail_if_success (with_reducible show wpAny _ _ (pyIter _) _ _ _)); walk1) | (dsimp only; (fail_if_success (with_reducible show wpAny _ _ (pyIter _) _ _ _)); walk1) | (leave1; walk_say "STEP leave1"; try dsimp only) | fail "no step"))
      refine asmnew_ok (.mk rfl rfl (by k_asm) (by k_asm) (by k_asm) (by k_asm) (by k_asm) rfl (by ktr_room) (by ktr_units)) ?_
      intro h6 tk6 asm da t1 t2 t3 t4 F6 N6 l1 l2
      (repeat' (first | (k_unfold; (try dsimp only)) | ((with_reducible show wpAny _ _ (eval _ _) _ _ _); first | ((with_reducible show wpAny _ _ (eval (PySem.Expr.ListComp (PySem.Expr.Tuple _ _ _) _ _ _) _) _ _ _); (k_here; (rename Fr _ _ _ _ => lF'); (refine' ListComp_ownF lF' (by (exact rfl)) (by (decide)) (by (exact rfl)) (by (decide)) (by (exact rfl)) (by (intro _; exact rfl)) ?_; k_whole))) | ((with_reducible show wpAny _ _ (eval (PySem.Expr.Name _ _) _) _ _ _); (refine name_comp (by with_reducible assumption) (by with_reducible assumption) ?_)) | ((with_reducible show wpAny _ _ (eval (PySem.Expr.ListComp (PySem.Expr.Call _ _ _ _) _ _ _) _) _ _ _); (k_here; (rename Fr _ _ _ _ => lF'); (refine' ListComp_ownF lF' (by (exact rfl)) (by (decide)) (by (exact rfl)) (by (decide)) (by (exact rfl)) (by (intro _; exact rfl)) ?_; k_whole)))) | ((with_reducible show wpAny _ _ (call _ _) _ _ _); first | ((with_reducible show wpAny _ _ (call (Value.type "tuple") _) _ _ _); (k_here; (with_reducible show wpAny _ _ (call (Value.type _) [Value.ref _]) _ _ _); k_dflt (refine' kde_tupleOf (by (k_asm)) (by (k_asm)) (by (exact News.isList (by k_asm) (by k_mem))) (by ((rw [List.size_toArray]; omega))) rfl ?_; k_whole); intro D' h' F' N' l1')) | ((with_reducible show wpAny _ _ (call (Value.builtin "sorted") _) _ _ _); (k_here; k_dflt (refine' names_sorted (by (exact rfl)) (by (k_asm)) (by (k_asm)) (by (k_mem)) (by (assumption)) (by (assumption)) (by (assumption)) (by (assumption)) ?_; k_whole); intro us' c' B' h' tk' hus' F' N' l1'; (try k_lt l1'))) | ((k_here; (with_reducible show wpAny _ _ (call (Value.ref 225) [Value.ref _, Value.int _ _]) _ _ _); k_dflt (refine' draw_u (by (walk_at "M here")) (by (intro t1; k_upd)) (by (k_mem)) (by (assumption)) (by (exact List.length_take_le _ _)) (by (omega)) (by (omega)) (by (omega)) ?_; k_whole); intro v' t1' t2' h' tk' hv1' hv2' F' N')) | ((with_reducible show wpAny _ _ (call (Value.type "range") _) _ _ _); (k_here; k_dflt (refine' range1 (by (k_asm)) (by (k_asm)) ?_; k_whole); intro r' t1' t2' t3' h' tk' R' F' N')) | (((show wpAny _ _ (call (Value.ref 176) [Value.ref _]) _ _ _); refine stop_here ?_)) | (((show wpAny _ _ (call (Value.ref 176) [Value.ref _]) _ _ _); refine stop_here ?_)) | (((with_reducible show wpAny _ _ (call (Value.ref 218) _) _ _ _); refine stop_here ?_)) | (((with_reducible show wpAny _ _ (call (Value.ref 251) _) _ _ _); refine stop_here ?_)) | (((with_reducible show wpAny _ _ (call (Value.ref 186) _) _ _ _); refine stop_here ?_)) | ((k_here; (with_reducible show wpAny _ _ (call (Value.ref 153) _) _ _ _); k_dflt (refine' relnew_ok (by (walk_at "M here")) ?_; k_whole); intro h' tk' x' dx' t1' t2' t3' t4' t5' t6' F' N' l1' l2')) | ((k_here; (with_reducible show wpAny _ _ (call (Value.ref 125) _) _ _ _); k_dflt (refine' symnew_ok (by (walk_at "M here")) ?_; k_whole); intro h' tk' x' dx' t1' t2' t3' t4' F' N' l1' l2')) | ((with_reducible show wpAny _ _ (call (Value.type "dict") _) _ _ _); (k_here; (with_reducible show wpAny _ _ (call (Value.type "dict") [Value.ref _]) _ _ _); k_dflt (refine' dict_copy (knd := PySem.strKind _ _) (by (k_asm)) (by (k_asm)) (by (exact Top.nolimit (by k_asm))) (by (k_mem)) (by (assumption)) (by (assumption)) (by (assumption)) ?_; k_whole); intro h' o' d' F' N' l1' lo' hd'; (try k_lt l1'))) | (((with_reducible show wpAny _ _ (call (Value.ref 237) [Value.ref _]) _ _ _); refine stop_here ?_))) | ((with_reducible show wpAny _ _ (subscriptTail _ _ _ _) _ _ _); first | ((with_reducible show wpAny _ _ (subscriptTail (PySem.Expr.Name _ _) (PySem.Expr.Name _ _) (Value.ref _) (Value.str _ _)) _ _ _); (k_here; k_dflt (refine' kda_item (knd := PySem.strKind _ _) (by (k_asm)) (by (k_mem)) (by (assumption)) (strKind_is _ _ _ _) (by (assumption)) ?_))) | ((with_reducible show wpAny _ _ (subscriptTail (PySem.Expr.Name _ _) (PySem.Expr.Constant _ _ _) (Value.ref _) (Value.int _ _)) _ _ _); (k_here; k_dflt (refine' tup_item (by (k_asm)) (by (k_mem)) (by (decide)) (by (decide)) (by (exact rfl)) (by (exact rfl)) ?_)))) | ((with_reducible show wpAny _ _ (newTuple _) _ _ _); first | ((with_reducible show wpAny _ _ (newTuple _) _ _ _); (k_here; (with_reducible show wpAny _ _ (newTuple [Value.str _ _, Value.bytes _ _]) _ _ _); k_dflt (refine' kup_newTuple (by (k_asm)) (by (k_asm)) ?_ (by (size_fits)); k_whole); intro D' h' F' N' l1'; (try k_lt l1')))) | ((with_reducible show wpAny _ _ (compareOp _ _ _) _ _ _); first | ((with_reducible show wpAny _ _ (compareOp CmpOp.NotEq (Value.ref _) (Value.ref _)) _ _ _); (k_here; k_dflt (refine' dicts_same (by (k_asm)) (by (k_mem)) (by (k_mem)) (by (assumption)) (by (assumption)) (by (assumption)) (by (assumption)) (by (assumption)) (by (assumption)) (by (assumption)) (by (ktr_units)) ?_))) | ((with_reducible show wpAny _ _ (compareOp CmpOp.NotEq (Value.ref _) (Value.ref _)) _ _ _); (k_here; k_dflt (refine' told_same (by (k_asm)) (by (ktr_units)) (by (assumption)) (by (assumption)) ?_)))) | ((with_reducible show wpAny _ _ (exec _ _) _ _ _); first | ((with_reducible show wpAny _ _ (exec (PySem.Stmt.Try _ _ _ _ _) _) _ _ _); (refine wpAny_Try_except ?_)) | ((with_reducible show wpAny _ _ (exec (PySem.Stmt.For _ _ _ _ _) _) _ _ _); (k_here; (rename Fr _ _ _ _ => lF'); (with_unfolding_all refine' For_invVF lF' (by (exact rfl)) (by (exact rfl)) ?_; k_whole)))) | ((with_reducible show wpAny _ _ (binaryOp _ _ _) _ _ _); first | ((with_reducible show wpAny _ _ (binaryOp Operator.Pow (Value.int _ _) (Value.int _ _)) _ _ _); (k_here; (with_reducible refine pow2_x (by (decide)) (by (decide)) ?_)))) | ((with_reducible show wpAny _ _ (setItem _ _ _) _ _ _); first | ((with_reducible show wpAny _ _ (setItem (Value.ref _) (Value.str _ _) (Value.int _ _)) _ _ _); (k_here; k_dflt (refine' kda_set (knd := PySem.strKind _ _) (by (k_asm)) (by (k_asm)) (by (k_updF)) (by (assumption)) (strKind_is _ _ _ _) (by (assumption)) ?_); intro h' o' F' N' hd'; (try dsimp only at N')))) | ((fail_if_success (with_reducible show wpAny _ _ (pyIter _) _ _ _)); walk1) | (dsimp only; (fail_if_success (with_reducible show wpAny _ _ (pyIter _) _ _ _)); walk1) | (leave1; walk_say "STEP leave1"; try dsimp only) | fail "no step"))
      refine Classical.byContradiction fun hG => ?_
      obtain ⟨B, NB, hBp, hBc, hBa, hBd, hB4, hBns⟩ := asm_base (m := fun _ => none) (by assumption) l1 l2 (by assumption) hne5 hp2 hc2
      refine hG ?_
      clear hG
      rw [List.size_toArray, hs.length, List.take_length] at hall
      rw [List.size_toArray, hr.length, List.take_length] at hall2
      have k2 : ∀ p ∈ ns, p ∈ B := fun p hp => hBns _ (hsub2 _ (.tail _ hp))
      have k1 : ∀ p ∈ R2, p ∈ B := fun p hp => k2 _ (hsub _ (.tail _ hp))
      have hD2B := k2 _ (hsub _ (.head _))
      have hY1 := hBns _ (hsub2 _ (.head _))
      rw [List.size_toArray] at hlen hlen2
      replace hall := hall.mono fun _ _ z => z.keeps k2
      replace hall2 := hall2.mono fun _ _ z => z.keeps hBns
      have hyz : ys1.length ≤ 1000 := by omega
      have hrz : rs1.length ≤ 1000 := by omega
      refine told_ok (.mk rfl rfl (by k_asm) (by k_asm) (by k_asm) (by k_asm) (by k_asm) rfl (by ktr_room) (by ktr_units)) (.tail _ (.tail _ hBa)) (.tail _ (.tail _ hBd)) (.tail _ (.tail _ hY1)) (hall.mono fun _ _ z => z.keeps fun p hp => .tail _ (.tail _ hp)) (.tail _ (.tail _ hB4)) (hall2.mono fun _ _ z => z.keeps fun p hp => .tail _ (.tail _ hp)) hyz hrz (.tail _ (.tail _ hD2B)) (by assumption) (by assumption) hkS hkeys.ex ?_
      intro T0 n7 h7 tk7 F7 N7 hsub7 TI
      refine Classical.byContradiction fun hG => ?_
      obtain ⟨B2, N8, hp8, hc8, hadd, hobj⟩ := pull2 N7 (hsub7 _ (.head _)) (hsub7 _ (.tail _ (.head _)))
      refine hG ?_
      clear hG
      have upB : ∀ p ∈ B, p ∈ B2 := fun p hp => hadd p (hsub7 _ (.tail _ (.tail _ hp))) (hBp p hp) (hBc p hp)
      have hcd2 := (by assumption : Obj.data _ = Data.cell (some (Value.ref d)))
      replace TI := toldIs_pull rfl hcd2 hobj TI
      (repeat' (first | (k_unfold; (try dsimp only)) | ((with_reducible show wpAny _ _ (eval _ _) _ _ _); first | ((with_reducible show wpAny _ _ (eval (PySem.Expr.ListComp (PySem.Expr.Tuple _ _ _) _ _ _) _) _ _ _); (k_here; (rename Fr _ _ _ _ => lF'); (refine' ListComp_ownF lF' (by (exact rfl)) (by (decide)) (by (exact rfl)) (by (decide)) (by (exact rfl)) (by (intro _; exact rfl)) ?_; k_whole))) | ((with_reducible show wpAny _ _ (eval (PySem.Expr.Name _ _) _) _ _ _); (refine name_comp (by with_reducible assumption) (by with_reducible assumption) ?_)) | ((with_reducible show wpAny _ _ (eval (PySem.Expr.ListComp (PySem.Expr.Call _ _ _ _) _ _ _) _) _ _ _); (k_here; (rename Fr _ _ _ _ => lF'); (refine' ListComp_ownF lF' (by (exact rfl)) (by (decide)) (by (exact rfl)) (by (decide)) (by (exact rfl)) (by (intro _; exact rfl)) ?_; k_whole)))) | ((with_reducible show wpAny _ _ (call _ _) _ _ _); first | ((with_reducible show wpAny _ _ (call (Value.type "tuple") _) _ _ _); (k_here; (with_reducible show wpAny _ _ (call (Value.type _) [Value.ref _]) _ _ _); k_dflt (refine' kde_tupleOf (by (k_asm)) (by (k_asm)) (by (exact News.isList (by k_asm) (by k_mem))) (by ((rw [List.size_toArray]; omega))) rfl ?_; k_whole); intro D' h' F' N' l1')) | ((with_reducible show wpAny _ _ (call (Value.builtin "sorted") _) _ _ _); (k_here; k_dflt (refine' names_sorted (by (exact rfl)) (by (k_asm)) (by (k_asm)) (by (k_mem)) (by (assumption)) (by (assumption)) (by (assumption)) (by (assumption)) ?_; k_whole); intro us' c' B' h' tk' hus' F' N' l1'; (try k_lt l1'))) | ((k_here; (with_reducible show wpAny _ _ (call (Value.ref 225) [Value.ref _, Value.int _ _]) _ _ _); k_dflt (refine' draw_u (by (walk_at "M here")) (by (intro t1; k_upd)) (by (k_mem)) (by (assumption)) (by (exact List.length_take_le _ _)) (by (omega)) (by (omega)) (by (omega)) ?_; k_whole); intro v' t1' t2' h' tk' hv1' hv2' F' N')) | ((with_reducible show wpAny _ _ (call (Value.type "range") _) _ _ _); (k_here; k_dflt (refine' range1 (by (k_asm)) (by (k_asm)) ?_; k_whole); intro r' t1' t2' t3' h' tk' R' F' N')) | (((show wpAny _ _ (call (Value.ref 176) [Value.ref _]) _ _ _); refine stop_here ?_)) | (((show wpAny _ _ (call (Value.ref 176) [Value.ref _]) _ _ _); refine stop_here ?_)) | (((with_reducible show wpAny _ _ (call (Value.ref 218) _) _ _ _); refine stop_here ?_)) | (((with_reducible show wpAny _ _ (call (Value.ref 251) _) _ _ _); refine stop_here ?_)) | (((with_reducible show wpAny _ _ (call (Value.ref 186) _) _ _ _); refine stop_here ?_)) | ((k_here; (with_reducible show wpAny _ _ (call (Value.ref 153) _) _ _ _); k_dflt (refine' relnew_ok (by (walk_at "M here")) ?_; k_whole); intro h' tk' x' dx' t1' t2' t3' t4' t5' t6' F' N' l1' l2')) | ((k_here; (with_reducible show wpAny _ _ (call (Value.ref 125) _) _ _ _); k_dflt (refine' symnew_ok (by (walk_at "M here")) ?_; k_whole); intro h' tk' x' dx' t1' t2' t3' t4' F' N' l1' l2')) | ((with_reducible show wpAny _ _ (call (Value.type "dict") _) _ _ _); (k_here; (with_reducible show wpAny _ _ (call (Value.type "dict") [Value.ref _]) _ _ _); k_dflt (refine' dict_copy (knd := PySem.strKind _ _) (by (k_asm)) (by (k_asm)) (by (exact Top.nolimit (by k_asm))) (by (k_mem)) (by (assumption)) (by (assumption)) (by (assumption)) ?_; k_whole); intro h' o' d' F' N' l1' lo' hd'; (try k_lt l1'))) | (((with_reducible show wpAny _ _ (call (Value.ref 237) [Value.ref _]) _ _ _); refine stop_here ?_))) | ((with_reducible show wpAny _ _ (subscriptTail _ _ _ _) _ _ _); first | ((with_reducible show wpAny _ _ (subscriptTail (PySem.Expr.Name _ _) (PySem.Expr.Name _ _) (Value.ref _) (Value.str _ _)) _ _ _); (k_here; k_dflt (refine' kda_item (knd := PySem.strKind _ _) (by (k_asm)) (by (k_mem)) (by (assumption)) (strKind_is _ _ _ _) (by (assumption)) ?_))) | ((with_reducible show wpAny _ _ (subscriptTail (PySem.Expr.Name _ _) (PySem.Expr.Constant _ _ _) (Value.ref _) (Value.int _ _)) _ _ _); (k_here; k_dflt (refine' tup_item (by (k_asm)) (by (k_mem)) (by (decide)) (by (decide)) (by (exact rfl)) (by (exact rfl)) ?_)))) | ((with_reducible show wpAny _ _ (newTuple _) _ _ _); first | ((with_reducible show wpAny _ _ (newTuple _) _ _ _); (k_here; (with_reducible show wpAny _ _ (newTuple [Value.str _ _, Value.bytes _ _]) _ _ _); k_dflt (refine' kup_newTuple (by (k_asm)) (by (k_asm)) ?_ (by (size_fits)); k_whole); intro D' h' F' N' l1'; (try k_lt l1')))) | ((with_reducible show wpAny _ _ (compareOp _ _ _) _ _ _); first | ((with_reducible show wpAny _ _ (compareOp CmpOp.NotEq (Value.ref _) (Value.ref _)) _ _ _); (k_here; k_dflt (refine' dicts_same (by (k_asm)) (by (k_mem)) (by (k_mem)) (by (assumption)) (by (assumption)) (by (assumption)) (by (assumption)) (by (assumption)) (by (assumption)) (by (assumption)) (by (ktr_units)) ?_))) | ((with_reducible show wpAny _ _ (compareOp CmpOp.NotEq (Value.ref _) (Value.ref _)) _ _ _); (k_here; k_dflt (refine' told_same (by (k_asm)) (by (ktr_units)) (by (assumption)) (by (assumption)) ?_)))) | ((with_reducible show wpAny _ _ (exec _ _) _ _ _); first | ((with_reducible show wpAny _ _ (exec (PySem.Stmt.Try _ _ _ _ _) _) _ _ _); (refine wpAny_Try_except ?_)) | ((with_reducible show wpAny _ _ (exec (PySem.Stmt.For _ _ _ _ _) _) _ _ _); (k_here; (rename Fr _ _ _ _ => lF'); (with_unfolding_all refine' For_invVF lF' (by (exact rfl)) (by (exact rfl)) ?_; k_whole)))) | ((with_reducible show wpAny _ _ (binaryOp _ _ _) _ _ _); first | ((with_reducible show wpAny _ _ (binaryOp Operator.Pow (Value.int _ _) (Value.int _ _)) _ _ _); (k_here; (with_reducible refine pow2_x (by (decide)) (by (decide)) ?_)))) | ((with_reducible show wpAny _ _ (setItem _ _ _) _ _ _); first | ((with_reducible show wpAny _ _ (setItem (Value.ref _) (Value.str _ _) (Value.int _ _)) _ _ _); (k_here; k_dflt (refine' kda_set (knd := PySem.strKind _ _) (by (k_asm)) (by (k_asm)) (by (k_updF)) (by (assumption)) (strKind_is _ _ _ _) (by (assumption)) ?_); intro h' o' F' N' hd'; (try dsimp only at N')))) | ((fail_if_success (with_reducible show wpAny _ _ (pyIter _) _ _ _)); walk1) | (dsimp only; (fail_if_success (with_reducible show wpAny _ _ (pyIter _) _ _ _)); walk1) | (leave1; walk_say "STEP leave1"; try dsimp only) | fail "no step"))
      rename IsRange _ _ _ _ _ _ _ _ => Rg
      refine forRange (n := 3) ?eL (lawJ asm T0 Y Rr pen _ _ _ B2) rfl (by assumption) (by assumption) Rg rfl rfl ⟨rfl, rfl, rfl, rfl, rfl, B2, a, _, rfl, fun _ z => z, hp8, hc8, by omega, by omega⟩ ?turnL ?doneL
      case eL => rfl
      case turnL =>
        intro i tt m₁ n₁ h8 tk8 own hi hJ0' off F8 N8
        refine Classical.byContradiction fun hG => ?_
        obtain ⟨n1, n2, n3, n4, n5, R, a1, ta1, rfl, hsubR, hpR, hcR, ha2, ha3⟩ := hJ0'
        refine hG ?_
        clear hG
        have o1 := off_cons off
        have o2 := off_cons (off_tail off)
        dsimp only at o1 o2
        have hpR2 := all_app hpR o1
        have hcR2 := all_app hcR o2
        have upR : ∀ p ∈ B, p ∈ R ++ own := fun p hp => List.mem_append_left _ (hsubR p (upB p hp))
        have hdm2 := upR _ (k1 _ hdm)
        have hcells2 := upR _ (k1 _ hcells)
        simp only [List.cons_append] at N8
        replace F8 := pinsT F8 (.cons n1 (.cons n2 (.cons n3 (.cons n4 (.cons n5 .nil)))))
        (repeat' (first | (k_unfold; (try dsimp only)) | ((with_reducible show wpAny _ _ (eval _ _) _ _ _); first | ((with_reducible show wpAny _ _ (eval (PySem.Expr.ListComp (PySem.Expr.Tuple _ _ _) _ _ _) _) _ _ _); (k_here; (rename Fr _ _ _ _ => lF'); (refine' ListComp_ownF lF' (by (exact rfl)) (by (decide)) (by (exact rfl)) (by (decide)) (by (exact rfl)) (by (intro _; exact rfl)) ?_; k_whole))) | ((with_reducible show wpAny _ _ (eval (PySem.Expr.Name _ _) _) _ _ _); (refine name_comp (by with_reducible assumption) (by with_reducible assumption) ?_)) | ((with_reducible show wpAny _ _ (eval (PySem.Expr.ListComp (PySem.Expr.Call _ _ _ _) _ _ _) _) _ _ _); (k_here; (rename Fr _ _ _ _ => lF'); (refine' ListComp_ownF lF' (by (exact rfl)) (by (decide)) (by (exact rfl)) (by (decide)) (by (exact rfl)) (by (intro _; exact rfl)) ?_; k_whole)))) | ((with_reducible show wpAny _ _ (call _ _) _ _ _); first | ((with_reducible show wpAny _ _ (call (Value.type "tuple") _) _ _ _); (k_here; (with_reducible show wpAny _ _ (call (Value.type _) [Value.ref _]) _ _ _); k_dflt (refine' kde_tupleOf (by (k_asm)) (by (k_asm)) (by (exact News.isList (by k_asm) (by k_mem))) (by ((rw [List.size_toArray]; omega))) rfl ?_; k_whole); intro D' h' F' N' l1')) | ((with_reducible show wpAny _ _ (call (Value.builtin "sorted") _) _ _ _); (k_here; k_dflt (refine' names_sorted (by (exact rfl)) (by (k_asm)) (by (k_asm)) (by (k_mem)) (by (assumption)) (by (assumption)) (by (assumption)) (by (assumption)) ?_; k_whole); intro us' c' B' h' tk' hus' F' N' l1'; (try k_lt l1'))) | ((k_here; (with_reducible show wpAny _ _ (call (Value.ref 225) [Value.ref _, Value.int _ _]) _ _ _); k_dflt (refine' draw_u (by (walk_at "M here")) (by (intro t1; k_upd)) (by (k_mem)) (by (assumption)) (by (exact List.length_take_le _ _)) (by (omega)) (by (omega)) (by (omega)) ?_; k_whole); intro v' t1' t2' h' tk' hv1' hv2' F' N')) | ((with_reducible show wpAny _ _ (call (Value.type "range") _) _ _ _); (k_here; k_dflt (refine' range1 (by (k_asm)) (by (k_asm)) ?_; k_whole); intro r' t1' t2' t3' h' tk' R' F' N')) | (((show wpAny _ _ (call (Value.ref 176) [Value.ref _]) _ _ _); refine stop_here ?_)) | (((show wpAny _ _ (call (Value.ref 176) [Value.ref _]) _ _ _); refine stop_here ?_)) | (((with_reducible show wpAny _ _ (call (Value.ref 218) _) _ _ _); refine stop_here ?_)) | (((with_reducible show wpAny _ _ (call (Value.ref 251) _) _ _ _); refine stop_here ?_)) | (((with_reducible show wpAny _ _ (call (Value.ref 186) _) _ _ _); refine stop_here ?_)) | ((k_here; (with_reducible show wpAny _ _ (call (Value.ref 153) _) _ _ _); k_dflt (refine' relnew_ok (by (walk_at "M here")) ?_; k_whole); intro h' tk' x' dx' t1' t2' t3' t4' t5' t6' F' N' l1' l2')) | ((k_here; (with_reducible show wpAny _ _ (call (Value.ref 125) _) _ _ _); k_dflt (refine' symnew_ok (by (walk_at "M here")) ?_; k_whole); intro h' tk' x' dx' t1' t2' t3' t4' F' N' l1' l2')) | ((with_reducible show wpAny _ _ (call (Value.type "dict") _) _ _ _); (k_here; (with_reducible show wpAny _ _ (call (Value.type "dict") [Value.ref _]) _ _ _); k_dflt (refine' dict_copy (knd := PySem.strKind _ _) (by (k_asm)) (by (k_asm)) (by (exact Top.nolimit (by k_asm))) (by (k_mem)) (by (assumption)) (by (assumption)) (by (assumption)) ?_; k_whole); intro h' o' d' F' N' l1' lo' hd'; (try k_lt l1'))) | (((with_reducible show wpAny _ _ (call (Value.ref 237) [Value.ref _]) _ _ _); refine stop_here ?_))) | ((with_reducible show wpAny _ _ (subscriptTail _ _ _ _) _ _ _); first | ((with_reducible show wpAny _ _ (subscriptTail (PySem.Expr.Name _ _) (PySem.Expr.Name _ _) (Value.ref _) (Value.str _ _)) _ _ _); (k_here; k_dflt (refine' kda_item (knd := PySem.strKind _ _) (by (k_asm)) (by (k_mem)) (by (assumption)) (strKind_is _ _ _ _) (by (assumption)) ?_))) | ((with_reducible show wpAny _ _ (subscriptTail (PySem.Expr.Name _ _) (PySem.Expr.Constant _ _ _) (Value.ref _) (Value.int _ _)) _ _ _); (k_here; k_dflt (refine' tup_item (by (k_asm)) (by (k_mem)) (by (decide)) (by (decide)) (by (exact rfl)) (by (exact rfl)) ?_)))) | ((with_reducible show wpAny _ _ (newTuple _) _ _ _); first | ((with_reducible show wpAny _ _ (newTuple _) _ _ _); (k_here; (with_reducible show wpAny _ _ (newTuple [Value.str _ _, Value.bytes _ _]) _ _ _); k_dflt (refine' kup_newTuple (by (k_asm)) (by (k_asm)) ?_ (by (size_fits)); k_whole); intro D' h' F' N' l1'; (try k_lt l1')))) | ((with_reducible show wpAny _ _ (compareOp _ _ _) _ _ _); first | ((with_reducible show wpAny _ _ (compareOp CmpOp.NotEq (Value.ref _) (Value.ref _)) _ _ _); (k_here; k_dflt (refine' dicts_same (by (k_asm)) (by (k_mem)) (by (k_mem)) (by (assumption)) (by (assumption)) (by (assumption)) (by (assumption)) (by (assumption)) (by (assumption)) (by (assumption)) (by (ktr_units)) ?_))) | ((with_reducible show wpAny _ _ (compareOp CmpOp.NotEq (Value.ref _) (Value.ref _)) _ _ _); (k_here; k_dflt (refine' told_same (by (k_asm)) (by (ktr_units)) (by (assumption)) (by (assumption)) ?_)))) | ((with_reducible show wpAny _ _ (exec _ _) _ _ _); first | ((with_reducible show wpAny _ _ (exec (PySem.Stmt.Try _ _ _ _ _) _) _ _ _); (refine wpAny_Try_except ?_)) | ((with_reducible show wpAny _ _ (exec (PySem.Stmt.For _ _ _ _ _) _) _ _ _); (k_here; (rename Fr _ _ _ _ => lF'); (with_unfolding_all refine' For_invVF lF' (by (exact rfl)) (by (exact rfl)) ?_; k_whole)))) | ((with_reducible show wpAny _ _ (binaryOp _ _ _) _ _ _); first | ((with_reducible show wpAny _ _ (binaryOp Operator.Pow (Value.int _ _) (Value.int _ _)) _ _ _); (k_here; (with_reducible refine pow2_x (by (decide)) (by (decide)) ?_)))) | ((with_reducible show wpAny _ _ (setItem _ _ _) _ _ _); first | ((with_reducible show wpAny _ _ (setItem (Value.ref _) (Value.str _ _) (Value.int _ _)) _ _ _); (k_here; k_dflt (refine' kda_set (knd := PySem.strKind _ _) (by (k_asm)) (by (k_asm)) (by (k_updF)) (by (assumption)) (strKind_is _ _ _ _) (by (assumption)) ?_); intro h' o' F' N' hd'; (try dsimp only at N')))) | ((fail_if_success (with_reducible show wpAny _ _ (pyIter _) _ _ _)); walk1) | (dsimp only; (fail_if_success (with_reducible show wpAny _ _ (pyIter _) _ _ _)); walk1) | (leave1; walk_say "STEP leave1"; try dsimp only) | fail "no step"))
        refine Classical.byContradiction fun hG => ?_
        refine with_Hd (by assumption) fun Hd oH e1 e2 => ?_
        subst e1 e2
        refine hG ?_
        clear hG
        have hHd := (by assumption : @LT.lt Nat _ pen Hd ∧ @LT.lt Nat _ _ Hd ∧ AllLt Hd (R ++ own))
        have hHp := ltN hHd.1
        have hHc := ltN hHd.2.1
        rename Obj.IsDictOf (PySem.strKind _ _) oH [] => hfd
        rename (Hd == sysModules) = false => hloH
        have hnk := keys_nodup hkeys.ex
        have hl3 : secs.length ≤ 3 := by
          obtain ⟨k, k1, k3, ek⟩ := hkeys
          rw [← List.length_map (f := fun p : Str × List Int => p.1), ek, List.length_take]
          simp only [List.length_cons, List.length_nil]; omega
        refine forDict ?eL2 (homesJ w asm T0 Y Rr pen _ _ Hd _ secs (R ++ own) a1) rfl (by assumption) (by assumption) (.tail _ (.tail _ (.tail _ hdm2))) hod hlo ?hJh ⟨rfl, rfl, rfl, rfl, rfl, rfl, oH, [], a1, _, rfl, hfd, (fun _ z => nomatch z), by simp, by omega, by omega⟩ ?turnH ?doneH
        case eL2 => rfl
        case hJh => rintro j m n ⟨_, _, _, _, _, _, oH, kB, a3, ta3, rfl, -⟩; exact .tail _ (.tail _ (.tail _ hdm2))
        case turnH =>
          intro j k v tk m₂ n₂ h9 tk9 own2 hj hJ0' off2 F9 N9
          refine Classical.byContradiction fun hG => ?_
          obtain ⟨n1, n2, n3, n4, n5, n6, oH, kB, a3, ta3, rfl, hB, hHo, hkB, ha4, ha5⟩ := hJ0'
          obtain ⟨p, hp2, hkp, -⟩ := hkS.get hj
          dsimp only at hkp
          subst hkp
          refine hG ?_
          clear hG
          have hj3 : j < 3 := Nat.lt_of_lt_of_le (List.getElem?_eq_some_iff.mp hp2).1 hl3
          have hkz3 : kB.length ≤ sizeLine := by
            rw [← List.length_map (f := fun p : Str × Value => p.1), hkB, List.length_take, List.length_map, sizeLine_eq]; omega
          have hknew : p.1 ∉ kB.map (·.1) := by
            rw [hkB, ← List.map_take]; exact nodup_take (f := fun p : Str × List Int => p.1) hnk hp2
          have o1 := off_cons off2
          have o2 := off_cons (off_tail off2)
          dsimp only at o1 o2
          have hpR3 := all_app hpR2 o2
          have hHR3 := all_app (allLt_ne hHd.2.2) o1
          have hcells3 := List.mem_append_left own2 hcells2
          simp only [List.cons_append] at N9
          replace F9 := pinsT F9 (.cons n1 (.cons n2 (.cons n3 (.cons n4 (.cons n5 (.cons n6 .nil))))))
          (repeat' (first | (k_unfold; (try dsimp only)) | ((with_reducible show wpAny _ _ (eval _ _) _ _ _); first | ((with_reducible show wpAny _ _ (eval (PySem.Expr.ListComp (PySem.Expr.Tuple _ _ _) _ _ _) _) _ _ _); (k_here; (rename Fr _ _ _ _ => lF'); (refine' ListComp_ownF lF' (by (exact rfl)) (by (decide)) (by (exact rfl)) (by (decide)) (by (exact rfl)) (by (intro _; exact rfl)) ?_; k_whole))) | ((with_reducible show wpAny _ _ (eval (PySem.Expr.Name _ _) _) _ _ _); (refine name_comp (by with_reducible assumption) (by with_reducible assumption) ?_)) | ((with_reducible show wpAny _ _ (eval (PySem.Expr.ListComp (PySem.Expr.Call _ _ _ _) _ _ _) _) _ _ _); (k_here; (rename Fr _ _ _ _ => lF'); (refine' ListComp_ownF lF' (by (exact rfl)) (by (decide)) (by (exact rfl)) (by (decide)) (by (exact rfl)) (by (intro _; exact rfl)) ?_; k_whole)))) | ((with_reducible show wpAny _ _ (call _ _) _ _ _); first | ((with_reducible show wpAny _ _ (call (Value.type "tuple") _) _ _ _); (k_here; (with_reducible show wpAny _ _ (call (Value.type _) [Value.ref _]) _ _ _); k_dflt (refine' kde_tupleOf (by (k_asm)) (by (k_asm)) (by (exact News.isList (by k_asm) (by k_mem))) (by ((rw [List.size_toArray]; omega))) rfl ?_; k_whole); intro D' h' F' N' l1')) | ((with_reducible show wpAny _ _ (call (Value.builtin "sorted") _) _ _ _); (k_here; k_dflt (refine' names_sorted (by (exact rfl)) (by (k_asm)) (by (k_asm)) (by (k_mem)) (by (assumption)) (by (assumption)) (by (assumption)) (by (assumption)) ?_; k_whole); intro us' c' B' h' tk' hus' F' N' l1'; (try k_lt l1'))) | ((k_here; (with_reducible show wpAny _ _ (call (Value.ref 225) [Value.ref _, Value.int _ _]) _ _ _); k_dflt (refine' draw_u (by (walk_at "M here")) (by (intro t1; k_upd)) (by (k_mem)) (by (assumption)) (by (exact List.length_take_le _ _)) (by (omega)) (by (omega)) (by (omega)) ?_; k_whole); intro v' t1' t2' h' tk' hv1' hv2' F' N')) | ((with_reducible show wpAny _ _ (call (Value.type "range") _) _ _ _); (k_here; k_dflt (refine' range1 (by (k_asm)) (by (k_asm)) ?_; k_whole); intro r' t1' t2' t3' h' tk' R' F' N')) | (((show wpAny _ _ (call (Value.ref 176) [Value.ref _]) _ _ _); refine stop_here ?_)) | (((show wpAny _ _ (call (Value.ref 176) [Value.ref _]) _ _ _); refine stop_here ?_)) | (((with_reducible show wpAny _ _ (call (Value.ref 218) _) _ _ _); refine stop_here ?_)) | (((with_reducible show wpAny _ _ (call (Value.ref 251) _) _ _ _); refine stop_here ?_)) | (((with_reducible show wpAny _ _ (call (Value.ref 186) _) _ _ _); refine stop_here ?_)) | ((k_here; (with_reducible show wpAny _ _ (call (Value.ref 153) _) _ _ _); k_dflt (refine' relnew_ok (by (walk_at "M here")) ?_; k_whole); intro h' tk' x' dx' t1' t2' t3' t4' t5' t6' F' N' l1' l2')) | ((k_here; (with_reducible show wpAny _ _ (call (Value.ref 125) _) _ _ _); k_dflt (refine' symnew_ok (by (walk_at "M here")) ?_; k_whole); intro h' tk' x' dx' t1' t2' t3' t4' F' N' l1' l2')) | ((with_reducible show wpAny _ _ (call (Value.type "dict") _) _ _ _); (k_here; (with_reducible show wpAny _ _ (call (Value.type "dict") [Value.ref _]) _ _ _); k_dflt (refine' dict_copy (knd := PySem.strKind _ _) (by (k_asm)) (by (k_asm)) (by (exact Top.nolimit (by k_asm))) (by (k_mem)) (by (assumption)) (by (assumption)) (by (assumption)) ?_; k_whole); intro h' o' d' F' N' l1' lo' hd'; (try k_lt l1'))) | (((with_reducible show wpAny _ _ (call (Value.ref 237) [Value.ref _]) _ _ _); refine stop_here ?_))) | ((with_reducible show wpAny _ _ (subscriptTail _ _ _ _) _ _ _); first | ((with_reducible show wpAny _ _ (subscriptTail (PySem.Expr.Name _ _) (PySem.Expr.Name _ _) (Value.ref _) (Value.str _ _)) _ _ _); (k_here; k_dflt (refine' kda_item (knd := PySem.strKind _ _) (by (k_asm)) (by (k_mem)) (by (assumption)) (strKind_is _ _ _ _) (by (assumption)) ?_))) | ((with_reducible show wpAny _ _ (subscriptTail (PySem.Expr.Name _ _) (PySem.Expr.Constant _ _ _) (Value.ref _) (Value.int _ _)) _ _ _); (k_here; k_dflt (refine' tup_item (by (k_asm)) (by (k_mem)) (by (decide)) (by (decide)) (by (exact rfl)) (by (exact rfl)) ?_)))) | ((with_reducible show wpAny _ _ (newTuple _) _ _ _); first | ((with_reducible show wpAny _ _ (newTuple _) _ _ _); (k_here; (with_reducible show wpAny _ _ (newTuple [Value.str _ _, Value.bytes _ _]) _ _ _); k_dflt (refine' kup_newTuple (by (k_asm)) (by (k_asm)) ?_ (by (size_fits)); k_whole); intro D' h' F' N' l1'; (try k_lt l1')))) | ((with_reducible show wpAny _ _ (compareOp _ _ _) _ _ _); first | ((with_reducible show wpAny _ _ (compareOp CmpOp.NotEq (Value.ref _) (Value.ref _)) _ _ _); (k_here; k_dflt (refine' dicts_same (by (k_asm)) (by (k_mem)) (by (k_mem)) (by (assumption)) (by (assumption)) (by (assumption)) (by (assumption)) (by (assumption)) (by (assumption)) (by (assumption)) (by (ktr_units)) ?_))) | ((with_reducible show wpAny _ _ (compareOp CmpOp.NotEq (Value.ref _) (Value.ref _)) _ _ _); (k_here; k_dflt (refine' told_same (by (k_asm)) (by (ktr_units)) (by (assumption)) (by (assumption)) ?_)))) | ((with_reducible show wpAny _ _ (exec _ _) _ _ _); first | ((with_reducible show wpAny _ _ (exec (PySem.Stmt.Try _ _ _ _ _) _) _ _ _); (refine wpAny_Try_except ?_)) | ((with_reducible show wpAny _ _ (exec (PySem.Stmt.For _ _ _ _ _) _) _ _ _); (k_here; (rename Fr _ _ _ _ => lF'); (with_unfolding_all refine' For_invVF lF' (by (exact rfl)) (by (exact rfl)) ?_; k_whole)))) | ((with_reducible show wpAny _ _ (binaryOp _ _ _) _ _ _); first | ((with_reducible show wpAny _ _ (binaryOp Operator.Pow (Value.int _ _) (Value.int _ _)) _ _ _); (k_here; (with_reducible refine pow2_x (by (decide)) (by (decide)) ?_)))) | ((with_reducible show wpAny _ _ (setItem _ _ _) _ _ _); first | ((with_reducible show wpAny _ _ (setItem (Value.ref _) (Value.str _ _) (Value.int _ _)) _ _ _); (k_here; k_dflt (refine' kda_set (knd := PySem.strKind _ _) (by (k_asm)) (by (k_asm)) (by (k_updF)) (by (assumption)) (strKind_is _ _ _ _) (by (assumption)) ?_); intro h' o' F' N' hd'; (try dsimp only at N')))) | ((fail_if_success (with_reducible show wpAny _ _ (pyIter _) _ _ _)); walk1) | (dsimp only; (fail_if_success (with_reducible show wpAny _ _ (pyIter _) _ _ _)); walk1) | (leave1; walk_say "STEP leave1"; try dsimp only) | fail "no step"))
          rename (Obj.IsDictOf _ _ (stored kB p.1 _)) => hB2
          rw [stored_app hknew] at hB2
          have NN := (by with_reducible assumption : News _ _ _ (_ :: (Hd, _) :: (pen, _) :: (_, _) :: ((R ++ own) ++ own2)))
          exact turn_end (news' := (Hd, _) :: (pen, _) :: (_, _) :: (R ++ own)) (by assumption) (news_tail NN) rfl (off_keys off2 rfl) ⟨by with_unfolding_all rfl, by with_unfolding_all rfl, by with_unfolding_all rfl, by with_unfolding_all rfl, by with_unfolding_all rfl, by with_unfolding_all rfl, _, _, _, _, rfl, hB2, homes_app hHo _ _ _, keys_step hkB hp2, by omega, by omega⟩
        case doneH =>
          intro m₂ n₂ h9 tk9 hJ0' F9 N9
          refine Classical.byContradiction fun hG => ?_
          obtain ⟨n1, n2, n3, n4, n5, n6, oH, kB, a3, ta3, rfl, hB, hHo, hkB, ha4, ha5⟩ := hJ0'
          refine hG ?_
          clear hG
          rw [hkS.length, ← List.length_map (as := secs) (f := fun p : Str × List Int => p.1), List.take_length] at hkB
          replace F9 := pins F9 (.cons n1 (.cons n2 (.cons n3 (.cons n4 (.cons n5 (.cons n6 .nil))))))
          have hk3 : kS.length ≤ 3 := Nat.le_trans (Nat.le_of_eq hkS.length) hl3
          have ha6 : 0 ≤ a3 := Int.le_trans ha2 ha4
          have ha7 : a3 ≤ 400 + 6 * ((i + 1 : Nat) : Int) := pen_bound ha3 ha5 hk3
          have hbf : ∀ k ∈ secs.map (·.1), ∃ t, valueAt kB k = some (.int (homeOf kB k) t) := fun k hk => homes_at hHo (hkB ▸ hk)
          have hsy : ∀ y ∈ syms, y.sect = Str.ofString "" ∨ y.sect = Str.ofString "*" ∨ y.sect ∈ secs.map (·.1) := fun y hy => sect_cases (hsects y hy)
          have hdis : (syms.map (·.name)).Nodup := by rw [hnames]; exact sname_nodup hnsym
          have hlen1 : ∀ p ∈ secs, p.2.length ≤ 1000 := fun p hp => Nat.le_trans (hlens p hp) (by decide)
          (repeat' (first | (k_unfold; (try dsimp only)) | ((with_reducible show wpAny _ _ (eval _ _) _ _ _); first | ((with_reducible show wpAny _ _ (eval (PySem.Expr.ListComp (PySem.Expr.Tuple _ _ _) _ _ _) _) _ _ _); (k_here; (rename Fr _ _ _ _ => lF'); (refine' ListComp_ownF lF' (by (exact rfl)) (by (decide)) (by (exact rfl)) (by (decide)) (by (exact rfl)) (by (intro _; exact rfl)) ?_; k_whole))) | ((with_reducible show wpAny _ _ (eval (PySem.Expr.Name _ _) _) _ _ _); (refine name_comp (by with_reducible assumption) (by with_reducible assumption) ?_)) | ((with_reducible show wpAny _ _ (eval (PySem.Expr.ListComp (PySem.Expr.Call _ _ _ _) _ _ _) _) _ _ _); (k_here; (rename Fr _ _ _ _ => lF'); (refine' ListComp_ownF lF' (by (exact rfl)) (by (decide)) (by (exact rfl)) (by (decide)) (by (exact rfl)) (by (intro _; exact rfl)) ?_; k_whole)))) | ((with_reducible show wpAny _ _ (call _ _) _ _ _); first | ((with_reducible show wpAny _ _ (call (Value.type "tuple") _) _ _ _); (k_here; (with_reducible show wpAny _ _ (call (Value.type _) [Value.ref _]) _ _ _); k_dflt (refine' kde_tupleOf (by (k_asm)) (by (k_asm)) (by (exact News.isList (by k_asm) (by k_mem))) (by ((rw [List.size_toArray]; omega))) rfl ?_; k_whole); intro D' h' F' N' l1')) | ((with_reducible show wpAny _ _ (call (Value.builtin "sorted") _) _ _ _); (k_here; k_dflt (refine' names_sorted (by (exact rfl)) (by (k_asm)) (by (k_asm)) (by (k_mem)) (by (assumption)) (by (assumption)) (by (assumption)) (by (assumption)) ?_; k_whole); intro us' c' B' h' tk' hus' F' N' l1'; (try k_lt l1'))) | ((k_here; (with_reducible show wpAny _ _ (call (Value.ref 225) [Value.ref _, Value.int _ _]) _ _ _); k_dflt (refine' draw_u (by (walk_at "M here")) (by (intro t1; k_upd)) (by (k_mem)) (by (assumption)) (by (exact List.length_take_le _ _)) (by (omega)) (by (omega)) (by (omega)) ?_; k_whole); intro v' t1' t2' h' tk' hv1' hv2' F' N')) | ((with_reducible show wpAny _ _ (call (Value.type "range") _) _ _ _); (k_here; k_dflt (refine' range1 (by (k_asm)) (by (k_asm)) ?_; k_whole); intro r' t1' t2' t3' h' tk' R' F' N')) | (((show wpAny _ _ (call (Value.ref 176) [Value.ref _]) _ _ _); refine stop_here ?_)) | (((show wpAny _ _ (call (Value.ref 176) [Value.ref _]) _ _ _); refine stop_here ?_)) | (((with_reducible show wpAny _ _ (call (Value.ref 218) _) _ _ _); refine stop_here ?_)) | (((with_reducible show wpAny _ _ (call (Value.ref 251) _) _ _ _); refine stop_here ?_)) | (((with_reducible show wpAny _ _ (call (Value.ref 186) _) _ _ _); refine stop_here ?_)) | ((k_here; (with_reducible show wpAny _ _ (call (Value.ref 153) _) _ _ _); k_dflt (refine' relnew_ok (by (walk_at "M here")) ?_; k_whole); intro h' tk' x' dx' t1' t2' t3' t4' t5' t6' F' N' l1' l2')) | ((k_here; (with_reducible show wpAny _ _ (call (Value.ref 125) _) _ _ _); k_dflt (refine' symnew_ok (by (walk_at "M here")) ?_; k_whole); intro h' tk' x' dx' t1' t2' t3' t4' F' N' l1' l2')) | ((with_reducible show wpAny _ _ (call (Value.type "dict") _) _ _ _); (k_here; (with_reducible show wpAny _ _ (call (Value.type "dict") [Value.ref _]) _ _ _); k_dflt (refine' dict_copy (knd := PySem.strKind _ _) (by (k_asm)) (by (k_asm)) (by (exact Top.nolimit (by k_asm))) (by (k_mem)) (by (assumption)) (by (assumption)) (by (assumption)) ?_; k_whole); intro h' o' d' F' N' l1' lo' hd'; (try k_lt l1'))) | (((with_reducible show wpAny _ _ (call (Value.ref 237) [Value.ref _]) _ _ _); refine stop_here ?_))) | ((with_reducible show wpAny _ _ (subscriptTail _ _ _ _) _ _ _); first | ((with_reducible show wpAny _ _ (subscriptTail (PySem.Expr.Name _ _) (PySem.Expr.Name _ _) (Value.ref _) (Value.str _ _)) _ _ _); (k_here; k_dflt (refine' kda_item (knd := PySem.strKind _ _) (by (k_asm)) (by (k_mem)) (by (assumption)) (strKind_is _ _ _ _) (by (assumption)) ?_))) | ((with_reducible show wpAny _ _ (subscriptTail (PySem.Expr.Name _ _) (PySem.Expr.Constant _ _ _) (Value.ref _) (Value.int _ _)) _ _ _); (k_here; k_dflt (refine' tup_item (by (k_asm)) (by (k_mem)) (by (decide)) (by (decide)) (by (exact rfl)) (by (exact rfl)) ?_)))) | ((with_reducible show wpAny _ _ (newTuple _) _ _ _); first | ((with_reducible show wpAny _ _ (newTuple _) _ _ _); (k_here; (with_reducible show wpAny _ _ (newTuple [Value.str _ _, Value.bytes _ _]) _ _ _); k_dflt (refine' kup_newTuple (by (k_asm)) (by (k_asm)) ?_ (by (size_fits)); k_whole); intro D' h' F' N' l1'; (try k_lt l1')))) | ((with_reducible show wpAny _ _ (compareOp _ _ _) _ _ _); first | ((with_reducible show wpAny _ _ (compareOp CmpOp.NotEq (Value.ref _) (Value.ref _)) _ _ _); (k_here; k_dflt (refine' dicts_same (by (k_asm)) (by (k_mem)) (by (k_mem)) (by (assumption)) (by (assumption)) (by (assumption)) (by (assumption)) (by (assumption)) (by (assumption)) (by (assumption)) (by (ktr_units)) ?_))) | ((with_reducible show wpAny _ _ (compareOp CmpOp.NotEq (Value.ref _) (Value.ref _)) _ _ _); (k_here; k_dflt (refine' told_same (by (k_asm)) (by (ktr_units)) (by (assumption)) (by (assumption)) ?_)))) | ((with_reducible show wpAny _ _ (exec _ _) _ _ _); first | ((with_reducible show wpAny _ _ (exec (PySem.Stmt.Try _ _ _ _ _) _) _ _ _); (refine wpAny_Try_except ?_)) | ((with_reducible show wpAny _ _ (exec (PySem.Stmt.For _ _ _ _ _) _) _ _ _); (k_here; (rename Fr _ _ _ _ => lF'); (with_unfolding_all refine' For_invVF lF' (by (exact rfl)) (by (exact rfl)) ?_; k_whole)))) | ((with_reducible show wpAny _ _ (binaryOp _ _ _) _ _ _); first | ((with_reducible show wpAny _ _ (binaryOp Operator.Pow (Value.int _ _) (Value.int _ _)) _ _ _); (k_here; (with_reducible refine pow2_x (by (decide)) (by (decide)) ?_)))) | ((with_reducible show wpAny _ _ (setItem _ _ _) _ _ _); first | ((with_reducible show wpAny _ _ (setItem (Value.ref _) (Value.str _ _) (Value.int _ _)) _ _ _); (k_here; k_dflt (refine' kda_set (knd := PySem.strKind _ _) (by (k_asm)) (by (k_asm)) (by (k_updF)) (by (assumption)) (strKind_is _ _ _ _) (by (assumption)) ?_); intro h' o' F' N' hd'; (try dsimp only at N')))) | ((fail_if_success (with_reducible show wpAny _ _ (pyIter _) _ _ _)); walk1) | (dsimp only; (fail_if_success (with_reducible show wpAny _ _ (pyIter _) _ _ _)); walk1) | (leave1; walk_say "STEP leave1"; try dsimp only) | fail "no step"))
          refine lload_ok (.mk rfl rfl (by k_asm) (by k_asm) (by k_asm) (by k_asm) (by k_asm) rfl (by ktr_room) (by ktr_units)) (.tail _ (.tail _ (.tail _ (upR _ (k1 _ hY))))) (hs.mono fun _ _ z => z.keeps fun p hp => .tail _ (.tail _ (.tail _ (upR _ (k1 _ hp))))) (.tail _ (.tail _ (.tail _ (upR _ (k1 _ hRr))))) (hr.mono fun _ _ z => z.keeps fun p hp => .tail _ (.tail _ (.tail _ (upR _ (k1 _ hp))))) (.tail _ (.tail _ (.tail _ hdm2))) hod hlo hkS hnk hlen1 hkz (.head _) hB hbf hsy hdis hrok ?retL ?excL
          case retL =>
            intro fs hfs dd od kd h10 tk10 F10 N10 hddn hddl hdd hkd
            (repeat' (first | (k_unfold; (try dsimp only)) | ((with_reducible show wpAny _ _ (eval _ _) _ _ _); first | ((with_reducible show wpAny _ _ (eval (PySem.Expr.ListComp (PySem.Expr.Tuple _ _ _) _ _ _) _) _ _ _); (k_here; (rename Fr _ _ _ _ => lF'); (refine' ListComp_ownF lF' (by (exact rfl)) (by (decide)) (by (exact rfl)) (by (decide)) (by (exact rfl)) (by (intro _; exact rfl)) ?_; k_whole))) | ((with_reducible show wpAny _ _ (eval (PySem.Expr.Name _ _) _) _ _ _); (refine name_comp (by with_reducible assumption) (by with_reducible assumption) ?_)) | ((with_reducible show wpAny _ _ (eval (PySem.Expr.ListComp (PySem.Expr.Call _ _ _ _) _ _ _) _) _ _ _); (k_here; (rename Fr _ _ _ _ => lF'); (refine' ListComp_ownF lF' (by (exact rfl)) (by (decide)) (by (exact rfl)) (by (decide)) (by (exact rfl)) (by (intro _; exact rfl)) ?_; k_whole)))) | ((with_reducible show wpAny _ _ (call _ _) _ _ _); first | ((with_reducible show wpAny _ _ (call (Value.type "tuple") _) _ _ _); (k_here; (with_reducible show wpAny _ _ (call (Value.type _) [Value.ref _]) _ _ _); k_dflt (refine' kde_tupleOf (by (k_asm)) (by (k_asm)) (by (exact News.isList (by k_asm) (by k_mem))) (by ((rw [List.size_toArray]; omega))) rfl ?_; k_whole); intro D' h' F' N' l1')) | ((with_reducible show wpAny _ _ (call (Value.builtin "sorted") _) _ _ _); (k_here; k_dflt (refine' names_sorted (by (exact rfl)) (by (k_asm)) (by (k_asm)) (by (k_mem)) (by (assumption)) (by (assumption)) (by (assumption)) (by (assumption)) ?_; k_whole); intro us' c' B' h' tk' hus' F' N' l1'; (try k_lt l1'))) | ((k_here; (with_reducible show wpAny _ _ (call (Value.ref 225) [Value.ref _, Value.int _ _]) _ _ _); k_dflt (refine' draw_u (by (walk_at "M here")) (by (intro t1; k_upd)) (by (k_mem)) (by (assumption)) (by (exact List.length_take_le _ _)) (by (omega)) (by (omega)) (by (omega)) ?_; k_whole); intro v' t1' t2' h' tk' hv1' hv2' F' N')) | ((with_reducible show wpAny _ _ (call (Value.type "range") _) _ _ _); (k_here; k_dflt (refine' range1 (by (k_asm)) (by (k_asm)) ?_; k_whole); intro r' t1' t2' t3' h' tk' R' F' N')) | (((show wpAny _ _ (call (Value.ref 176) [Value.ref _]) _ _ _); refine stop_here ?_)) | (((show wpAny _ _ (call (Value.ref 176) [Value.ref _]) _ _ _); refine stop_here ?_)) | (((with_reducible show wpAny _ _ (call (Value.ref 218) _) _ _ _); refine stop_here ?_)) | (((with_reducible show wpAny _ _ (call (Value.ref 251) _) _ _ _); refine stop_here ?_)) | (((with_reducible show wpAny _ _ (call (Value.ref 186) _) _ _ _); refine stop_here ?_)) | ((k_here; (with_reducible show wpAny _ _ (call (Value.ref 153) _) _ _ _); k_dflt (refine' relnew_ok (by (walk_at "M here")) ?_; k_whole); intro h' tk' x' dx' t1' t2' t3' t4' t5' t6' F' N' l1' l2')) | ((k_here; (with_reducible show wpAny _ _ (call (Value.ref 125) _) _ _ _); k_dflt (refine' symnew_ok (by (walk_at "M here")) ?_; k_whole); intro h' tk' x' dx' t1' t2' t3' t4' F' N' l1' l2')) | ((with_reducible show wpAny _ _ (call (Value.type "dict") _) _ _ _); (k_here; (with_reducible show wpAny _ _ (call (Value.type "dict") [Value.ref _]) _ _ _); k_dflt (refine' dict_copy (knd := PySem.strKind _ _) (by (k_asm)) (by (k_asm)) (by (exact Top.nolimit (by k_asm))) (by (k_mem)) (by (assumption)) (by (assumption)) (by (assumption)) ?_; k_whole); intro h' o' d' F' N' l1' lo' hd'; (try k_lt l1'))) | (((with_reducible show wpAny _ _ (call (Value.ref 237) [Value.ref _]) _ _ _); refine stop_here ?_))) | ((with_reducible show wpAny _ _ (subscriptTail _ _ _ _) _ _ _); first | ((with_reducible show wpAny _ _ (subscriptTail (PySem.Expr.Name _ _) (PySem.Expr.Name _ _) (Value.ref _) (Value.str _ _)) _ _ _); (k_here; k_dflt (refine' kda_item (knd := PySem.strKind _ _) (by (k_asm)) (by (k_mem)) (by (assumption)) (strKind_is _ _ _ _) (by (assumption)) ?_))) | ((with_reducible show wpAny _ _ (subscriptTail (PySem.Expr.Name _ _) (PySem.Expr.Constant _ _ _) (Value.ref _) (Value.int _ _)) _ _ _); (k_here; k_dflt (refine' tup_item (by (k_asm)) (by (k_mem)) (by (decide)) (by (decide)) (by (exact rfl)) (by (exact rfl)) ?_)))) | ((with_reducible show wpAny _ _ (newTuple _) _ _ _); first | ((with_reducible show wpAny _ _ (newTuple _) _ _ _); (k_here; (with_reducible show wpAny _ _ (newTuple [Value.str _ _, Value.bytes _ _]) _ _ _); k_dflt (refine' kup_newTuple (by (k_asm)) (by (k_asm)) ?_ (by (size_fits)); k_whole); intro D' h' F' N' l1'; (try k_lt l1')))) | ((with_reducible show wpAny _ _ (compareOp _ _ _) _ _ _); first | ((with_reducible show wpAny _ _ (compareOp CmpOp.NotEq (Value.ref _) (Value.ref _)) _ _ _); (k_here; k_dflt (refine' dicts_same (by (k_asm)) (by (k_mem)) (by (k_mem)) (by (assumption)) (by (assumption)) (by (assumption)) (by (assumption)) (by (assumption)) (by (assumption)) (by (assumption)) (by (ktr_units)) ?_))) | ((with_reducible show wpAny _ _ (compareOp CmpOp.NotEq (Value.ref _) (Value.ref _)) _ _ _); (k_here; k_dflt (refine' told_same (by (k_asm)) (by (ktr_units)) (by (assumption)) (by (assumption)) ?_)))) | ((with_reducible show wpAny _ _ (exec _ _) _ _ _); first | ((with_reducible show wpAny _ _ (exec (PySem.Stmt.Try _ _ _ _ _) _) _ _ _); (refine wpAny_Try_except ?_)) | ((with_reducible show wpAny _ _ (exec (PySem.Stmt.For _ _ _ _ _) _) _ _ _); (k_here; (rename Fr _ _ _ _ => lF'); (with_unfolding_all refine' For_invVF lF' (by (exact rfl)) (by (exact rfl)) ?_; k_whole)))) | ((with_reducible show wpAny _ _ (binaryOp _ _ _) _ _ _); first | ((with_reducible show wpAny _ _ (binaryOp Operator.Pow (Value.int _ _) (Value.int _ _)) _ _ _); (k_here; (with_reducible refine pow2_x (by (decide)) (by (decide)) ?_)))) | ((with_reducible show wpAny _ _ (setItem _ _ _) _ _ _); first | ((with_reducible show wpAny _ _ (setItem (Value.ref _) (Value.str _ _) (Value.int _ _)) _ _ _); (k_here; k_dflt (refine' kda_set (knd := PySem.strKind _ _) (by (k_asm)) (by (k_asm)) (by (k_updF)) (by (assumption)) (strKind_is _ _ _ _) (by (assumption)) ?_); intro h' o' F' N' hd'; (try dsimp only at N')))) | ((fail_if_success (with_reducible show wpAny _ _ (pyIter _) _ _ _)); walk1) | (dsimp only; (fail_if_success (with_reducible show wpAny _ _ (pyIter _) _ _ _)); walk1) | (leave1; walk_say "STEP leave1"; try dsimp only) | fail "no step"))
            refine load_ok (.mk rfl rfl (by k_asm) (by k_asm) (by k_asm) (by k_asm) (by k_asm) rfl (by ktr_room) (by ktr_units)) (mem5 (upR _ hBa)) (mem5 (upR _ hBd)) (mem5 (upR _ hY1)) (hall.mono fun _ _ z => z.keeps fun p hp => mem5 (upR _ hp)) (mem5 (upR _ hB4)) (hall2.mono fun _ _ z => z.keeps fun p hp => mem5 (upR _ hp)) (mem5 (upR _ hD2B)) (by assumption) (by assumption) hkS hnk hlen1 hkz (.tail _ (.tail _ (.head _))) hB hbf hsy hrok ?retB ?excB
            case excB => intro x hx; rw [hfs] at hx; cases hx
            case retB =>
              intro fs2 hfs2 dd2 od2 kd2 h11 tk11 F11 N11 hne2 hlo2 hdd2 hkd2
              rw [hfs] at hfs2
              cases hfs2
              have hfn : (fs.map (·.1)).Nodup := by rw [loadF_keys hfs]; simpa using hnk
              have hBa2 := upR _ hBa
              have hBd2 := upR _ hBd
              (repeat' (first | (k_unfold; (try dsimp only)) | ((with_reducible show wpAny _ _ (eval _ _) _ _ _); first | ((with_reducible show wpAny _ _ (eval (PySem.Expr.ListComp (PySem.Expr.Tuple _ _ _) _ _ _) _) _ _ _); (k_here; (rename Fr _ _ _ _ => lF'); (refine' ListComp_ownF lF' (by (exact rfl)) (by (decide)) (by (exact rfl)) (by (decide)) (by (exact rfl)) (by (intro _; exact rfl)) ?_; k_whole))) | ((with_reducible show wpAny _ _ (eval (PySem.Expr.Name _ _) _) _ _ _); (refine name_comp (by with_reducible assumption) (by with_reducible assumption) ?_)) | ((with_reducible show wpAny _ _ (eval (PySem.Expr.ListComp (PySem.Expr.Call _ _ _ _) _ _ _) _) _ _ _); (k_here; (rename Fr _ _ _ _ => lF'); (refine' ListComp_ownF lF' (by (exact rfl)) (by (decide)) (by (exact rfl)) (by (decide)) (by (exact rfl)) (by (intro _; exact rfl)) ?_; k_whole)))) | ((with_reducible show wpAny _ _ (call _ _) _ _ _); first | ((with_reducible show wpAny _ _ (call (Value.type "tuple") _) _ _ _); (k_here; (with_reducible show wpAny _ _ (call (Value.type _) [Value.ref _]) _ _ _); k_dflt (refine' kde_tupleOf (by (k_asm)) (by (k_asm)) (by (exact News.isList (by k_asm) (by k_mem))) (by ((rw [List.size_toArray]; omega))) rfl ?_; k_whole); intro D' h' F' N' l1')) | ((with_reducible show wpAny _ _ (call (Value.builtin "sorted") _) _ _ _); (k_here; k_dflt (refine' names_sorted (by (exact rfl)) (by (k_asm)) (by (k_asm)) (by (k_mem)) (by (assumption)) (by (assumption)) (by (assumption)) (by (assumption)) ?_; k_whole); intro us' c' B' h' tk' hus' F' N' l1'; (try k_lt l1'))) | ((k_here; (with_reducible show wpAny _ _ (call (Value.ref 225) [Value.ref _, Value.int _ _]) _ _ _); k_dflt (refine' draw_u (by (walk_at "M here")) (by (intro t1; k_upd)) (by (k_mem)) (by (assumption)) (by (exact List.length_take_le _ _)) (by (omega)) (by (omega)) (by (omega)) ?_; k_whole); intro v' t1' t2' h' tk' hv1' hv2' F' N')) | ((with_reducible show wpAny _ _ (call (Value.type "range") _) _ _ _); (k_here; k_dflt (refine' range1 (by (k_asm)) (by (k_asm)) ?_; k_whole); intro r' t1' t2' t3' h' tk' R' F' N')) | (((show wpAny _ _ (call (Value.ref 176) [Value.ref _]) _ _ _); refine stop_here ?_)) | (((show wpAny _ _ (call (Value.ref 176) [Value.ref _]) _ _ _); refine stop_here ?_)) | (((with_reducible show wpAny _ _ (call (Value.ref 218) _) _ _ _); refine stop_here ?_)) | (((with_reducible show wpAny _ _ (call (Value.ref 251) _) _ _ _); refine stop_here ?_)) | (((with_reducible show wpAny _ _ (call (Value.ref 186) _) _ _ _); refine stop_here ?_)) | ((k_here; (with_reducible show wpAny _ _ (call (Value.ref 153) _) _ _ _); k_dflt (refine' relnew_ok (by (walk_at "M here")) ?_; k_whole); intro h' tk' x' dx' t1' t2' t3' t4' t5' t6' F' N' l1' l2')) | ((k_here; (with_reducible show wpAny _ _ (call (Value.ref 125) _) _ _ _); k_dflt (refine' symnew_ok (by (walk_at "M here")) ?_; k_whole); intro h' tk' x' dx' t1' t2' t3' t4' F' N' l1' l2')) | ((with_reducible show wpAny _ _ (call (Value.type "dict") _) _ _ _); (k_here; (with_reducible show wpAny _ _ (call (Value.type "dict") [Value.ref _]) _ _ _); k_dflt (refine' dict_copy (knd := PySem.strKind _ _) (by (k_asm)) (by (k_asm)) (by (exact Top.nolimit (by k_asm))) (by (k_mem)) (by (assumption)) (by (assumption)) (by (assumption)) ?_; k_whole); intro h' o' d' F' N' l1' lo' hd'; (try k_lt l1'))) | (((with_reducible show wpAny _ _ (call (Value.ref 237) [Value.ref _]) _ _ _); refine stop_here ?_))) | ((with_reducible show wpAny _ _ (subscriptTail _ _ _ _) _ _ _); first | ((with_reducible show wpAny _ _ (subscriptTail (PySem.Expr.Name _ _) (PySem.Expr.Name _ _) (Value.ref _) (Value.str _ _)) _ _ _); (k_here; k_dflt (refine' kda_item (knd := PySem.strKind _ _) (by (k_asm)) (by (k_mem)) (by (assumption)) (strKind_is _ _ _ _) (by (assumption)) ?_))) | ((with_reducible show wpAny _ _ (subscriptTail (PySem.Expr.Name _ _) (PySem.Expr.Constant _ _ _) (Value.ref _) (Value.int _ _)) _ _ _); (k_here; k_dflt (refine' tup_item (by (k_asm)) (by (k_mem)) (by (decide)) (by (decide)) (by (exact rfl)) (by (exact rfl)) ?_)))) | ((with_reducible show wpAny _ _ (newTuple _) _ _ _); first | ((with_reducible show wpAny _ _ (newTuple _) _ _ _); (k_here; (with_reducible show wpAny _ _ (newTuple [Value.str _ _, Value.bytes _ _]) _ _ _); k_dflt (refine' kup_newTuple (by (k_asm)) (by (k_asm)) ?_ (by (size_fits)); k_whole); intro D' h' F' N' l1'; (try k_lt l1')))) | ((with_reducible show wpAny _ _ (compareOp _ _ _) _ _ _); first | ((with_reducible show wpAny _ _ (compareOp CmpOp.NotEq (Value.ref _) (Value.ref _)) _ _ _); (k_here; k_dflt (refine' dicts_same (by (k_asm)) (by (k_mem)) (by (k_mem)) (by (assumption)) (by (assumption)) (by (assumption)) (by (assumption)) (by (assumption)) (by (assumption)) (by (assumption)) (by (ktr_units)) ?_))) | ((with_reducible show wpAny _ _ (compareOp CmpOp.NotEq (Value.ref _) (Value.ref _)) _ _ _); (k_here; k_dflt (refine' told_same (by (k_asm)) (by (ktr_units)) (by (assumption)) (by (assumption)) ?_)))) | ((with_reducible show wpAny _ _ (exec _ _) _ _ _); first | ((with_reducible show wpAny _ _ (exec (PySem.Stmt.Try _ _ _ _ _) _) _ _ _); (refine wpAny_Try_except ?_)) | ((with_reducible show wpAny _ _ (exec (PySem.Stmt.For _ _ _ _ _) _) _ _ _); (k_here; (rename Fr _ _ _ _ => lF'); (with_unfolding_all refine' For_invVF lF' (by (exact rfl)) (by (exact rfl)) ?_; k_whole)))) | ((with_reducible show wpAny _ _ (binaryOp _ _ _) _ _ _); first | ((with_reducible show wpAny _ _ (binaryOp Operator.Pow (Value.int _ _) (Value.int _ _)) _ _ _); (k_here; (with_reducible refine pow2_x (by (decide)) (by (decide)) ?_)))) | ((with_reducible show wpAny _ _ (setItem _ _ _) _ _ _); first | ((with_reducible show wpAny _ _ (setItem (Value.ref _) (Value.str _ _) (Value.int _ _)) _ _ _); (k_here; k_dflt (refine' kda_set (knd := PySem.strKind _ _) (by (k_asm)) (by (k_asm)) (by (k_updF)) (by (assumption)) (strKind_is _ _ _ _) (by (assumption)) ?_); intro h' o' F' N' hd'; (try dsimp only at N')))) | ((fail_if_success (with_reducible show wpAny _ _ (pyIter _) _ _ _)); walk1) | (dsimp only; (fail_if_success (with_reducible show wpAny _ _ (pyIter _) _ _ _)); walk1) | (leave1; walk_say "STEP leave1"; try dsimp only) | fail "no step"))
              refine told_ok (.mk rfl rfl (by k_asm) (by k_asm) (by k_asm) (by k_asm) (by k_asm) rfl (by ktr_room) (by ktr_units)) (.tail _ (mem5 hBa2)) (.tail _ (mem5 hBd2)) (.tail _ (mem5 (upR _ hY1))) (hall.mono fun _ _ z => z.keeps fun p hp => .tail _ (mem5 (upR _ hp))) (.tail _ (mem5 (upR _ hB4))) (hall2.mono fun _ _ z => z.keeps fun p hp => .tail _ (mem5 (upR _ hp))) hyz hrz (.tail _ (mem5 (upR _ hD2B))) (by assumption) (by assumption) hkS hkeys.ex ?_
              intro T1 n9 h12 tk12 F12 N12 hsub12 TI2
              have TI1 := TI.keeps fun p hp => hsub12 _ (.tail _ (mem5 (List.mem_append_left own (hsubR p hp))))
              (repeat' (first | (k_unfold; (try dsimp only)) | ((with_reducible show wpAny _ _ (eval _ _) _ _ _); first | ((with_reducible show wpAny _ _ (eval (PySem.Expr.ListComp (PySem.Expr.Tuple _ _ _) _ _ _) _) _ _ _); (k_here; (rename Fr _ _ _ _ => lF'); (refine' ListComp_ownF lF' (by (exact rfl)) (by (decide)) (by (exact rfl)) (by (decide)) (by (exact rfl)) (by (intro _; exact rfl)) ?_; k_whole))) | ((with_reducible show wpAny _ _ (eval (PySem.Expr.Name _ _) _) _ _ _); (refine name_comp (by with_reducible assumption) (by with_reducible assumption) ?_)) | ((with_reducible show wpAny _ _ (eval (PySem.Expr.ListComp (PySem.Expr.Call _ _ _ _) _ _ _) _) _ _ _); (k_here; (rename Fr _ _ _ _ => lF'); (refine' ListComp_ownF lF' (by (exact rfl)) (by (decide)) (by (exact rfl)) (by (decide)) (by (exact rfl)) (by (intro _; exact rfl)) ?_; k_whole)))) | ((with_reducible show wpAny _ _ (call _ _) _ _ _); first | ((with_reducible show wpAny _ _ (call (Value.type "tuple") _) _ _ _); (k_here; (with_reducible show wpAny _ _ (call (Value.type _) [Value.ref _]) _ _ _); k_dflt (refine' kde_tupleOf (by (k_asm)) (by (k_asm)) (by (exact News.isList (by k_asm) (by k_mem))) (by ((rw [List.size_toArray]; omega))) rfl ?_; k_whole); intro D' h' F' N' l1')) | ((with_reducible show wpAny _ _ (call (Value.builtin "sorted") _) _ _ _); (k_here; k_dflt (refine' names_sorted (by (exact rfl)) (by (k_asm)) (by (k_asm)) (by (k_mem)) (by (assumption)) (by (assumption)) (by (assumption)) (by (assumption)) ?_; k_whole); intro us' c' B' h' tk' hus' F' N' l1'; (try k_lt l1'))) | ((k_here; (with_reducible show wpAny _ _ (call (Value.ref 225) [Value.ref _, Value.int _ _]) _ _ _); k_dflt (refine' draw_u (by (walk_at "M here")) (by (intro t1; k_upd)) (by (k_mem)) (by (assumption)) (by (exact List.length_take_le _ _)) (by (omega)) (by (omega)) (by (omega)) ?_; k_whole); intro v' t1' t2' h' tk' hv1' hv2' F' N')) | ((with_reducible show wpAny _ _ (call (Value.type "range") _) _ _ _); (k_here; k_dflt (refine' range1 (by (k_asm)) (by (k_asm)) ?_; k_whole); intro r' t1' t2' t3' h' tk' R' F' N')) | (((show wpAny _ _ (call (Value.ref 176) [Value.ref _]) _ _ _); refine stop_here ?_)) | (((show wpAny _ _ (call (Value.ref 176) [Value.ref _]) _ _ _); refine stop_here ?_)) | (((with_reducible show wpAny _ _ (call (Value.ref 218) _) _ _ _); refine stop_here ?_)) | (((with_reducible show wpAny _ _ (call (Value.ref 251) _) _ _ _); refine stop_here ?_)) | (((with_reducible show wpAny _ _ (call (Value.ref 186) _) _ _ _); refine stop_here ?_)) | ((k_here; (with_reducible show wpAny _ _ (call (Value.ref 153) _) _ _ _); k_dflt (refine' relnew_ok (by (walk_at "M here")) ?_; k_whole); intro h' tk' x' dx' t1' t2' t3' t4' t5' t6' F' N' l1' l2')) | ((k_here; (with_reducible show wpAny _ _ (call (Value.ref 125) _) _ _ _); k_dflt (refine' symnew_ok (by (walk_at "M here")) ?_; k_whole); intro h' tk' x' dx' t1' t2' t3' t4' F' N' l1' l2')) | ((with_reducible show wpAny _ _ (call (Value.type "dict") _) _ _ _); (k_here; (with_reducible show wpAny _ _ (call (Value.type "dict") [Value.ref _]) _ _ _); k_dflt (refine' dict_copy (knd := PySem.strKind _ _) (by (k_asm)) (by (k_asm)) (by (exact Top.nolimit (by k_asm))) (by (k_mem)) (by (assumption)) (by (assumption)) (by (assumption)) ?_; k_whole); intro h' o' d' F' N' l1' lo' hd'; (try k_lt l1'))) | (((with_reducible show wpAny _ _ (call (Value.ref 237) [Value.ref _]) _ _ _); refine stop_here ?_))) | ((with_reducible show wpAny _ _ (subscriptTail _ _ _ _) _ _ _); first | ((with_reducible show wpAny _ _ (subscriptTail (PySem.Expr.Name _ _) (PySem.Expr.Name _ _) (Value.ref _) (Value.str _ _)) _ _ _); (k_here; k_dflt (refine' kda_item (knd := PySem.strKind _ _) (by (k_asm)) (by (k_mem)) (by (assumption)) (strKind_is _ _ _ _) (by (assumption)) ?_))) | ((with_reducible show wpAny _ _ (subscriptTail (PySem.Expr.Name _ _) (PySem.Expr.Constant _ _ _) (Value.ref _) (Value.int _ _)) _ _ _); (k_here; k_dflt (refine' tup_item (by (k_asm)) (by (k_mem)) (by (decide)) (by (decide)) (by (exact rfl)) (by (exact rfl)) ?_)))) | ((with_reducible show wpAny _ _ (newTuple _) _ _ _); first | ((with_reducible show wpAny _ _ (newTuple _) _ _ _); (k_here; (with_reducible show wpAny _ _ (newTuple [Value.str _ _, Value.bytes _ _]) _ _ _); k_dflt (refine' kup_newTuple (by (k_asm)) (by (k_asm)) ?_ (by (size_fits)); k_whole); intro D' h' F' N' l1'; (try k_lt l1')))) | ((with_reducible show wpAny _ _ (compareOp _ _ _) _ _ _); first | ((with_reducible show wpAny _ _ (compareOp CmpOp.NotEq (Value.ref _) (Value.ref _)) _ _ _); (k_here; k_dflt (refine' dicts_same (by (k_asm)) (by (k_mem)) (by (k_mem)) (by (assumption)) (by (assumption)) (by (assumption)) (by (assumption)) (by (assumption)) (by (assumption)) (by (assumption)) (by (ktr_units)) ?_))) | ((with_reducible show wpAny _ _ (compareOp CmpOp.NotEq (Value.ref _) (Value.ref _)) _ _ _); (k_here; k_dflt (refine' told_same (by (k_asm)) (by (ktr_units)) (by (assumption)) (by (assumption)) ?_)))) | ((with_reducible show wpAny _ _ (exec _ _) _ _ _); first | ((with_reducible show wpAny _ _ (exec (PySem.Stmt.Try _ _ _ _ _) _) _ _ _); (refine wpAny_Try_except ?_)) | ((with_reducible show wpAny _ _ (exec (PySem.Stmt.For _ _ _ _ _) _) _ _ _); (k_here; (rename Fr _ _ _ _ => lF'); (with_unfolding_all refine' For_invVF lF' (by (exact rfl)) (by (exact rfl)) ?_; k_whole)))) | ((with_reducible show wpAny _ _ (binaryOp _ _ _) _ _ _); first | ((with_reducible show wpAny _ _ (binaryOp Operator.Pow (Value.int _ _) (Value.int _ _)) _ _ _); (k_here; (with_reducible refine pow2_x (by (decide)) (by (decide)) ?_)))) | ((with_reducible show wpAny _ _ (setItem _ _ _) _ _ _); first | ((with_reducible show wpAny _ _ (setItem (Value.ref _) (Value.str _ _) (Value.int _ _)) _ _ _); (k_here; k_dflt (refine' kda_set (knd := PySem.strKind _ _) (by (k_asm)) (by (k_asm)) (by (k_updF)) (by (assumption)) (strKind_is _ _ _ _) (by (assumption)) ?_); intro h' o' F' N' hd'; (try dsimp only at N')))) | ((fail_if_success (with_reducible show wpAny _ _ (pyIter _) _ _ _)); walk1) | (dsimp only; (fail_if_success (with_reducible show wpAny _ _ (pyIter _) _ _ _)); walk1) | (leave1; walk_say "STEP leave1"; try dsimp only) | fail "no step"))
              exact turn_end (news' := (pen, _) :: (_, _) :: R) (by assumption) (cb_drop N12 fun p hp => hsub12 _ (.tail _ (.tail _ (.tail _ (.tail _ hp))))) rfl (off_keys off rfl) ⟨by with_unfolding_all rfl, by with_unfolding_all rfl, by with_unfolding_all rfl, by with_unfolding_all rfl, by with_unfolding_all rfl, R, _, _, rfl, hsubR, hpR, hcR, ha6, ha7⟩
          case excL =>
            intro x
            cases x
            all_goals
              intro hx u h10 tk10 F10 N10
              have hBa2 := upR _ hBa
              have hBd2 := upR _ hBd
              first
                | rw [show (if (false = true) then Str.ofString "reach" else Str.ofString "name") = Str.ofString "name" from rfl]
                | rw [show (if (true = true) then Str.ofString "reach" else Str.ofString "name") = Str.ofString "reach" from rfl]
              (repeat' (first | (k_unfold; (try dsimp only)) | ((with_reducible show wpAny _ _ (eval _ _) _ _ _); first | ((with_reducible show wpAny _ _ (eval (PySem.Expr.ListComp (PySem.Expr.Tuple _ _ _) _ _ _) _) _ _ _); (k_here; (rename Fr _ _ _ _ => lF'); (refine' ListComp_ownF lF' (by (exact rfl)) (by (decide)) (by (exact rfl)) (by (decide)) (by (exact rfl)) (by (intro _; exact rfl)) ?_; k_whole))) | ((with_reducible show wpAny _ _ (eval (PySem.Expr.Name _ _) _) _ _ _); (refine name_comp (by with_reducible assumption) (by with_reducible assumption) ?_)) | ((with_reducible show wpAny _ _ (eval (PySem.Expr.ListComp (PySem.Expr.Call _ _ _ _) _ _ _) _) _ _ _); (k_here; (rename Fr _ _ _ _ => lF'); (refine' ListComp_ownF lF' (by (exact rfl)) (by (decide)) (by (exact rfl)) (by (decide)) (by (exact rfl)) (by (intro _; exact rfl)) ?_; k_whole)))) | ((with_reducible show wpAny _ _ (call _ _) _ _ _); first | ((with_reducible show wpAny _ _ (call (Value.type "tuple") _) _ _ _); (k_here; (with_reducible show wpAny _ _ (call (Value.type _) [Value.ref _]) _ _ _); k_dflt (refine' kde_tupleOf (by (k_asm)) (by (k_asm)) (by (exact News.isList (by k_asm) (by k_mem))) (by ((rw [List.size_toArray]; omega))) rfl ?_; k_whole); intro D' h' F' N' l1')) | ((with_reducible show wpAny _ _ (call (Value.builtin "sorted") _) _ _ _); (k_here; k_dflt (refine' names_sorted (by (exact rfl)) (by (k_asm)) (by (k_asm)) (by (k_mem)) (by (assumption)) (by (assumption)) (by (assumption)) (by (assumption)) ?_; k_whole); intro us' c' B' h' tk' hus' F' N' l1'; (try k_lt l1'))) | ((k_here; (with_reducible show wpAny _ _ (call (Value.ref 225) [Value.ref _, Value.int _ _]) _ _ _); k_dflt (refine' draw_u (by (walk_at "M here")) (by (intro t1; k_upd)) (by (k_mem)) (by (assumption)) (by (exact List.length_take_le _ _)) (by (omega)) (by (omega)) (by (omega)) ?_; k_whole); intro v' t1' t2' h' tk' hv1' hv2' F' N')) | ((with_reducible show wpAny _ _ (call (Value.type "range") _) _ _ _); (k_here; k_dflt (refine' range1 (by (k_asm)) (by (k_asm)) ?_; k_whole); intro r' t1' t2' t3' h' tk' R' F' N')) | (((show wpAny _ _ (call (Value.ref 176) [Value.ref _]) _ _ _); refine stop_here ?_)) | (((show wpAny _ _ (call (Value.ref 176) [Value.ref _]) _ _ _); refine stop_here ?_)) | (((with_reducible show wpAny _ _ (call (Value.ref 218) _) _ _ _); refine stop_here ?_)) | (((with_reducible show wpAny _ _ (call (Value.ref 251) _) _ _ _); refine stop_here ?_)) | (((with_reducible show wpAny _ _ (call (Value.ref 186) _) _ _ _); refine stop_here ?_)) | ((k_here; (with_reducible show wpAny _ _ (call (Value.ref 153) _) _ _ _); k_dflt (refine' relnew_ok (by (walk_at "M here")) ?_; k_whole); intro h' tk' x' dx' t1' t2' t3' t4' t5' t6' F' N' l1' l2')) | ((k_here; (with_reducible show wpAny _ _ (call (Value.ref 125) _) _ _ _); k_dflt (refine' symnew_ok (by (walk_at "M here")) ?_; k_whole); intro h' tk' x' dx' t1' t2' t3' t4' F' N' l1' l2')) | ((with_reducible show wpAny _ _ (call (Value.type "dict") _) _ _ _); (k_here; (with_reducible show wpAny _ _ (call (Value.type "dict") [Value.ref _]) _ _ _); k_dflt (refine' dict_copy (knd := PySem.strKind _ _) (by (k_asm)) (by (k_asm)) (by (exact Top.nolimit (by k_asm))) (by (k_mem)) (by (assumption)) (by (assumption)) (by (assumption)) ?_; k_whole); intro h' o' d' F' N' l1' lo' hd'; (try k_lt l1'))) | (((with_reducible show wpAny _ _ (call (Value.ref 237) [Value.ref _]) _ _ _); refine stop_here ?_))) | ((with_reducible show wpAny _ _ (subscriptTail _ _ _ _) _ _ _); first | ((with_reducible show wpAny _ _ (subscriptTail (PySem.Expr.Name _ _) (PySem.Expr.Name _ _) (Value.ref _) (Value.str _ _)) _ _ _); (k_here; k_dflt (refine' kda_item (knd := PySem.strKind _ _) (by (k_asm)) (by (k_mem)) (by (assumption)) (strKind_is _ _ _ _) (by (assumption)) ?_))) | ((with_reducible show wpAny _ _ (subscriptTail (PySem.Expr.Name _ _) (PySem.Expr.Constant _ _ _) (Value.ref _) (Value.int _ _)) _ _ _); (k_here; k_dflt (refine' tup_item (by (k_asm)) (by (k_mem)) (by (decide)) (by (decide)) (by (exact rfl)) (by (exact rfl)) ?_)))) | ((with_reducible show wpAny _ _ (newTuple _) _ _ _); first | ((with_reducible show wpAny _ _ (newTuple _) _ _ _); (k_here; (with_reducible show wpAny _ _ (newTuple [Value.str _ _, Value.bytes _ _]) _ _ _); k_dflt (refine' kup_newTuple (by (k_asm)) (by (k_asm)) ?_ (by (size_fits)); k_whole); intro D' h' F' N' l1'; (try k_lt l1')))) | ((with_reducible show wpAny _ _ (compareOp _ _ _) _ _ _); first | ((with_reducible show wpAny _ _ (compareOp CmpOp.NotEq (Value.ref _) (Value.ref _)) _ _ _); (k_here; k_dflt (refine' dicts_same (by (k_asm)) (by (k_mem)) (by (k_mem)) (by (assumption)) (by (assumption)) (by (assumption)) (by (assumption)) (by (assumption)) (by (assumption)) (by (assumption)) (by (ktr_units)) ?_))) | ((with_reducible show wpAny _ _ (compareOp CmpOp.NotEq (Value.ref _) (Value.ref _)) _ _ _); (k_here; k_dflt (refine' told_same (by (k_asm)) (by (ktr_units)) (by (assumption)) (by (assumption)) ?_)))) | ((with_reducible show wpAny _ _ (exec _ _) _ _ _); first | ((with_reducible show wpAny _ _ (exec (PySem.Stmt.Try _ _ _ _ _) _) _ _ _); (refine wpAny_Try_except ?_)) | ((with_reducible show wpAny _ _ (exec (PySem.Stmt.For _ _ _ _ _) _) _ _ _); (k_here; (rename Fr _ _ _ _ => lF'); (with_unfolding_all refine' For_invVF lF' (by (exact rfl)) (by (exact rfl)) ?_; k_whole)))) | ((with_reducible show wpAny _ _ (binaryOp _ _ _) _ _ _); first | ((with_reducible show wpAny _ _ (binaryOp Operator.Pow (Value.int _ _) (Value.int _ _)) _ _ _); (k_here; (with_reducible refine pow2_x (by (decide)) (by (decide)) ?_)))) | ((with_reducible show wpAny _ _ (setItem _ _ _) _ _ _); first | ((with_reducible show wpAny _ _ (setItem (Value.ref _) (Value.str _ _) (Value.int _ _)) _ _ _); (k_here; k_dflt (refine' kda_set (knd := PySem.strKind _ _) (by (k_asm)) (by (k_asm)) (by (k_updF)) (by (assumption)) (strKind_is _ _ _ _) (by (assumption)) ?_); intro h' o' F' N' hd'; (try dsimp only at N')))) | ((fail_if_success (with_reducible show wpAny _ _ (pyIter _) _ _ _)); walk1) | (dsimp only; (fail_if_success (with_reducible show wpAny _ _ (pyIter _) _ _ _)); walk1) | (leave1; walk_say "STEP leave1"; try dsimp only) | fail "no step"))
              refine load_ok (.mk rfl rfl (by k_asm) (by k_asm) (by k_asm) (by k_asm) (by k_asm) rfl (by ktr_room) (by ktr_units)) (mem4 (upR _ hBa)) (mem4 (upR _ hBd)) (mem4 (upR _ hY1)) (hall.mono fun _ _ z => z.keeps fun p hp => mem4 (upR _ hp)) (mem4 (upR _ hB4)) (hall2.mono fun _ _ z => z.keeps fun p hp => mem4 (upR _ hp)) (mem4 (upR _ hD2B)) (by assumption) (by assumption) hkS hnk hlen1 hkz (.tail _ (.head _)) hB hbf hsy hrok (fun fs2 hfs2 => by rw [hx] at hfs2; cases hfs2) fun x2 hx2 => ?_
              rw [hx] at hx2
              cases hx2
              intro ee gg h11 tk11 RN F11 U11
              first
                | replace RN := (show RaisedN _ _ ee (.ref 64) _ _ from RN)
                | replace RN := (show RaisedN _ _ ee (.ref 52) _ _ from RN)
              (repeat' (first | (k_unfold; (try dsimp only)) | ((with_reducible show wpAny _ _ (eval _ _) _ _ _); first | ((with_reducible show wpAny _ _ (eval (PySem.Expr.ListComp (PySem.Expr.Tuple _ _ _) _ _ _) _) _ _ _); (k_here; (rename Fr _ _ _ _ => lF'); (refine' ListComp_ownF lF' (by (exact rfl)) (by (decide)) (by (exact rfl)) (by (decide)) (by (exact rfl)) (by (intro _; exact rfl)) ?_; k_whole))) | ((with_reducible show wpAny _ _ (eval (PySem.Expr.Name _ _) _) _ _ _); (refine name_comp (by with_reducible assumption) (by with_reducible assumption) ?_)) | ((with_reducible show wpAny _ _ (eval (PySem.Expr.ListComp (PySem.Expr.Call _ _ _ _) _ _ _) _) _ _ _); (k_here; (rename Fr _ _ _ _ => lF'); (refine' ListComp_ownF lF' (by (exact rfl)) (by (decide)) (by (exact rfl)) (by (decide)) (by (exact rfl)) (by (intro _; exact rfl)) ?_; k_whole)))) | ((with_reducible show wpAny _ _ (call _ _) _ _ _); first | ((with_reducible show wpAny _ _ (call (Value.type "tuple") _) _ _ _); (k_here; (with_reducible show wpAny _ _ (call (Value.type _) [Value.ref _]) _ _ _); k_dflt (refine' kde_tupleOf (by (k_asm)) (by (k_asm)) (by (exact News.isList (by k_asm) (by k_mem))) (by ((rw [List.size_toArray]; omega))) rfl ?_; k_whole); intro D' h' F' N' l1')) | ((with_reducible show wpAny _ _ (call (Value.builtin "sorted") _) _ _ _); (k_here; k_dflt (refine' names_sorted (by (exact rfl)) (by (k_asm)) (by (k_asm)) (by (k_mem)) (by (assumption)) (by (assumption)) (by (assumption)) (by (assumption)) ?_; k_whole); intro us' c' B' h' tk' hus' F' N' l1'; (try k_lt l1'))) | ((k_here; (with_reducible show wpAny _ _ (call (Value.ref 225) [Value.ref _, Value.int _ _]) _ _ _); k_dflt (refine' draw_u (by (walk_at "M here")) (by (intro t1; k_upd)) (by (k_mem)) (by (assumption)) (by (exact List.length_take_le _ _)) (by (omega)) (by (omega)) (by (omega)) ?_; k_whole); intro v' t1' t2' h' tk' hv1' hv2' F' N')) | ((with_reducible show wpAny _ _ (call (Value.type "range") _) _ _ _); (k_here; k_dflt (refine' range1 (by (k_asm)) (by (k_asm)) ?_; k_whole); intro r' t1' t2' t3' h' tk' R' F' N')) | (((show wpAny _ _ (call (Value.ref 176) [Value.ref _]) _ _ _); refine stop_here ?_)) | (((show wpAny _ _ (call (Value.ref 176) [Value.ref _]) _ _ _); refine stop_here ?_)) | (((with_reducible show wpAny _ _ (call (Value.ref 218) _) _ _ _); refine stop_here ?_)) | (((with_reducible show wpAny _ _ (call (Value.ref 251) _) _ _ _); refine stop_here ?_)) | (((with_reducible show wpAny _ _ (call (Value.ref 186) _) _ _ _); refine stop_here ?_)) | ((k_here; (with_reducible show wpAny _ _ (call (Value.ref 153) _) _ _ _); k_dflt (refine' relnew_ok (by (walk_at "M here")) ?_; k_whole); intro h' tk' x' dx' t1' t2' t3' t4' t5' t6' F' N' l1' l2')) | ((k_here; (with_reducible show wpAny _ _ (call (Value.ref 125) _) _ _ _); k_dflt (refine' symnew_ok (by (walk_at "M here")) ?_; k_whole); intro h' tk' x' dx' t1' t2' t3' t4' F' N' l1' l2')) | ((with_reducible show wpAny _ _ (call (Value.type "dict") _) _ _ _); (k_here; (with_reducible show wpAny _ _ (call (Value.type "dict") [Value.ref _]) _ _ _); k_dflt (refine' dict_copy (knd := PySem.strKind _ _) (by (k_asm)) (by (k_asm)) (by (exact Top.nolimit (by k_asm))) (by (k_mem)) (by (assumption)) (by (assumption)) (by (assumption)) ?_; k_whole); intro h' o' d' F' N' l1' lo' hd'; (try k_lt l1'))) | (((with_reducible show wpAny _ _ (call (Value.ref 237) [Value.ref _]) _ _ _); refine stop_here ?_))) | ((with_reducible show wpAny _ _ (subscriptTail _ _ _ _) _ _ _); first | ((with_reducible show wpAny _ _ (subscriptTail (PySem.Expr.Name _ _) (PySem.Expr.Name _ _) (Value.ref _) (Value.str _ _)) _ _ _); (k_here; k_dflt (refine' kda_item (knd := PySem.strKind _ _) (by (k_asm)) (by (k_mem)) (by (assumption)) (strKind_is _ _ _ _) (by (assumption)) ?_))) | ((with_reducible show wpAny _ _ (subscriptTail (PySem.Expr.Name _ _) (PySem.Expr.Constant _ _ _) (Value.ref _) (Value.int _ _)) _ _ _); (k_here; k_dflt (refine' tup_item (by (k_asm)) (by (k_mem)) (by (decide)) (by (decide)) (by (exact rfl)) (by (exact rfl)) ?_)))) | ((with_reducible show wpAny _ _ (newTuple _) _ _ _); first | ((with_reducible show wpAny _ _ (newTuple _) _ _ _); (k_here; (with_reducible show wpAny _ _ (newTuple [Value.str _ _, Value.bytes _ _]) _ _ _); k_dflt (refine' kup_newTuple (by (k_asm)) (by (k_asm)) ?_ (by (size_fits)); k_whole); intro D' h' F' N' l1'; (try k_lt l1')))) | ((with_reducible show wpAny _ _ (compareOp _ _ _) _ _ _); first | ((with_reducible show wpAny _ _ (compareOp CmpOp.NotEq (Value.ref _) (Value.ref _)) _ _ _); (k_here; k_dflt (refine' dicts_same (by (k_asm)) (by (k_mem)) (by (k_mem)) (by (assumption)) (by (assumption)) (by (assumption)) (by (assumption)) (by (assumption)) (by (assumption)) (by (assumption)) (by (ktr_units)) ?_))) | ((with_reducible show wpAny _ _ (compareOp CmpOp.NotEq (Value.ref _) (Value.ref _)) _ _ _); (k_here; k_dflt (refine' told_same (by (k_asm)) (by (ktr_units)) (by (assumption)) (by (assumption)) ?_)))) | ((with_reducible show wpAny _ _ (exec _ _) _ _ _); first | ((with_reducible show wpAny _ _ (exec (PySem.Stmt.Try _ _ _ _ _) _) _ _ _); (refine wpAny_Try_except ?_)) | ((with_reducible show wpAny _ _ (exec (PySem.Stmt.For _ _ _ _ _) _) _ _ _); (k_here; (rename Fr _ _ _ _ => lF'); (with_unfolding_all refine' For_invVF lF' (by (exact rfl)) (by (exact rfl)) ?_; k_whole)))) | ((with_reducible show wpAny _ _ (binaryOp _ _ _) _ _ _); first | ((with_reducible show wpAny _ _ (binaryOp Operator.Pow (Value.int _ _) (Value.int _ _)) _ _ _); (k_here; (with_reducible refine pow2_x (by (decide)) (by (decide)) ?_)))) | ((with_reducible show wpAny _ _ (setItem _ _ _) _ _ _); first | ((with_reducible show wpAny _ _ (setItem (Value.ref _) (Value.str _ _) (Value.int _ _)) _ _ _); (k_here; k_dflt (refine' kda_set (knd := PySem.strKind _ _) (by (k_asm)) (by (k_asm)) (by (k_updF)) (by (assumption)) (strKind_is _ _ _ _) (by (assumption)) ?_); intro h' o' F' N' hd'; (try dsimp only at N')))) | ((fail_if_success (with_reducible show wpAny _ _ (pyIter _) _ _ _)); walk1) | (dsimp only; (fail_if_success (with_reducible show wpAny _ _ (pyIter _) _ _ _)); walk1) | (leave1; walk_say "STEP leave1"; try dsimp only) | fail "no step"))
            all_goals
              refine told_ok (.mk rfl rfl (by k_asm) (by k_asm) (by k_asm) (by k_asm) (by k_asm) rfl (by ktr_room) (by ktr_units)) (mem4 hBa2) (mem4 hBd2) (mem4 (upR _ hY1)) (hall.mono fun _ _ z => z.keeps fun p hp => mem4 (upR _ hp)) (mem4 (upR _ hB4)) (hall2.mono fun _ _ z => z.keeps fun p hp => mem4 (upR _ hp)) hyz hrz (mem4 (upR _ hD2B)) (by assumption) (by assumption) hkS hkeys.ex ?_
              intro T1 n9 h12 tk12 F12 N12 hsub12 TI2
              have TI1 := TI.keeps fun p hp => hsub12 _ (mem4 (List.mem_append_left own (hsubR p hp)))
              (repeat' (first | (k_unfold; (try dsimp only)) | ((with_reducible show wpAny _ _ (eval _ _) _ _ _); first | ((with_reducible show wpAny _ _ (eval (PySem.Expr.ListComp (PySem.Expr.Tuple _ _ _) _ _ _) _) _ _ _); (k_here; (rename Fr _ _ _ _ => lF'); (refine' ListComp_ownF lF' (by (exact rfl)) (by (decide)) (by (exact rfl)) (by (decide)) (by (exact rfl)) (by (intro _; exact rfl)) ?_; k_whole))) | ((with_reducible show wpAny _ _ (eval (PySem.Expr.Name _ _) _) _ _ _); (refine name_comp (by with_reducible assumption) (by with_reducible assumption) ?_)) | ((with_reducible show wpAny _ _ (eval (PySem.Expr.ListComp (PySem.Expr.Call _ _ _ _) _ _ _) _) _ _ _); (k_here; (rename Fr _ _ _ _ => lF'); (refine' ListComp_ownF lF' (by (exact rfl)) (by (decide)) (by (exact rfl)) (by (decide)) (by (exact rfl)) (by (intro _; exact rfl)) ?_; k_whole)))) | ((with_reducible show wpAny _ _ (call _ _) _ _ _); first | ((with_reducible show wpAny _ _ (call (Value.type "tuple") _) _ _ _); (k_here; (with_reducible show wpAny _ _ (call (Value.type _) [Value.ref _]) _ _ _); k_dflt (refine' kde_tupleOf (by (k_asm)) (by (k_asm)) (by (exact News.isList (by k_asm) (by k_mem))) (by ((rw [List.size_toArray]; omega))) rfl ?_; k_whole); intro D' h' F' N' l1')) | ((with_reducible show wpAny _ _ (call (Value.builtin "sorted") _) _ _ _); (k_here; k_dflt (refine' names_sorted (by (exact rfl)) (by (k_asm)) (by (k_asm)) (by (k_mem)) (by (assumption)) (by (assumption)) (by (assumption)) (by (assumption)) ?_; k_whole); intro us' c' B' h' tk' hus' F' N' l1'; (try k_lt l1'))) | ((k_here; (with_reducible show wpAny _ _ (call (Value.ref 225) [Value.ref _, Value.int _ _]) _ _ _); k_dflt (refine' draw_u (by (walk_at "M here")) (by (intro t1; k_upd)) (by (k_mem)) (by (assumption)) (by (exact List.length_take_le _ _)) (by (omega)) (by (omega)) (by (omega)) ?_; k_whole); intro v' t1' t2' h' tk' hv1' hv2' F' N')) | ((with_reducible show wpAny _ _ (call (Value.type "range") _) _ _ _); (k_here; k_dflt (refine' range1 (by (k_asm)) (by (k_asm)) ?_; k_whole); intro r' t1' t2' t3' h' tk' R' F' N')) | (((show wpAny _ _ (call (Value.ref 176) [Value.ref _]) _ _ _); refine stop_here ?_)) | (((show wpAny _ _ (call (Value.ref 176) [Value.ref _]) _ _ _); refine stop_here ?_)) | (((with_reducible show wpAny _ _ (call (Value.ref 218) _) _ _ _); refine stop_here ?_)) | (((with_reducible show wpAny _ _ (call (Value.ref 251) _) _ _ _); refine stop_here ?_)) | (((with_reducible show wpAny _ _ (call (Value.ref 186) _) _ _ _); refine stop_here ?_)) | ((k_here; (with_reducible show wpAny _ _ (call (Value.ref 153) _) _ _ _); k_dflt (refine' relnew_ok (by (walk_at "M here")) ?_; k_whole); intro h' tk' x' dx' t1' t2' t3' t4' t5' t6' F' N' l1' l2')) | ((k_here; (with_reducible show wpAny _ _ (call (Value.ref 125) _) _ _ _); k_dflt (refine' symnew_ok (by (walk_at "M here")) ?_; k_whole); intro h' tk' x' dx' t1' t2' t3' t4' F' N' l1' l2')) | ((with_reducible show wpAny _ _ (call (Value.type "dict") _) _ _ _); (k_here; (with_reducible show wpAny _ _ (call (Value.type "dict") [Value.ref _]) _ _ _); k_dflt (refine' dict_copy (knd := PySem.strKind _ _) (by (k_asm)) (by (k_asm)) (by (exact Top.nolimit (by k_asm))) (by (k_mem)) (by (assumption)) (by (assumption)) (by (assumption)) ?_; k_whole); intro h' o' d' F' N' l1' lo' hd'; (try k_lt l1'))) | (((with_reducible show wpAny _ _ (call (Value.ref 237) [Value.ref _]) _ _ _); refine stop_here ?_))) | ((with_reducible show wpAny _ _ (subscriptTail _ _ _ _) _ _ _); first | ((with_reducible show wpAny _ _ (subscriptTail (PySem.Expr.Name _ _) (PySem.Expr.Name _ _) (Value.ref _) (Value.str _ _)) _ _ _); (k_here; k_dflt (refine' kda_item (knd := PySem.strKind _ _) (by (k_asm)) (by (k_mem)) (by (assumption)) (strKind_is _ _ _ _) (by (assumption)) ?_))) | ((with_reducible show wpAny _ _ (subscriptTail (PySem.Expr.Name _ _) (PySem.Expr.Constant _ _ _) (Value.ref _) (Value.int _ _)) _ _ _); (k_here; k_dflt (refine' tup_item (by (k_asm)) (by (k_mem)) (by (decide)) (by (decide)) (by (exact rfl)) (by (exact rfl)) ?_)))) | ((with_reducible show wpAny _ _ (newTuple _) _ _ _); first | ((with_reducible show wpAny _ _ (newTuple _) _ _ _); (k_here; (with_reducible show wpAny _ _ (newTuple [Value.str _ _, Value.bytes _ _]) _ _ _); k_dflt (refine' kup_newTuple (by (k_asm)) (by (k_asm)) ?_ (by (size_fits)); k_whole); intro D' h' F' N' l1'; (try k_lt l1')))) | ((with_reducible show wpAny _ _ (compareOp _ _ _) _ _ _); first | ((with_reducible show wpAny _ _ (compareOp CmpOp.NotEq (Value.ref _) (Value.ref _)) _ _ _); (k_here; k_dflt (refine' dicts_same (by (k_asm)) (by (k_mem)) (by (k_mem)) (by (assumption)) (by (assumption)) (by (assumption)) (by (assumption)) (by (assumption)) (by (assumption)) (by (assumption)) (by (ktr_units)) ?_))) | ((with_reducible show wpAny _ _ (compareOp CmpOp.NotEq (Value.ref _) (Value.ref _)) _ _ _); (k_here; k_dflt (refine' told_same (by (k_asm)) (by (ktr_units)) (by (assumption)) (by (assumption)) ?_)))) | ((with_reducible show wpAny _ _ (exec _ _) _ _ _); first | ((with_reducible show wpAny _ _ (exec (PySem.Stmt.Try _ _ _ _ _) _) _ _ _); (refine wpAny_Try_except ?_)) | ((with_reducible show wpAny _ _ (exec (PySem.Stmt.For _ _ _ _ _) _) _ _ _); (k_here; (rename Fr _ _ _ _ => lF'); (with_unfolding_all refine' For_invVF lF' (by (exact rfl)) (by (exact rfl)) ?_; k_whole)))) | ((with_reducible show wpAny _ _ (binaryOp _ _ _) _ _ _); first | ((with_reducible show wpAny _ _ (binaryOp Operator.Pow (Value.int _ _) (Value.int _ _)) _ _ _); (k_here; (with_reducible refine pow2_x (by (decide)) (by (decide)) ?_)))) | ((with_reducible show wpAny _ _ (setItem _ _ _) _ _ _); first | ((with_reducible show wpAny _ _ (setItem (Value.ref _) (Value.str _ _) (Value.int _ _)) _ _ _); (k_here; k_dflt (refine' kda_set (knd := PySem.strKind _ _) (by (k_asm)) (by (k_asm)) (by (k_updF)) (by (assumption)) (strKind_is _ _ _ _) (by (assumption)) ?_); intro h' o' F' N' hd'; (try dsimp only at N')))) | ((fail_if_success (with_reducible show wpAny _ _ (pyIter _) _ _ _)); walk1) | (dsimp only; (fail_if_success (with_reducible show wpAny _ _ (pyIter _) _ _ _)); walk1) | (leave1; walk_say "STEP leave1"; try dsimp only) | fail "no step"))
              exact turn_end (news' := (pen, _) :: (_, _) :: R) (by assumption) (cb_drop N12 fun p hp => hsub12 _ (.tail _ (.tail _ hp))) rfl (off_keys off rfl) ⟨by with_unfolding_all rfl, by with_unfolding_all rfl, by with_unfolding_all rfl, by with_unfolding_all rfl, by with_unfolding_all rfl, R, _, _, rfl, hsubR, hpR, hcR, ha6, ha7⟩
      case doneL =>
        intro m₁ n₁ h8 tk8 hJ0' F8 N8
        refine Classical.byContradiction fun hG => ?_
        obtain ⟨n1, n2, n3, n4, n5, R, a1, ta1, rfl, hsubR, hpR, hcR, ha2, ha3⟩ := hJ0'
        obtain ⟨P, S, Rq, ps, ss, rq, b1, b2, b3, -, -, -, -⟩ := TI
        refine hG ?_
        clear hG
        replace b1 := hsubR _ b1
        replace b2 := hsubR _ b2
        replace b3 := b3.mono fun _ _ z => z.keeps hsubR
        have hdm2 := hsubR _ (upB _ (k1 _ hdm))
        have hcells2 := hsubR _ (upB _ (k1 _ hcells))
        have hkeys := hkeys.ex
        have hnd := keys_nodup hkeys
        have hl3 : secs.length ≤ 3 := by
          obtain ⟨k, k1, k3, ek⟩ := hkeys
          rw [← List.length_map (f := fun p : Str × List Int => p.1), ek, List.length_take]
          simp only [List.length_cons, List.length_nil]; omega
        replace F8 := pins F8 (.cons n1 (.cons n2 (.cons n3 (.cons n4 (.cons n5 .nil)))))
        (repeat' (first | (k_unfold; (try dsimp only)) | ((with_reducible show wpAny _ _ (eval _ _) _ _ _); first | ((with_reducible show wpAny _ _ (eval (PySem.Expr.ListComp (PySem.Expr.Tuple _ _ _) _ _ _) _) _ _ _); (k_here; (rename Fr _ _ _ _ => lF'); (refine' ListComp_ownF lF' (by (exact rfl)) (by (decide)) (by (exact rfl)) (by (decide)) (by (exact rfl)) (by (intro _; exact rfl)) ?_; k_whole))) | ((with_reducible show wpAny _ _ (eval (PySem.Expr.Name _ _) _) _ _ _); (refine name_comp (by with_reducible assumption) (by with_reducible assumption) ?_)) | ((with_reducible show wpAny _ _ (eval (PySem.Expr.ListComp (PySem.Expr.Call _ _ _ _) _ _ _) _) _ _ _); (k_here; (rename Fr _ _ _ _ => lF'); (refine' ListComp_ownF lF' (by (exact rfl)) (by (decide)) (by (exact rfl)) (by (decide)) (by (exact rfl)) (by (intro _; exact rfl)) ?_; k_whole)))) | ((with_reducible show wpAny _ _ (call _ _) _ _ _); first | ((with_reducible show wpAny _ _ (call (Value.type "tuple") _) _ _ _); (k_here; (with_reducible show wpAny _ _ (call (Value.type _) [Value.ref _]) _ _ _); k_dflt (refine' kde_tupleOf (by (k_asm)) (by (k_asm)) (by (exact News.isList (by k_asm) (by k_mem))) (by ((rw [List.size_toArray]; omega))) rfl ?_; k_whole); intro D' h' F' N' l1')) | ((with_reducible show wpAny _ _ (call (Value.builtin "sorted") _) _ _ _); (k_here; k_dflt (refine' names_sorted (by (exact rfl)) (by (k_asm)) (by (k_asm)) (by (k_mem)) (by (assumption)) (by (assumption)) (by (assumption)) (by (assumption)) ?_; k_whole); intro us' c' B' h' tk' hus' F' N' l1'; (try k_lt l1'))) | ((k_here; (with_reducible show wpAny _ _ (call (Value.ref 225) [Value.ref _, Value.int _ _]) _ _ _); k_dflt (refine' draw_u (by (walk_at "M here")) (by (intro t1; k_upd)) (by (k_mem)) (by (assumption)) (by (exact List.length_take_le _ _)) (by (omega)) (by (omega)) (by (omega)) ?_; k_whole); intro v' t1' t2' h' tk' hv1' hv2' F' N')) | ((with_reducible show wpAny _ _ (call (Value.type "range") _) _ _ _); (k_here; k_dflt (refine' range1 (by (k_asm)) (by (k_asm)) ?_; k_whole); intro r' t1' t2' t3' h' tk' R' F' N')) | (((show wpAny _ _ (call (Value.ref 176) [Value.ref _]) _ _ _); refine stop_here ?_)) | (((show wpAny _ _ (call (Value.ref 176) [Value.ref _]) _ _ _); refine stop_here ?_)) | (((with_reducible show wpAny _ _ (call (Value.ref 218) _) _ _ _); refine stop_here ?_)) | (((with_reducible show wpAny _ _ (call (Value.ref 251) _) _ _ _); refine stop_here ?_)) | (((with_reducible show wpAny _ _ (call (Value.ref 186) _) _ _ _); refine stop_here ?_)) | ((k_here; (with_reducible show wpAny _ _ (call (Value.ref 153) _) _ _ _); k_dflt (refine' relnew_ok (by (walk_at "M here")) ?_; k_whole); intro h' tk' x' dx' t1' t2' t3' t4' t5' t6' F' N' l1' l2')) | ((k_here; (with_reducible show wpAny _ _ (call (Value.ref 125) _) _ _ _); k_dflt (refine' symnew_ok (by (walk_at "M here")) ?_; k_whole); intro h' tk' x' dx' t1' t2' t3' t4' F' N' l1' l2')) | ((with_reducible show wpAny _ _ (call (Value.type "dict") _) _ _ _); (k_here; (with_reducible show wpAny _ _ (call (Value.type "dict") [Value.ref _]) _ _ _); k_dflt (refine' dict_copy (knd := PySem.strKind _ _) (by (k_asm)) (by (k_asm)) (by (exact Top.nolimit (by k_asm))) (by (k_mem)) (by (assumption)) (by (assumption)) (by (assumption)) ?_; k_whole); intro h' o' d' F' N' l1' lo' hd'; (try k_lt l1'))) | (((with_reducible show wpAny _ _ (call (Value.ref 237) [Value.ref _]) _ _ _); refine stop_here ?_))) | ((with_reducible show wpAny _ _ (subscriptTail _ _ _ _) _ _ _); first | ((with_reducible show wpAny _ _ (subscriptTail (PySem.Expr.Name _ _) (PySem.Expr.Name _ _) (Value.ref _) (Value.str _ _)) _ _ _); (k_here; k_dflt (refine' kda_item (knd := PySem.strKind _ _) (by (k_asm)) (by (k_mem)) (by (assumption)) (strKind_is _ _ _ _) (by (assumption)) ?_))) | ((with_reducible show wpAny _ _ (subscriptTail (PySem.Expr.Name _ _) (PySem.Expr.Constant _ _ _) (Value.ref _) (Value.int _ _)) _ _ _); (k_here; k_dflt (refine' tup_item (by (k_asm)) (by (k_mem)) (by (decide)) (by (decide)) (by (exact rfl)) (by (exact rfl)) ?_)))) | ((with_reducible show wpAny _ _ (newTuple _) _ _ _); first | ((with_reducible show wpAny _ _ (newTuple _) _ _ _); (k_here; (with_reducible show wpAny _ _ (newTuple [Value.str _ _, Value.bytes _ _]) _ _ _); k_dflt (refine' kup_newTuple (by (k_asm)) (by (k_asm)) ?_ (by (size_fits)); k_whole); intro D' h' F' N' l1'; (try k_lt l1')))) | ((with_reducible show wpAny _ _ (compareOp _ _ _) _ _ _); first | ((with_reducible show wpAny _ _ (compareOp CmpOp.NotEq (Value.ref _) (Value.ref _)) _ _ _); (k_here; k_dflt (refine' dicts_same (by (k_asm)) (by (k_mem)) (by (k_mem)) (by (assumption)) (by (assumption)) (by (assumption)) (by (assumption)) (by (assumption)) (by (assumption)) (by (assumption)) (by (ktr_units)) ?_))) | ((with_reducible show wpAny _ _ (compareOp CmpOp.NotEq (Value.ref _) (Value.ref _)) _ _ _); (k_here; k_dflt (refine' told_same (by (k_asm)) (by (ktr_units)) (by (assumption)) (by (assumption)) ?_)))) | ((with_reducible show wpAny _ _ (exec _ _) _ _ _); first | ((with_reducible show wpAny _ _ (exec (PySem.Stmt.Try _ _ _ _ _) _) _ _ _); (refine wpAny_Try_except ?_)) | ((with_reducible show wpAny _ _ (exec (PySem.Stmt.For _ _ _ _ _) _) _ _ _); (k_here; (rename Fr _ _ _ _ => lF'); (with_unfolding_all refine' For_invVF lF' (by (exact rfl)) (by (exact rfl)) ?_; k_whole)))) | ((with_reducible show wpAny _ _ (binaryOp _ _ _) _ _ _); first | ((with_reducible show wpAny _ _ (binaryOp Operator.Pow (Value.int _ _) (Value.int _ _)) _ _ _); (k_here; (with_reducible refine pow2_x (by (decide)) (by (decide)) ?_)))) | ((with_reducible show wpAny _ _ (setItem _ _ _) _ _ _); first | ((with_reducible show wpAny _ _ (setItem (Value.ref _) (Value.str _ _) (Value.int _ _)) _ _ _); (k_here; k_dflt (refine' kda_set (knd := PySem.strKind _ _) (by (k_asm)) (by (k_asm)) (by (k_updF)) (by (assumption)) (strKind_is _ _ _ _) (by (assumption)) ?_); intro h' o' F' N' hd'; (try dsimp only at N')))) | ((fail_if_success (with_reducible show wpAny _ _ (pyIter _) _ _ _)); walk1) | (dsimp only; (fail_if_success (with_reducible show wpAny _ _ (pyIter _) _ _ _)); walk1) | (leave1; walk_say "STEP leave1"; try dsimp only) | fail "no step"))
        rename (All2 StrV _ (sortN _)) => hus
        refine compList (tJ1 _ secs) rfl (by assumption) (by assumption) (.head _) ?hszD ?hJD ⟨fun _ z => z, by rw [List.take_zero]; exact .nil⟩ ?turnD ?finD
        case hszD =>
          rw [List.size_toArray, hus.length, sortN_len, List.length_map, sizeLine_eq]; omega
        case hJD => rintro i ys n ⟨hb, -⟩; exact hb _ (.head _)
        case turnD =>
          intro i v ys ns h tk own C mc E' hi hJ0' off nsO hmc F1 N1
          refine Classical.byContradiction fun hG => ?_
          obtain ⟨hsub, hall⟩ := hJ0'
          rw [List.getElem?_toArray] at hi
          obtain ⟨nm, hnm, tn, rfl⟩ := hus.get hi
          rw [← sortN_map, List.getElem?_map] at hnm
          obtain ⟨p, hp, hpe⟩ := Option.map_eq_some_iff.mp hnm
          subst hpe
          obtain ⟨b, tb, hv, hb⟩ := kv_of_mem hkS hnd (sortN_mem (List.mem_of_getElem? hp))
          refine hG ?_
          clear hG
          have hNs := nsO h fun p hp => (N1 p (List.mem_append_right _ hp)).1
          have hS := List.mem_append_left own (hsub _ (.tail _ (.tail _ (.tail _ hdm2))))
          have hcell := List.mem_append_left own (hsub _ (.tail _ (.tail _ (.head _))))
          (repeat' (first | (k_unfold; (try dsimp only)) | ((with_reducible show wpAny _ _ (eval _ _) _ _ _); first | ((with_reducible show wpAny _ _ (eval (PySem.Expr.ListComp (PySem.Expr.Tuple _ _ _) _ _ _) _) _ _ _); (k_here; (rename Fr _ _ _ _ => lF'); (refine' ListComp_ownF lF' (by (exact rfl)) (by (decide)) (by (exact rfl)) (by (decide)) (by (exact rfl)) (by (intro _; exact rfl)) ?_; k_whole))) | ((with_reducible show wpAny _ _ (eval (PySem.Expr.Name _ _) _) _ _ _); (refine name_comp (by with_reducible assumption) (by with_reducible assumption) ?_)) | ((with_reducible show wpAny _ _ (eval (PySem.Expr.ListComp (PySem.Expr.Call _ _ _ _) _ _ _) _) _ _ _); (k_here; (rename Fr _ _ _ _ => lF'); (refine' ListComp_ownF lF' (by (exact rfl)) (by (decide)) (by (exact rfl)) (by (decide)) (by (exact rfl)) (by (intro _; exact rfl)) ?_; k_whole)))) | ((with_reducible show wpAny _ _ (call _ _) _ _ _); first | ((with_reducible show wpAny _ _ (call (Value.type "tuple") _) _ _ _); (k_here; (with_reducible show wpAny _ _ (call (Value.type _) [Value.ref _]) _ _ _); k_dflt (refine' kde_tupleOf (by (k_asm)) (by (k_asm)) (by (exact News.isList (by k_asm) (by k_mem))) (by ((rw [List.size_toArray]; omega))) rfl ?_; k_whole); intro D' h' F' N' l1')) | ((with_reducible show wpAny _ _ (call (Value.builtin "sorted") _) _ _ _); (k_here; k_dflt (refine' names_sorted (by (exact rfl)) (by (k_asm)) (by (k_asm)) (by (k_mem)) (by (assumption)) (by (assumption)) (by (assumption)) (by (assumption)) ?_; k_whole); intro us' c' B' h' tk' hus' F' N' l1'; (try k_lt l1'))) | ((k_here; (with_reducible show wpAny _ _ (call (Value.ref 225) [Value.ref _, Value.int _ _]) _ _ _); k_dflt (refine' draw_u (by (walk_at "M here")) (by (intro t1; k_upd)) (by (k_mem)) (by (assumption)) (by (exact List.length_take_le _ _)) (by (omega)) (by (omega)) (by (omega)) ?_; k_whole); intro v' t1' t2' h' tk' hv1' hv2' F' N')) | ((with_reducible show wpAny _ _ (call (Value.type "range") _) _ _ _); (k_here; k_dflt (refine' range1 (by (k_asm)) (by (k_asm)) ?_; k_whole); intro r' t1' t2' t3' h' tk' R' F' N')) | (((show wpAny _ _ (call (Value.ref 176) [Value.ref _]) _ _ _); refine stop_here ?_)) | (((show wpAny _ _ (call (Value.ref 176) [Value.ref _]) _ _ _); refine stop_here ?_)) | (((with_reducible show wpAny _ _ (call (Value.ref 218) _) _ _ _); refine stop_here ?_)) | (((with_reducible show wpAny _ _ (call (Value.ref 251) _) _ _ _); refine stop_here ?_)) | (((with_reducible show wpAny _ _ (call (Value.ref 186) _) _ _ _); refine stop_here ?_)) | ((k_here; (with_reducible show wpAny _ _ (call (Value.ref 153) _) _ _ _); k_dflt (refine' relnew_ok (by (walk_at "M here")) ?_; k_whole); intro h' tk' x' dx' t1' t2' t3' t4' t5' t6' F' N' l1' l2')) | ((k_here; (with_reducible show wpAny _ _ (call (Value.ref 125) _) _ _ _); k_dflt (refine' symnew_ok (by (walk_at "M here")) ?_; k_whole); intro h' tk' x' dx' t1' t2' t3' t4' F' N' l1' l2')) | ((with_reducible show wpAny _ _ (call (Value.type "dict") _) _ _ _); (k_here; (with_reducible show wpAny _ _ (call (Value.type "dict") [Value.ref _]) _ _ _); k_dflt (refine' dict_copy (knd := PySem.strKind _ _) (by (k_asm)) (by (k_asm)) (by (exact Top.nolimit (by k_asm))) (by (k_mem)) (by (assumption)) (by (assumption)) (by (assumption)) ?_; k_whole); intro h' o' d' F' N' l1' lo' hd'; (try k_lt l1'))) | (((with_reducible show wpAny _ _ (call (Value.ref 237) [Value.ref _]) _ _ _); refine stop_here ?_))) | ((with_reducible show wpAny _ _ (subscriptTail _ _ _ _) _ _ _); first | ((with_reducible show wpAny _ _ (subscriptTail (PySem.Expr.Name _ _) (PySem.Expr.Name _ _) (Value.ref _) (Value.str _ _)) _ _ _); (k_here; k_dflt (refine' kda_item (knd := PySem.strKind _ _) (by (k_asm)) (by (k_mem)) (by (assumption)) (strKind_is _ _ _ _) (by (assumption)) ?_))) | ((with_reducible show wpAny _ _ (subscriptTail (PySem.Expr.Name _ _) (PySem.Expr.Constant _ _ _) (Value.ref _) (Value.int _ _)) _ _ _); (k_here; k_dflt (refine' tup_item (by (k_asm)) (by (k_mem)) (by (decide)) (by (decide)) (by (exact rfl)) (by (exact rfl)) ?_)))) | ((with_reducible show wpAny _ _ (newTuple _) _ _ _); first | ((with_reducible show wpAny _ _ (newTuple _) _ _ _); (k_here; (with_reducible show wpAny _ _ (newTuple [Value.str _ _, Value.bytes _ _]) _ _ _); k_dflt (refine' kup_newTuple (by (k_asm)) (by (k_asm)) ?_ (by (size_fits)); k_whole); intro D' h' F' N' l1'; (try k_lt l1')))) | ((with_reducible show wpAny _ _ (compareOp _ _ _) _ _ _); first | ((with_reducible show wpAny _ _ (compareOp CmpOp.NotEq (Value.ref _) (Value.ref _)) _ _ _); (k_here; k_dflt (refine' dicts_same (by (k_asm)) (by (k_mem)) (by (k_mem)) (by (assumption)) (by (assumption)) (by (assumption)) (by (assumption)) (by (assumption)) (by (assumption)) (by (assumption)) (by (ktr_units)) ?_))) | ((with_reducible show wpAny _ _ (compareOp CmpOp.NotEq (Value.ref _) (Value.ref _)) _ _ _); (k_here; k_dflt (refine' told_same (by (k_asm)) (by (ktr_units)) (by (assumption)) (by (assumption)) ?_)))) | ((with_reducible show wpAny _ _ (exec _ _) _ _ _); first | ((with_reducible show wpAny _ _ (exec (PySem.Stmt.Try _ _ _ _ _) _) _ _ _); (refine wpAny_Try_except ?_)) | ((with_reducible show wpAny _ _ (exec (PySem.Stmt.For _ _ _ _ _) _) _ _ _); (k_here; (rename Fr _ _ _ _ => lF'); (with_unfolding_all refine' For_invVF lF' (by (exact rfl)) (by (exact rfl)) ?_; k_whole)))) | ((with_reducible show wpAny _ _ (binaryOp _ _ _) _ _ _); first | ((with_reducible show wpAny _ _ (binaryOp Operator.Pow (Value.int _ _) (Value.int _ _)) _ _ _); (k_here; (with_reducible refine pow2_x (by (decide)) (by (decide)) ?_)))) | ((with_reducible show wpAny _ _ (setItem _ _ _) _ _ _); first | ((with_reducible show wpAny _ _ (setItem (Value.ref _) (Value.str _ _) (Value.int _ _)) _ _ _); (k_here; k_dflt (refine' kda_set (knd := PySem.strKind _ _) (by (k_asm)) (by (k_asm)) (by (k_updF)) (by (assumption)) (strKind_is _ _ _ _) (by (assumption)) ?_); intro h' o' F' N' hd'; (try dsimp only at N')))) | ((fail_if_success (with_reducible show wpAny _ _ (pyIter _) _ _ _)); walk1) | (dsimp only; (fail_if_success (with_reducible show wpAny _ _ (pyIter _) _ _ _)); walk1) | (leave1; walk_say "STEP leave1"; try dsimp only) | fail "no step"))
          have NN := (by with_reducible assumption : News _ _ _ ((_, tup2 _ _) :: (ns ++ own)))
          refine comp_end (news' := (_, _) :: ns) (by assumption) NN rfl (off_new2 (by with_reducible assumption) off) ⟨fun p hp => .tail _ (hsub p hp), ?_⟩
          rw [List.take_add_one, hp]
          exact (hall.mono fun _ _ z => z.keeps fun p hp => .tail _ hp).snoc ⟨_, b, _, _, rfl, .head _, hb⟩
        case finD =>
          intro D1 ys c1 ns h tk H2 hJ0' hlen F1 N1 hne
          refine Classical.byContradiction fun hG => ?_
          obtain ⟨hsub, hall⟩ := hJ0'
          refine hG ?_
          clear hG
          rw [List.size_toArray, hus.length, sortN_len, List.length_map] at hlen
          rw [List.size_toArray, hus.length, sortN_len, List.length_map, ← sortN_len secs, List.take_length] at hall
          have hyl : ys.length ≤ 1000 := by omega
          have b2' := hsub _ (.tail _ (.tail _ (.tail _ b2)))
          have b3' := b3.mono fun _ _ z => z.keeps fun p hp => List.Mem.tail (D1, PySem.W.listOf (List.toArray ys) c1) (hsub _ (.tail _ (.tail _ (.tail _ hp))))
          have hall' := hall.mono fun _ _ z => z.keeps fun p hp => List.Mem.tail (D1, PySem.W.listOf (List.toArray ys) c1) hp
          (repeat' (first | (k_unfold; (try dsimp only)) | ((with_reducible show wpAny _ _ (eval _ _) _ _ _); first | ((with_reducible show wpAny _ _ (eval (PySem.Expr.ListComp (PySem.Expr.Tuple _ _ _) _ _ _) _) _ _ _); (k_here; (rename Fr _ _ _ _ => lF'); (refine' ListComp_ownF lF' (by (exact rfl)) (by (decide)) (by (exact rfl)) (by (decide)) (by (exact rfl)) (by (intro _; exact rfl)) ?_; k_whole))) | ((with_reducible show wpAny _ _ (eval (PySem.Expr.Name _ _) _) _ _ _); (refine name_comp (by with_reducible assumption) (by with_reducible assumption) ?_)) | ((with_reducible show wpAny _ _ (eval (PySem.Expr.ListComp (PySem.Expr.Call _ _ _ _) _ _ _) _) _ _ _); (k_here; (rename Fr _ _ _ _ => lF'); (refine' ListComp_ownF lF' (by (exact rfl)) (by (decide)) (by (exact rfl)) (by (decide)) (by (exact rfl)) (by (intro _; exact rfl)) ?_; k_whole)))) | ((with_reducible show wpAny _ _ (call _ _) _ _ _); first | ((with_reducible show wpAny _ _ (call (Value.type "tuple") _) _ _ _); (k_here; (with_reducible show wpAny _ _ (call (Value.type _) [Value.ref _]) _ _ _); k_dflt (refine' kde_tupleOf (by (k_asm)) (by (k_asm)) (by (exact News.isList (by k_asm) (by k_mem))) (by ((rw [List.size_toArray]; omega))) rfl ?_; k_whole); intro D' h' F' N' l1')) | ((with_reducible show wpAny _ _ (call (Value.builtin "sorted") _) _ _ _); (k_here; k_dflt (refine' names_sorted (by (exact rfl)) (by (k_asm)) (by (k_asm)) (by (k_mem)) (by (assumption)) (by (assumption)) (by (assumption)) (by (assumption)) ?_; k_whole); intro us' c' B' h' tk' hus' F' N' l1'; (try k_lt l1'))) | ((k_here; (with_reducible show wpAny _ _ (call (Value.ref 225) [Value.ref _, Value.int _ _]) _ _ _); k_dflt (refine' draw_u (by (walk_at "M here")) (by (intro t1; k_upd)) (by (k_mem)) (by (assumption)) (by (exact List.length_take_le _ _)) (by (omega)) (by (omega)) (by (omega)) ?_; k_whole); intro v' t1' t2' h' tk' hv1' hv2' F' N')) | ((with_reducible show wpAny _ _ (call (Value.type "range") _) _ _ _); (k_here; k_dflt (refine' range1 (by (k_asm)) (by (k_asm)) ?_; k_whole); intro r' t1' t2' t3' h' tk' R' F' N')) | (((show wpAny _ _ (call (Value.ref 176) [Value.ref _]) _ _ _); refine stop_here ?_)) | (((show wpAny _ _ (call (Value.ref 176) [Value.ref _]) _ _ _); refine stop_here ?_)) | (((with_reducible show wpAny _ _ (call (Value.ref 218) _) _ _ _); refine stop_here ?_)) | (((with_reducible show wpAny _ _ (call (Value.ref 251) _) _ _ _); refine stop_here ?_)) | (((with_reducible show wpAny _ _ (call (Value.ref 186) _) _ _ _); refine stop_here ?_)) | ((k_here; (with_reducible show wpAny _ _ (call (Value.ref 153) _) _ _ _); k_dflt (refine' relnew_ok (by (walk_at "M here")) ?_; k_whole); intro h' tk' x' dx' t1' t2' t3' t4' t5' t6' F' N' l1' l2')) | ((k_here; (with_reducible show wpAny _ _ (call (Value.ref 125) _) _ _ _); k_dflt (refine' symnew_ok (by (walk_at "M here")) ?_; k_whole); intro h' tk' x' dx' t1' t2' t3' t4' F' N' l1' l2')) | ((with_reducible show wpAny _ _ (call (Value.type "dict") _) _ _ _); (k_here; (with_reducible show wpAny _ _ (call (Value.type "dict") [Value.ref _]) _ _ _); k_dflt (refine' dict_copy (knd := PySem.strKind _ _) (by (k_asm)) (by (k_asm)) (by (exact Top.nolimit (by k_asm))) (by (k_mem)) (by (assumption)) (by (assumption)) (by (assumption)) ?_; k_whole); intro h' o' d' F' N' l1' lo' hd'; (try k_lt l1'))) | (((with_reducible show wpAny _ _ (call (Value.ref 237) [Value.ref _]) _ _ _); refine stop_here ?_))) | ((with_reducible show wpAny _ _ (subscriptTail _ _ _ _) _ _ _); first | ((with_reducible show wpAny _ _ (subscriptTail (PySem.Expr.Name _ _) (PySem.Expr.Name _ _) (Value.ref _) (Value.str _ _)) _ _ _); (k_here; k_dflt (refine' kda_item (knd := PySem.strKind _ _) (by (k_asm)) (by (k_mem)) (by (assumption)) (strKind_is _ _ _ _) (by (assumption)) ?_))) | ((with_reducible show wpAny _ _ (subscriptTail (PySem.Expr.Name _ _) (PySem.Expr.Constant _ _ _) (Value.ref _) (Value.int _ _)) _ _ _); (k_here; k_dflt (refine' tup_item (by (k_asm)) (by (k_mem)) (by (decide)) (by (decide)) (by (exact rfl)) (by (exact rfl)) ?_)))) | ((with_reducible show wpAny _ _ (newTuple _) _ _ _); first | ((with_reducible show wpAny _ _ (newTuple _) _ _ _); (k_here; (with_reducible show wpAny _ _ (newTuple [Value.str _ _, Value.bytes _ _]) _ _ _); k_dflt (refine' kup_newTuple (by (k_asm)) (by (k_asm)) ?_ (by (size_fits)); k_whole); intro D' h' F' N' l1'; (try k_lt l1')))) | ((with_reducible show wpAny _ _ (compareOp _ _ _) _ _ _); first | ((with_reducible show wpAny _ _ (compareOp CmpOp.NotEq (Value.ref _) (Value.ref _)) _ _ _); (k_here; k_dflt (refine' dicts_same (by (k_asm)) (by (k_mem)) (by (k_mem)) (by (assumption)) (by (assumption)) (by (assumption)) (by (assumption)) (by (assumption)) (by (assumption)) (by (assumption)) (by (ktr_units)) ?_))) | ((with_reducible show wpAny _ _ (compareOp CmpOp.NotEq (Value.ref _) (Value.ref _)) _ _ _); (k_here; k_dflt (refine' told_same (by (k_asm)) (by (ktr_units)) (by (assumption)) (by (assumption)) ?_)))) | ((with_reducible show wpAny _ _ (exec _ _) _ _ _); first | ((with_reducible show wpAny _ _ (exec (PySem.Stmt.Try _ _ _ _ _) _) _ _ _); (refine wpAny_Try_except ?_)) | ((with_reducible show wpAny _ _ (exec (PySem.Stmt.For _ _ _ _ _) _) _ _ _); (k_here; (rename Fr _ _ _ _ => lF'); (with_unfolding_all refine' For_invVF lF' (by (exact rfl)) (by (exact rfl)) ?_; k_whole)))) | ((with_reducible show wpAny _ _ (binaryOp _ _ _) _ _ _); first | ((with_reducible show wpAny _ _ (binaryOp Operator.Pow (Value.int _ _) (Value.int _ _)) _ _ _); (k_here; (with_reducible refine pow2_x (by (decide)) (by (decide)) ?_)))) | ((with_reducible show wpAny _ _ (setItem _ _ _) _ _ _); first | ((with_reducible show wpAny _ _ (setItem (Value.ref _) (Value.str _ _) (Value.int _ _)) _ _ _); (k_here; k_dflt (refine' kda_set (knd := PySem.strKind _ _) (by (k_asm)) (by (k_asm)) (by (k_updF)) (by (assumption)) (strKind_is _ _ _ _) (by (assumption)) ?_); intro h' o' F' N' hd'; (try dsimp only at N')))) | ((fail_if_success (with_reducible show wpAny _ _ (pyIter _) _ _ _)); walk1) | (dsimp only; (fail_if_success (with_reducible show wpAny _ _ (pyIter _) _ _ _)); walk1) | (leave1; walk_say "STEP leave1"; try dsimp only) | fail "no step"))
          refine pairs_cmp (P1 := P) (by k_asm) (by ktr_units) (.tail _ (.tail _ b2')) (.head _) (b3'.mono fun _ _ z => z.keeps fun p hp => .tail _ hp) (hall'.mono fun _ _ z => z.keeps fun p hp => .tail _ hp) ?_
          k_end
          wrow_close))
end

end
end Mine
theorem PySem.Challenge.cw_nn0048_01_holds : PySem.Challenge.rw_nn0048_01.Holds :=
  Mine.law_holds
