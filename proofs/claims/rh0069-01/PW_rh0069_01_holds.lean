import PyProof.Rows.All
import Wide.All
import OpenK.AllK
import Wide.FinOn
import Lean
import PySem.Challenge.RW_rh0069_01
open PySem PySem.W PyProof.Rows
set_option Elab.async false
set_option maxRecDepth 100000
set_option maxHeartbeats 80000000
set_option linter.unusedVariables false
set_option linter.unusedSimpArgs false
namespace Mine
section
noncomputable def st (i : Nat) : Stmt := PySem.Challenge.pw_rh0069_01.main.body.getD i (.Pass ⟨0, 0, 0, 0⟩)
noncomputable def mt (i k : Nat) : Stmt := match st i with
  | .ClassDef _ _ _ b _ _ _ _ _ _ _ => b.getD k (.Pass ⟨0, 0, 0, 0⟩)
  | _ => .Pass ⟨0, 0, 0, 0⟩
noncomputable def fnB : Stmt → List Stmt
  | .FunctionDef _ _ b _ _ _ _ _ _ _ => b
  | _ => []
noncomputable def fnA : Stmt → Arguments
  | .FunctionDef _ a _ _ _ _ _ _ _ _ => a
  | _ => { posonlyargs := [], args := [], vararg := none, kwonlyargs := [], kw_defaults := [], kwarg := none, defaults := [] }
noncomputable def fnS : Stmt → Scope
  | .FunctionDef _ _ _ _ _ _ s _ _ _ => s
  | _ => { kind := .function, names := [], isGenerator := false, isCoroutine := false }
noncomputable def vw : Program := { PySem.Challenge.pw_rh0069_01 with main := { PySem.Challenge.pw_rh0069_01.main with body := [((fun {l : Stmt} (_ : l = st 0) => l) (by conv => { rhs; whnf })), ((fun {l : Stmt} (_ : l = st 2) => l) (by conv => { rhs; whnf })), ((fun {l : Stmt} (_ : l = st 3) => l) (by conv => { rhs; whnf })), ((fun {l : Stmt} (_ : l = st 4) => l) (by conv => { rhs; whnf })), ((fun {l : Stmt} (_ : l = st 5) => l) (by conv => { rhs; whnf })), ((fun {l : Stmt} (_ : l = st 6) => l) (by conv => { rhs; whnf })), ((fun {l : Stmt} (_ : l = st 7) => l) (by conv => { rhs; whnf })), ((fun {l : Stmt} (_ : l = st 8) => l) (by conv => { rhs; whnf })), ((fun {l : Stmt} (_ : l = st 10) => l) (by conv => { rhs; whnf })), ((fun {l : Stmt} (_ : l = st 11) => l) (by conv => { rhs; whnf })), ((fun {l : Stmt} (_ : l = st 12) => l) (by conv => { rhs; whnf })), ((fun {l : Stmt} (_ : l = st 13) => l) (by conv => { rhs; whnf })), ((fun {l : Stmt} (_ : l = st 14) => l) (by conv => { rhs; whnf })), ((fun {l : Stmt} (_ : l = st 16) => l) (by conv => { rhs; whnf })), ((fun {l : Stmt} (_ : l = st 17) => l) (by conv => { rhs; whnf })), ((fun {l : Stmt} (_ : l = st 18) => l) (by conv => { rhs; whnf })), ((fun {l : Stmt} (_ : l = st 19) => l) (by conv => { rhs; whnf })), ((fun {l : Stmt} (_ : l = st 20) => l) (by conv => { rhs; whnf })), ((fun {l : Stmt} (_ : l = st 22) => l) (by conv => { rhs; whnf })), ((fun {l : Stmt} (_ : l = st 23) => l) (by conv => { rhs; whnf })), ((fun {l : Stmt} (_ : l = st 24) => l) (by conv => { rhs; whnf })), ((fun {l : Stmt} (_ : l = st 25) => l) (by conv => { rhs; whnf })), ((fun {l : Stmt} (_ : l = st 26) => l) (by conv => { rhs; whnf })), ((fun {l : Stmt} (_ : l = st 27) => l) (by conv => { rhs; whnf }))] } }
noncomputable def kk : Params → Frag := fun P =>
  (nat_lit 2,
      { cls := Value.none,
        data :=
          Data.dict
            #[{ hash := PyData.keyHash P (Str.ofString "type.__subclasses__.Exception.0"),
                key := Value.str (Str.ofString "type.__subclasses__.Exception.0") 212, val := Value.int 31 0 },
              { hash := PyData.keyHash P (Str.ofString "type.__subclasses__.Exception.n"),
                key := Value.str (Str.ofString "type.__subclasses__.Exception.n") 213, val := Value.int 1 0 }]
            2 }) ::
    (nat_lit 3,
      { cls := Value.type "dict",
        data :=
          Data.dict
            #[{ hash := PyData.keyHash P (Str.ofString "__name__"), key := Value.str (Str.ofString "__name__") 165,
                val := Value.str (Str.ofString "law_rh0069_01") 469 },
              { hash := PyData.keyHash P (Str.ofString "__doc__"), key := Value.str (Str.ofString "__doc__") 166,
                val := Value.none },
              { hash := PyData.keyHash P (Str.ofString "__package__"),
                key := Value.str (Str.ofString "__package__") 167, val := Value.none },
              { hash := PyData.keyHash P (Str.ofString "__loader__"), key := Value.str (Str.ofString "__loader__") 168,
                val := Value.builtin "__main__.__loader__#opaque" },
              { hash := PyData.keyHash P (Str.ofString "__spec__"), key := Value.str (Str.ofString "__spec__") 169,
                val := Value.none },
              { hash := PyData.keyHash P (Str.ofString "__annotations__"),
                key := Value.str (Str.ofString "__annotations__") 170, val := Value.ref 6 },
              { hash := PyData.keyHash P (Str.ofString "__builtins__"),
                key := Value.str (Str.ofString "__builtins__") 171, val := Value.ref 4 },
              { hash := PyData.keyHash P (Str.ofString "__file__"), key := Value.str (Str.ofString "__file__") 173,
                val := Value.str (Str.ofString "/claim/cut.py") 172 },
              { hash := PyData.keyHash P (Str.ofString "__cached__"), key := Value.str (Str.ofString "__cached__") 174,
                val := Value.none },
              { hash := PyData.keyHash P (Str.ofString "_wall"), key := Value.str (Str.ofString "_wall") 193,
                val := Value.ref 21 },
              { hash := PyData.keyHash P (Str.ofString "ClausemillError"),
                key := Value.str (Str.ofString "ClausemillError") 215, val := Value.ref 31 },
              { hash := PyData.keyHash P (Str.ofString "PrologError"),
                key := Value.str (Str.ofString "PrologError") 240, val := Value.ref 51 },
              { hash := PyData.keyHash P (Str.ofString "A_SYSTEM"), key := Value.str (Str.ofString "A_SYSTEM") 242,
                val := Value.int 25 241 },
              { hash := PyData.keyHash P (Str.ofString "F_ERROR"), key := Value.str (Str.ofString "F_ERROR") 244,
                val := Value.int 16 243 },
              { hash := PyData.keyHash P (Str.ofString "fixed_atoms"),
                key := Value.str (Str.ofString "fixed_atoms") 250, val := Value.ref 60 },
              { hash := PyData.keyHash P (Str.ofString "fixed_functors"),
                key := Value.str (Str.ofString "fixed_functors") 256, val := Value.ref 67 },
              { hash := PyData.keyHash P (Str.ofString "Symbols"), key := Value.str (Str.ofString "Symbols") 375,
                val := Value.ref 154 },
              { hash := PyData.keyHash P (Str.ofString "integer"), key := Value.str (Str.ofString "integer") 384,
                val := Value.ref 165 },
              { hash := PyData.keyHash P (Str.ofString "system_error"),
                key := Value.str (Str.ofString "system_error") 391, val := Value.ref 172 },
              { hash := PyData.keyHash P (Str.ofString "formal_of"), key := Value.str (Str.ofString "formal_of") 402,
                val := Value.ref 179 },
              { hash := PyData.keyHash P (Str.ofString "type_error"), key := Value.str (Str.ofString "type_error") 411,
                val := Value.ref 186 },
              { hash := PyData.keyHash P (Str.ofString "resource_error"),
                key := Value.str (Str.ofString "resource_error") 419, val := Value.ref 193 },
              { hash := PyData.keyHash P (Str.ofString "shift_left"), key := Value.str (Str.ofString "shift_left") 431,
                val := Value.ref 200 },
              { hash := PyData.keyHash P (Str.ofString "shift_right"),
                key := Value.str (Str.ofString "shift_right") 441, val := Value.ref 207 },
              { hash := PyData.keyHash P (Str.ofString "sign_of"), key := Value.str (Str.ofString "sign_of") 448,
                val := Value.ref 214 },
              { hash := PyData.keyHash P (Str.ofString "apply_unary"),
                key := Value.str (Str.ofString "apply_unary") 457, val := Value.ref 221 },
              { hash := PyData.keyHash P (Str.ofString "apply_bits"), key := Value.str (Str.ofString "apply_bits") 468,
                val := Value.ref 228 },
              { hash := PyData.keyHash P (Str.ofString "_law_draw"), key := Value.str (Str.ofString "_law_draw") 479,
                val := Value.ref 235 },
              { hash := PyData.keyHash P (Str.ofString "_law_whole"), key := Value.str (Str.ofString "_law_whole") 489,
                val := Value.ref 242 },
              { hash := PyData.keyHash P (Str.ofString "_law_bit"), key := Value.str (Str.ofString "_law_bit") 498,
                val := Value.ref 249 },
              { hash := PyData.keyHash P (Str.ofString "_law_read"), key := Value.str (Str.ofString "_law_read") 509,
                val := Value.ref 256 },
              { hash := PyData.keyHash P (Str.ofString "_law_of"), key := Value.str (Str.ofString "_law_of") 519,
                val := Value.ref 263 },
              { hash := PyData.keyHash P (Str.ofString "law"), key := Value.str (Str.ofString "law") 525,
                val := Value.ref 268 }]
            33 }) ::
    (nat_lit 15, { cls := Value.type "tuple", data := Data.seq #[] }) ::
    (nat_lit 17, { cls := Value.type "tuple", data := Data.seq #[Value.str (Str.ofString "k") 190] }) ::
    (nat_lit 18, { cls := Value.type "tuple", data := Data.seq #[] }) ::
    (nat_lit 20,
      { cls := Value.type "code",
        data :=
          Data.fields
            #[Value.str (Str.ofString "_wall") 187, Value.str (Str.ofString "_wall") 188,
              Value.str (Str.ofString "/claim/cut.py") 189, Value.int 1 0, Value.int 1 0, Value.int 0 0, Value.int 0 0,
              Value.int 3 0, Value.ref 15, Value.bool true, Value.int 181 0, Value.ref 16, Value.none, Value.ref 17,
              Value.ref 18, Value.ref 19, Value.int 191 0, Value.int 1 0,
              Value.str (Str.ofString "/claim/cut.py") 192] }) ::
    (nat_lit 21,
      { cls := Value.type "function",
        data :=
          Data.func
            { name := Str.ofString "_wall", qualname := Str.ofString "_wall",
              params := ((fun {l : Arguments} (_ : l = fnA (st 0)) => l) (by conv => { rhs; whnf })), body := FuncBody.stmts ((fun {l : List Stmt} (_ : l = fnB (st 0)) => l) (by conv => { rhs; whnf })), scope := ((fun {l : Scope} (_ : l = fnS (st 0)) => l) (by conv => { rhs; whnf })),
              globals := 3, closure := [], defaults := Value.none, kwdefaults := Value.none,
              pyModule := Value.str (Str.ofString "__main__") 164, code := Value.ref 20 } }) ::
    (nat_lit 22, { cls := Value.type "tuple", data := Data.seq #[Value.type "Exception"] }) ::
    (nat_lit 29, { cls := Value.type "tuple", data := Data.seq #[] }) ::
    (nat_lit 30,
      { cls := Value.type "dict",
        data :=
          Data.dict
            #[{ hash := PyData.keyHash P (Str.ofString "__module__"), key := Value.str (Str.ofString "__module__") 203,
                val := Value.str (Str.ofString "clausemill.symbols") 194 },
              { hash := PyData.keyHash P (Str.ofString "__firstlineno__"),
                key := Value.str (Str.ofString "__firstlineno__") 207, val := Value.int 5 206 },
              { hash := PyData.keyHash P (Str.ofString "__static_attributes__"),
                key := Value.str (Str.ofString "__static_attributes__") 208, val := Value.ref 29 },
              { hash := PyData.keyHash P (Str.ofString "__weakref__"),
                key := Value.str (Str.ofString "__weakref__") 210, val := Value.ref 32 },
              { hash := PyData.keyHash P (Str.ofString "__doc__"), key := Value.str (Str.ofString "__doc__") 211,
                val := Value.none }]
            3 }) ::
    (nat_lit 31,
      { cls := Value.type "type",
        data :=
          Data.cls
            { name := Str.ofString "ClausemillError", bases := [Value.type "Exception"],
              mro := [Value.ref 31, Value.type "Exception", Value.type "BaseException", Value.type "object"], ns := 30,
              qualname := Str.ofString "ClausemillError", subclasses := [Value.ref 51] },
        slots :=
          #[some (Value.ref 22), none, some (Value.str (Str.ofString "ClausemillError") 196),
            some (Value.str (Str.ofString "ClausemillError") 204), some (Value.builtin "Exception.__new__"),
            some (Value.bool true)] }) ::
    (nat_lit 32,
      { cls := Value.type "getset_descriptor",
        data :=
          Data.fields
            #[Value.str (Str.ofString "__weakref__") 209, Value.ref 31, Value.builtin "ExceptionGroup.__weakref__",
              Value.none] }) ::
    (nat_lit 35, { cls := Value.type "tuple", data := Data.seq #[Value.ref 31] }) ::
    (nat_lit 42, { cls := Value.type "tuple", data := Data.seq #[] }) ::
    (nat_lit 44,
      { cls := Value.type "tuple",
        data := Data.seq #[Value.str (Str.ofString "self") 231, Value.str (Str.ofString "ball") 232] }) ::
    (nat_lit 45, { cls := Value.type "tuple", data := Data.seq #[] }) ::
    (nat_lit 47,
      { cls := Value.type "code",
        data :=
          Data.fields
            #[Value.str (Str.ofString "__init__") 228, Value.str (Str.ofString "PrologError.__init__") 229,
              Value.str (Str.ofString "/claim/cut.py") 230, Value.int 9 0, Value.int 2 0, Value.int 0 0, Value.int 0 0,
              Value.int 3 0, Value.ref 42, Value.bool true, Value.int 181 0, Value.ref 43, Value.none, Value.ref 44,
              Value.ref 45, Value.ref 46, Value.int 233 0, Value.int 9 0,
              Value.str (Str.ofString "/claim/cut.py") 234] }) ::
    (nat_lit 48,
      { cls := Value.type "function",
        data :=
          Data.func
            { name := Str.ofString "__init__", qualname := Str.ofString "PrologError.__init__",
              params := ((fun {l : Arguments} (_ : l = fnA (mt 3 0)) => l) (by conv => { rhs; whnf })), body := FuncBody.stmts ((fun {l : List Stmt} (_ : l = fnB (mt 3 0)) => l) (by conv => { rhs; whnf })), scope := ((fun {l : Scope} (_ : l = fnS (mt 3 0)) => l) (by conv => { rhs; whnf })),
              globals := 3, closure := [], defaults := Value.none, kwdefaults := Value.none,
              pyModule := Value.str (Str.ofString "clausemill.symbols") 194, code := Value.ref 47 } }) ::
    (nat_lit 49, { cls := Value.type "tuple", data := Data.seq #[Value.str (Str.ofString "ball") 236] }) ::
    (nat_lit 50,
      { cls := Value.type "dict",
        data :=
          Data.dict
            #[{ hash := PyData.keyHash P (Str.ofString "__module__"), key := Value.str (Str.ofString "__module__") 223,
                val := Value.str (Str.ofString "clausemill.symbols") 194 },
              { hash := PyData.keyHash P (Str.ofString "__firstlineno__"),
                key := Value.str (Str.ofString "__firstlineno__") 227, val := Value.int 7 226 },
              { hash := PyData.keyHash P (Str.ofString "__init__"), key := Value.str (Str.ofString "__init__") 235,
                val := Value.ref 48 },
              { hash := PyData.keyHash P (Str.ofString "__static_attributes__"),
                key := Value.str (Str.ofString "__static_attributes__") 237, val := Value.ref 49 },
              { hash := PyData.keyHash P (Str.ofString "__doc__"), key := Value.str (Str.ofString "__doc__") 238,
                val := Value.none }]
            2 }) ::
    (nat_lit 51,
      { cls := Value.type "type",
        data :=
          Data.cls
            { name := Str.ofString "PrologError", bases := [Value.ref 31],
              mro :=
                [Value.ref 51, Value.ref 31, Value.type "Exception", Value.type "BaseException", Value.type "object"],
              ns := 50, qualname := Str.ofString "PrologError" },
        slots :=
          #[some (Value.ref 35), none, some (Value.str (Str.ofString "PrologError") 216),
            some (Value.str (Str.ofString "PrologError") 224), some (Value.builtin "Exception.__new__"),
            some (Value.bool true)] }) ::
    (nat_lit 54, { cls := Value.type "tuple", data := Data.seq #[] }) ::
    (nat_lit 56, { cls := Value.type "tuple", data := Data.seq #[] }) ::
    (nat_lit 57, { cls := Value.type "tuple", data := Data.seq #[] }) ::
    (nat_lit 59,
      { cls := Value.type "code",
        data :=
          Data.fields
            #[Value.str (Str.ofString "fixed_atoms") 245, Value.str (Str.ofString "fixed_atoms") 246,
              Value.str (Str.ofString "/claim/cut.py") 247, Value.int 13 0, Value.int 0 0, Value.int 0 0, Value.int 0 0,
              Value.int 3 0, Value.ref 54, Value.bool true, Value.int 181 0, Value.ref 55, Value.none, Value.ref 56,
              Value.ref 57, Value.ref 58, Value.int 248 0, Value.int 13 0,
              Value.str (Str.ofString "/claim/cut.py") 249] }) ::
    (nat_lit 60,
      { cls := Value.type "function",
        data :=
          Data.func
            { name := Str.ofString "fixed_atoms", qualname := Str.ofString "fixed_atoms",
              params := ((fun {l : Arguments} (_ : l = fnA (st 6)) => l) (by conv => { rhs; whnf })), body := FuncBody.stmts ((fun {l : List Stmt} (_ : l = fnB (st 6)) => l) (by conv => { rhs; whnf })), scope := ((fun {l : Scope} (_ : l = fnS (st 6)) => l) (by conv => { rhs; whnf })),
              globals := 3, closure := [], defaults := Value.none, kwdefaults := Value.none,
              pyModule := Value.str (Str.ofString "clausemill.symbols") 194, code := Value.ref 59 } }) ::
    (nat_lit 61, { cls := Value.type "tuple", data := Data.seq #[] }) ::
    (nat_lit 63, { cls := Value.type "tuple", data := Data.seq #[] }) ::
    (nat_lit 64, { cls := Value.type "tuple", data := Data.seq #[] }) ::
    (nat_lit 66,
      { cls := Value.type "code",
        data :=
          Data.fields
            #[Value.str (Str.ofString "fixed_functors") 251, Value.str (Str.ofString "fixed_functors") 252,
              Value.str (Str.ofString "/claim/cut.py") 253, Value.int 15 0, Value.int 0 0, Value.int 0 0, Value.int 0 0,
              Value.int 3 0, Value.ref 61, Value.bool true, Value.int 181 0, Value.ref 62, Value.none, Value.ref 63,
              Value.ref 64, Value.ref 65, Value.int 254 0, Value.int 15 0,
              Value.str (Str.ofString "/claim/cut.py") 255] }) ::
    (nat_lit 67,
      { cls := Value.type "function",
        data :=
          Data.func
            { name := Str.ofString "fixed_functors", qualname := Str.ofString "fixed_functors",
              params := ((fun {l : Arguments} (_ : l = fnA (st 7)) => l) (by conv => { rhs; whnf })), body := FuncBody.stmts ((fun {l : List Stmt} (_ : l = fnB (st 7)) => l) (by conv => { rhs; whnf })), scope := ((fun {l : Scope} (_ : l = fnS (st 7)) => l) (by conv => { rhs; whnf })),
              globals := 3, closure := [], defaults := Value.none, kwdefaults := Value.none,
              pyModule := Value.str (Str.ofString "clausemill.symbols") 194, code := Value.ref 66 } }) ::
    (nat_lit 75, { cls := Value.type "tuple", data := Data.seq #[] }) ::
    (nat_lit 77,
      { cls := Value.type "tuple",
        data :=
          Data.seq
            #[Value.str (Str.ofString "self") 272, Value.str (Str.ofString "text") 273,
              Value.str (Str.ofString "row") 274] }) ::
    (nat_lit 78, { cls := Value.type "tuple", data := Data.seq #[] }) ::
    (nat_lit 80,
      { cls := Value.type "code",
        data :=
          Data.fields
            #[Value.str (Str.ofString "__init__") 269, Value.str (Str.ofString "Symbols.__init__") 270,
              Value.str (Str.ofString "/claim/cut.py") 271, Value.int 19 0, Value.int 1 0, Value.int 0 0, Value.int 0 0,
              Value.int 3 0, Value.ref 75, Value.bool true, Value.int 181 0, Value.ref 76, Value.none, Value.ref 77,
              Value.ref 78, Value.ref 79, Value.int 275 0, Value.int 19 0,
              Value.str (Str.ofString "/claim/cut.py") 276] }) ::
    (nat_lit 81,
      { cls := Value.type "function",
        data :=
          Data.func
            { name := Str.ofString "__init__", qualname := Str.ofString "Symbols.__init__",
              params := ((fun {l : Arguments} (_ : l = fnA (mt 8 0)) => l) (by conv => { rhs; whnf })), body := FuncBody.stmts ((fun {l : List Stmt} (_ : l = fnB (mt 8 0)) => l) (by conv => { rhs; whnf })), scope := ((fun {l : Scope} (_ : l = fnS (mt 8 0)) => l) (by conv => { rhs; whnf })),
              globals := 3, closure := [], defaults := Value.none, kwdefaults := Value.none,
              pyModule := Value.str (Str.ofString "clausemill.symbols") 194, code := Value.ref 80 } }) ::
    (nat_lit 82, { cls := Value.type "tuple", data := Data.seq #[] }) ::
    (nat_lit 84,
      { cls := Value.type "tuple",
        data :=
          Data.seq
            #[Value.str (Str.ofString "self") 281, Value.str (Str.ofString "text") 282,
              Value.str (Str.ofString "found") 283, Value.str (Str.ofString "number") 284] }) ::
    (nat_lit 85, { cls := Value.type "tuple", data := Data.seq #[] }) ::
    (nat_lit 87,
      { cls := Value.type "code",
        data :=
          Data.fields
            #[Value.str (Str.ofString "atom") 278, Value.str (Str.ofString "Symbols.atom") 279,
              Value.str (Str.ofString "/claim/cut.py") 280, Value.int 29 0, Value.int 2 0, Value.int 0 0, Value.int 0 0,
              Value.int 3 0, Value.ref 82, Value.bool true, Value.int 181 0, Value.ref 83, Value.none, Value.ref 84,
              Value.ref 85, Value.ref 86, Value.int 285 0, Value.int 29 0,
              Value.str (Str.ofString "/claim/cut.py") 286] }) ::
    (nat_lit 88,
      { cls := Value.type "function",
        data :=
          Data.func
            { name := Str.ofString "atom", qualname := Str.ofString "Symbols.atom",
              params := ((fun {l : Arguments} (_ : l = fnA (mt 8 1)) => l) (by conv => { rhs; whnf })), body := FuncBody.stmts ((fun {l : List Stmt} (_ : l = fnB (mt 8 1)) => l) (by conv => { rhs; whnf })), scope := ((fun {l : Scope} (_ : l = fnS (mt 8 1)) => l) (by conv => { rhs; whnf })),
              globals := 3, closure := [], defaults := Value.none, kwdefaults := Value.none,
              pyModule := Value.str (Str.ofString "clausemill.symbols") 194, code := Value.ref 87 } }) ::
    (nat_lit 89, { cls := Value.type "tuple", data := Data.seq #[] }) ::
    (nat_lit 91,
      { cls := Value.type "tuple",
        data := Data.seq #[Value.str (Str.ofString "self") 291, Value.str (Str.ofString "number") 292] }) ::
    (nat_lit 92, { cls := Value.type "tuple", data := Data.seq #[] }) ::
    (nat_lit 94,
      { cls := Value.type "code",
        data :=
          Data.fields
            #[Value.str (Str.ofString "text") 288, Value.str (Str.ofString "Symbols.text") 289,
              Value.str (Str.ofString "/claim/cut.py") 290, Value.int 38 0, Value.int 2 0, Value.int 0 0, Value.int 0 0,
              Value.int 3 0, Value.ref 89, Value.bool true, Value.int 181 0, Value.ref 90, Value.none, Value.ref 91,
              Value.ref 92, Value.ref 93, Value.int 293 0, Value.int 38 0,
              Value.str (Str.ofString "/claim/cut.py") 294] }) ::
    (nat_lit 95,
      { cls := Value.type "function",
        data :=
          Data.func
            { name := Str.ofString "text", qualname := Str.ofString "Symbols.text",
              params := ((fun {l : Arguments} (_ : l = fnA (mt 8 2)) => l) (by conv => { rhs; whnf })), body := FuncBody.stmts ((fun {l : List Stmt} (_ : l = fnB (mt 8 2)) => l) (by conv => { rhs; whnf })), scope := ((fun {l : Scope} (_ : l = fnS (mt 8 2)) => l) (by conv => { rhs; whnf })),
              globals := 3, closure := [], defaults := Value.none, kwdefaults := Value.none,
              pyModule := Value.str (Str.ofString "clausemill.symbols") 194, code := Value.ref 94 } }) ::
    (nat_lit 96, { cls := Value.type "tuple", data := Data.seq #[] }) ::
    (nat_lit 98,
      { cls := Value.type "tuple",
        data :=
          Data.seq
            #[Value.str (Str.ofString "self") 299, Value.str (Str.ofString "atom") 300,
              Value.str (Str.ofString "arity") 301, Value.str (Str.ofString "key") 302,
              Value.str (Str.ofString "found") 303, Value.str (Str.ofString "number") 304] }) ::
    (nat_lit 99, { cls := Value.type "tuple", data := Data.seq #[] }) ::
    (nat_lit 101,
      { cls := Value.type "code",
        data :=
          Data.fields
            #[Value.str (Str.ofString "functor") 296, Value.str (Str.ofString "Symbols.functor") 297,
              Value.str (Str.ofString "/claim/cut.py") 298, Value.int 41 0, Value.int 3 0, Value.int 0 0, Value.int 0 0,
              Value.int 3 0, Value.ref 96, Value.bool true, Value.int 181 0, Value.ref 97, Value.none, Value.ref 98,
              Value.ref 99, Value.ref 100, Value.int 305 0, Value.int 41 0,
              Value.str (Str.ofString "/claim/cut.py") 306] }) ::
    (nat_lit 102,
      { cls := Value.type "function",
        data :=
          Data.func
            { name := Str.ofString "functor", qualname := Str.ofString "Symbols.functor",
              params := ((fun {l : Arguments} (_ : l = fnA (mt 8 3)) => l) (by conv => { rhs; whnf })), body := FuncBody.stmts ((fun {l : List Stmt} (_ : l = fnB (mt 8 3)) => l) (by conv => { rhs; whnf })), scope := ((fun {l : Scope} (_ : l = fnS (mt 8 3)) => l) (by conv => { rhs; whnf })),
              globals := 3, closure := [], defaults := Value.none, kwdefaults := Value.none,
              pyModule := Value.str (Str.ofString "clausemill.symbols") 194, code := Value.ref 101 } }) ::
    (nat_lit 103, { cls := Value.type "tuple", data := Data.seq #[] }) ::
    (nat_lit 105,
      { cls := Value.type "tuple",
        data :=
          Data.seq
            #[Value.str (Str.ofString "self") 311, Value.str (Str.ofString "text") 312,
              Value.str (Str.ofString "arity") 313] }) ::
    (nat_lit 106, { cls := Value.type "tuple", data := Data.seq #[] }) ::
    (nat_lit 108,
      { cls := Value.type "code",
        data :=
          Data.fields
            #[Value.str (Str.ofString "func") 308, Value.str (Str.ofString "Symbols.func") 309,
              Value.str (Str.ofString "/claim/cut.py") 310, Value.int 51 0, Value.int 3 0, Value.int 0 0, Value.int 0 0,
              Value.int 3 0, Value.ref 103, Value.bool true, Value.int 181 0, Value.ref 104, Value.none, Value.ref 105,
              Value.ref 106, Value.ref 107, Value.int 314 0, Value.int 51 0,
              Value.str (Str.ofString "/claim/cut.py") 315] }) ::
    (nat_lit 109,
      { cls := Value.type "function",
        data :=
          Data.func
            { name := Str.ofString "func", qualname := Str.ofString "Symbols.func",
              params := ((fun {l : Arguments} (_ : l = fnA (mt 8 4)) => l) (by conv => { rhs; whnf })), body := FuncBody.stmts ((fun {l : List Stmt} (_ : l = fnB (mt 8 4)) => l) (by conv => { rhs; whnf })), scope := ((fun {l : Scope} (_ : l = fnS (mt 8 4)) => l) (by conv => { rhs; whnf })),
              globals := 3, closure := [], defaults := Value.none, kwdefaults := Value.none,
              pyModule := Value.str (Str.ofString "clausemill.symbols") 194, code := Value.ref 108 } }) ::
    (nat_lit 110, { cls := Value.type "tuple", data := Data.seq #[] }) ::
    (nat_lit 112,
      { cls := Value.type "tuple",
        data := Data.seq #[Value.str (Str.ofString "self") 320, Value.str (Str.ofString "functor") 321] }) ::
    (nat_lit 113, { cls := Value.type "tuple", data := Data.seq #[] }) ::
    (nat_lit 115,
      { cls := Value.type "code",
        data :=
          Data.fields
            #[Value.str (Str.ofString "name") 317, Value.str (Str.ofString "Symbols.name") 318,
              Value.str (Str.ofString "/claim/cut.py") 319, Value.int 54 0, Value.int 2 0, Value.int 0 0, Value.int 0 0,
              Value.int 3 0, Value.ref 110, Value.bool true, Value.int 181 0, Value.ref 111, Value.none, Value.ref 112,
              Value.ref 113, Value.ref 114, Value.int 322 0, Value.int 54 0,
              Value.str (Str.ofString "/claim/cut.py") 323] }) ::
    (nat_lit 116,
      { cls := Value.type "function",
        data :=
          Data.func
            { name := Str.ofString "name", qualname := Str.ofString "Symbols.name",
              params := ((fun {l : Arguments} (_ : l = fnA (mt 8 5)) => l) (by conv => { rhs; whnf })), body := FuncBody.stmts ((fun {l : List Stmt} (_ : l = fnB (mt 8 5)) => l) (by conv => { rhs; whnf })), scope := ((fun {l : Scope} (_ : l = fnS (mt 8 5)) => l) (by conv => { rhs; whnf })),
              globals := 3, closure := [], defaults := Value.none, kwdefaults := Value.none,
              pyModule := Value.str (Str.ofString "clausemill.symbols") 194, code := Value.ref 115 } }) ::
    (nat_lit 117, { cls := Value.type "tuple", data := Data.seq #[] }) ::
    (nat_lit 119,
      { cls := Value.type "tuple",
        data := Data.seq #[Value.str (Str.ofString "self") 328, Value.str (Str.ofString "functor") 329] }) ::
    (nat_lit 120, { cls := Value.type "tuple", data := Data.seq #[] }) ::
    (nat_lit 122,
      { cls := Value.type "code",
        data :=
          Data.fields
            #[Value.str (Str.ofString "arity") 325, Value.str (Str.ofString "Symbols.arity") 326,
              Value.str (Str.ofString "/claim/cut.py") 327, Value.int 57 0, Value.int 2 0, Value.int 0 0, Value.int 0 0,
              Value.int 3 0, Value.ref 117, Value.bool true, Value.int 181 0, Value.ref 118, Value.none, Value.ref 119,
              Value.ref 120, Value.ref 121, Value.int 330 0, Value.int 57 0,
              Value.str (Str.ofString "/claim/cut.py") 331] }) ::
    (nat_lit 123,
      { cls := Value.type "function",
        data :=
          Data.func
            { name := Str.ofString "arity", qualname := Str.ofString "Symbols.arity",
              params := ((fun {l : Arguments} (_ : l = fnA (mt 8 6)) => l) (by conv => { rhs; whnf })), body := FuncBody.stmts ((fun {l : List Stmt} (_ : l = fnB (mt 8 6)) => l) (by conv => { rhs; whnf })), scope := ((fun {l : Scope} (_ : l = fnS (mt 8 6)) => l) (by conv => { rhs; whnf })),
              globals := 3, closure := [], defaults := Value.none, kwdefaults := Value.none,
              pyModule := Value.str (Str.ofString "clausemill.symbols") 194, code := Value.ref 122 } }) ::
    (nat_lit 124, { cls := Value.type "tuple", data := Data.seq #[] }) ::
    (nat_lit 126,
      { cls := Value.type "tuple",
        data := Data.seq #[Value.str (Str.ofString "self") 336, Value.str (Str.ofString "functor") 337] }) ::
    (nat_lit 127, { cls := Value.type "tuple", data := Data.seq #[] }) ::
    (nat_lit 129,
      { cls := Value.type "code",
        data :=
          Data.fields
            #[Value.str (Str.ofString "label") 333, Value.str (Str.ofString "Symbols.label") 334,
              Value.str (Str.ofString "/claim/cut.py") 335, Value.int 60 0, Value.int 2 0, Value.int 0 0, Value.int 0 0,
              Value.int 3 0, Value.ref 124, Value.bool true, Value.int 181 0, Value.ref 125, Value.none, Value.ref 126,
              Value.ref 127, Value.ref 128, Value.int 338 0, Value.int 60 0,
              Value.str (Str.ofString "/claim/cut.py") 339] }) ::
    (nat_lit 130,
      { cls := Value.type "function",
        data :=
          Data.func
            { name := Str.ofString "label", qualname := Str.ofString "Symbols.label",
              params := ((fun {l : Arguments} (_ : l = fnA (mt 8 7)) => l) (by conv => { rhs; whnf })), body := FuncBody.stmts ((fun {l : List Stmt} (_ : l = fnB (mt 8 7)) => l) (by conv => { rhs; whnf })), scope := ((fun {l : Scope} (_ : l = fnS (mt 8 7)) => l) (by conv => { rhs; whnf })),
              globals := 3, closure := [], defaults := Value.none, kwdefaults := Value.none,
              pyModule := Value.str (Str.ofString "clausemill.symbols") 194, code := Value.ref 129 } }) ::
    (nat_lit 131, { cls := Value.type "tuple", data := Data.seq #[] }) ::
    (nat_lit 133, { cls := Value.type "tuple", data := Data.seq #[Value.str (Str.ofString "self") 344] }) ::
    (nat_lit 134, { cls := Value.type "tuple", data := Data.seq #[] }) ::
    (nat_lit 136,
      { cls := Value.type "code",
        data :=
          Data.fields
            #[Value.str (Str.ofString "count") 341, Value.str (Str.ofString "Symbols.count") 342,
              Value.str (Str.ofString "/claim/cut.py") 343, Value.int 63 0, Value.int 1 0, Value.int 0 0, Value.int 0 0,
              Value.int 3 0, Value.ref 131, Value.bool true, Value.int 181 0, Value.ref 132, Value.none, Value.ref 133,
              Value.ref 134, Value.ref 135, Value.int 345 0, Value.int 63 0,
              Value.str (Str.ofString "/claim/cut.py") 346] }) ::
    (nat_lit 137,
      { cls := Value.type "function",
        data :=
          Data.func
            { name := Str.ofString "count", qualname := Str.ofString "Symbols.count",
              params := ((fun {l : Arguments} (_ : l = fnA (mt 8 8)) => l) (by conv => { rhs; whnf })), body := FuncBody.stmts ((fun {l : List Stmt} (_ : l = fnB (mt 8 8)) => l) (by conv => { rhs; whnf })), scope := ((fun {l : Scope} (_ : l = fnS (mt 8 8)) => l) (by conv => { rhs; whnf })),
              globals := 3, closure := [], defaults := Value.none, kwdefaults := Value.none,
              pyModule := Value.str (Str.ofString "clausemill.symbols") 194, code := Value.ref 136 } }) ::
    (nat_lit 138, { cls := Value.type "tuple", data := Data.seq #[] }) ::
    (nat_lit 140, { cls := Value.type "tuple", data := Data.seq #[Value.str (Str.ofString "self") 351] }) ::
    (nat_lit 141, { cls := Value.type "tuple", data := Data.seq #[] }) ::
    (nat_lit 143,
      { cls := Value.type "code",
        data :=
          Data.fields
            #[Value.str (Str.ofString "functor_count") 348, Value.str (Str.ofString "Symbols.functor_count") 349,
              Value.str (Str.ofString "/claim/cut.py") 350, Value.int 66 0, Value.int 1 0, Value.int 0 0, Value.int 0 0,
              Value.int 3 0, Value.ref 138, Value.bool true, Value.int 181 0, Value.ref 139, Value.none, Value.ref 140,
              Value.ref 141, Value.ref 142, Value.int 352 0, Value.int 66 0,
              Value.str (Str.ofString "/claim/cut.py") 353] }) ::
    (nat_lit 144,
      { cls := Value.type "function",
        data :=
          Data.func
            { name := Str.ofString "functor_count", qualname := Str.ofString "Symbols.functor_count",
              params := ((fun {l : Arguments} (_ : l = fnA (mt 8 9)) => l) (by conv => { rhs; whnf })), body := FuncBody.stmts ((fun {l : List Stmt} (_ : l = fnB (mt 8 9)) => l) (by conv => { rhs; whnf })), scope := ((fun {l : Scope} (_ : l = fnS (mt 8 9)) => l) (by conv => { rhs; whnf })),
              globals := 3, closure := [], defaults := Value.none, kwdefaults := Value.none,
              pyModule := Value.str (Str.ofString "clausemill.symbols") 194, code := Value.ref 143 } }) ::
    (nat_lit 145, { cls := Value.type "tuple", data := Data.seq #[] }) ::
    (nat_lit 147,
      { cls := Value.type "tuple",
        data :=
          Data.seq
            #[Value.str (Str.ofString "self") 358, Value.str (Str.ofString "text") 359,
              Value.str (Str.ofString "arity") 360] }) ::
    (nat_lit 148, { cls := Value.type "tuple", data := Data.seq #[] }) ::
    (nat_lit 150,
      { cls := Value.type "code",
        data :=
          Data.fields
            #[Value.str (Str.ofString "known") 355, Value.str (Str.ofString "Symbols.known") 356,
              Value.str (Str.ofString "/claim/cut.py") 357, Value.int 69 0, Value.int 3 0, Value.int 0 0, Value.int 0 0,
              Value.int 3 0, Value.ref 145, Value.bool true, Value.int 181 0, Value.ref 146, Value.none, Value.ref 147,
              Value.ref 148, Value.ref 149, Value.int 361 0, Value.int 69 0,
              Value.str (Str.ofString "/claim/cut.py") 362] }) ::
    (nat_lit 151,
      { cls := Value.type "function",
        data :=
          Data.func
            { name := Str.ofString "known", qualname := Str.ofString "Symbols.known",
              params := ((fun {l : Arguments} (_ : l = fnA (mt 8 10)) => l) (by conv => { rhs; whnf })), body := FuncBody.stmts ((fun {l : List Stmt} (_ : l = fnB (mt 8 10)) => l) (by conv => { rhs; whnf })), scope := ((fun {l : Scope} (_ : l = fnS (mt 8 10)) => l) (by conv => { rhs; whnf })),
              globals := 3, closure := [], defaults := Value.none, kwdefaults := Value.none,
              pyModule := Value.str (Str.ofString "clausemill.symbols") 194, code := Value.ref 150 } }) ::
    (nat_lit 152,
      { cls := Value.type "tuple",
        data :=
          Data.seq
            #[Value.str (Str.ofString "atom_numbers") 364, Value.str (Str.ofString "functor_numbers") 365,
              Value.str (Str.ofString "functors") 366, Value.str (Str.ofString "texts") 367] }) ::
    (nat_lit 153,
      { cls := Value.type "dict",
        data :=
          Data.dict
            #[{ hash := PyData.keyHash P (Str.ofString "__module__"), key := Value.str (Str.ofString "__module__") 264,
                val := Value.str (Str.ofString "clausemill.symbols") 194 },
              { hash := PyData.keyHash P (Str.ofString "__firstlineno__"),
                key := Value.str (Str.ofString "__firstlineno__") 268, val := Value.int 17 267 },
              { hash := PyData.keyHash P (Str.ofString "__init__"), key := Value.str (Str.ofString "__init__") 277,
                val := Value.ref 81 },
              { hash := PyData.keyHash P (Str.ofString "atom"), key := Value.str (Str.ofString "atom") 287,
                val := Value.ref 88 },
              { hash := PyData.keyHash P (Str.ofString "text"), key := Value.str (Str.ofString "text") 295,
                val := Value.ref 95 },
              { hash := PyData.keyHash P (Str.ofString "functor"), key := Value.str (Str.ofString "functor") 307,
                val := Value.ref 102 },
              { hash := PyData.keyHash P (Str.ofString "func"), key := Value.str (Str.ofString "func") 316,
                val := Value.ref 109 },
              { hash := PyData.keyHash P (Str.ofString "name"), key := Value.str (Str.ofString "name") 324,
                val := Value.ref 116 },
              { hash := PyData.keyHash P (Str.ofString "arity"), key := Value.str (Str.ofString "arity") 332,
                val := Value.ref 123 },
              { hash := PyData.keyHash P (Str.ofString "label"), key := Value.str (Str.ofString "label") 340,
                val := Value.ref 130 },
              { hash := PyData.keyHash P (Str.ofString "count"), key := Value.str (Str.ofString "count") 347,
                val := Value.ref 137 },
              { hash := PyData.keyHash P (Str.ofString "functor_count"),
                key := Value.str (Str.ofString "functor_count") 354, val := Value.ref 144 },
              { hash := PyData.keyHash P (Str.ofString "known"), key := Value.str (Str.ofString "known") 363,
                val := Value.ref 151 },
              { hash := PyData.keyHash P (Str.ofString "__static_attributes__"),
                key := Value.str (Str.ofString "__static_attributes__") 368, val := Value.ref 152 },
              { hash := PyData.keyHash P (Str.ofString "__dict__"), key := Value.str (Str.ofString "__dict__") 370,
                val := Value.ref 155 },
              { hash := PyData.keyHash P (Str.ofString "__weakref__"),
                key := Value.str (Str.ofString "__weakref__") 372, val := Value.ref 156 },
              { hash := PyData.keyHash P (Str.ofString "__doc__"), key := Value.str (Str.ofString "__doc__") 373,
                val := Value.none }]
            4 }) ::
    (nat_lit 154,
      { cls := Value.type "type",
        data :=
          Data.cls
            { name := Str.ofString "Symbols", bases := [Value.type "object"],
              mro := [Value.ref 154, Value.type "object"], ns := 153, qualname := Str.ofString "Symbols" },
        slots :=
          #[none, none, some (Value.str (Str.ofString "Symbols") 257), some (Value.str (Str.ofString "Symbols") 265),
            some (Value.builtin "object.__new__"), some (Value.bool true)] }) ::
    (nat_lit 155,
      { cls := Value.type "getset_descriptor",
        data :=
          Data.fields
            #[Value.str (Str.ofString "__dict__") 369, Value.ref 154, Value.builtin "function.__dict__",
              Value.builtin "function.__dict__#set"] }) ::
    (nat_lit 156,
      { cls := Value.type "getset_descriptor",
        data :=
          Data.fields
            #[Value.str (Str.ofString "__weakref__") 371, Value.ref 154, Value.builtin "ExceptionGroup.__weakref__",
              Value.none] }) ::
    (nat_lit 159, { cls := Value.type "tuple", data := Data.seq #[] }) ::
    (nat_lit 161, { cls := Value.type "tuple", data := Data.seq #[Value.str (Str.ofString "whole") 381] }) ::
    (nat_lit 162, { cls := Value.type "tuple", data := Data.seq #[] }) ::
    (nat_lit 164,
      { cls := Value.type "code",
        data :=
          Data.fields
            #[Value.str (Str.ofString "integer") 378, Value.str (Str.ofString "integer") 379,
              Value.str (Str.ofString "/claim/cut.py") 380, Value.int 72 0, Value.int 1 0, Value.int 0 0, Value.int 0 0,
              Value.int 3 0, Value.ref 159, Value.bool true, Value.int 181 0, Value.ref 160, Value.none, Value.ref 161,
              Value.ref 162, Value.ref 163, Value.int 382 0, Value.int 72 0,
              Value.str (Str.ofString "/claim/cut.py") 383] }) ::
    (nat_lit 165,
      { cls := Value.type "function",
        data :=
          Data.func
            { name := Str.ofString "integer", qualname := Str.ofString "integer",
              params := ((fun {l : Arguments} (_ : l = fnA (st 10)) => l) (by conv => { rhs; whnf })), body := FuncBody.stmts ((fun {l : List Stmt} (_ : l = fnB (st 10)) => l) (by conv => { rhs; whnf })), scope := ((fun {l : Scope} (_ : l = fnS (st 10)) => l) (by conv => { rhs; whnf })),
              globals := 3, closure := [], defaults := Value.none, kwdefaults := Value.none,
              pyModule := Value.str (Str.ofString "clausemill.terms") 376, code := Value.ref 164 } }) ::
    (nat_lit 166, { cls := Value.type "tuple", data := Data.seq #[] }) ::
    (nat_lit 168, { cls := Value.type "tuple", data := Data.seq #[Value.str (Str.ofString "formal") 388] }) ::
    (nat_lit 169, { cls := Value.type "tuple", data := Data.seq #[] }) ::
    (nat_lit 171,
      { cls := Value.type "code",
        data :=
          Data.fields
            #[Value.str (Str.ofString "system_error") 385, Value.str (Str.ofString "system_error") 386,
              Value.str (Str.ofString "/claim/cut.py") 387, Value.int 74 0, Value.int 1 0, Value.int 0 0, Value.int 0 0,
              Value.int 3 0, Value.ref 166, Value.bool true, Value.int 181 0, Value.ref 167, Value.none, Value.ref 168,
              Value.ref 169, Value.ref 170, Value.int 389 0, Value.int 74 0,
              Value.str (Str.ofString "/claim/cut.py") 390] }) ::
    (nat_lit 172,
      { cls := Value.type "function",
        data :=
          Data.func
            { name := Str.ofString "system_error", qualname := Str.ofString "system_error",
              params := ((fun {l : Arguments} (_ : l = fnA (st 11)) => l) (by conv => { rhs; whnf })), body := FuncBody.stmts ((fun {l : List Stmt} (_ : l = fnB (st 11)) => l) (by conv => { rhs; whnf })), scope := ((fun {l : Scope} (_ : l = fnS (st 11)) => l) (by conv => { rhs; whnf })),
              globals := 3, closure := [], defaults := Value.none, kwdefaults := Value.none,
              pyModule := Value.str (Str.ofString "clausemill.terms") 376, code := Value.ref 171 } }) ::
    (nat_lit 173, { cls := Value.type "tuple", data := Data.seq #[] }) ::
    (nat_lit 175,
      { cls := Value.type "tuple",
        data :=
          Data.seq
            #[Value.str (Str.ofString "symbols") 395, Value.str (Str.ofString "name") 396,
              Value.str (Str.ofString "parts") 397, Value.str (Str.ofString "args") 398,
              Value.str (Str.ofString "part") 399] }) ::
    (nat_lit 176, { cls := Value.type "tuple", data := Data.seq #[] }) ::
    (nat_lit 178,
      { cls := Value.type "code",
        data :=
          Data.fields
            #[Value.str (Str.ofString "formal_of") 392, Value.str (Str.ofString "formal_of") 393,
              Value.str (Str.ofString "/claim/cut.py") 394, Value.int 76 0, Value.int 3 0, Value.int 0 0, Value.int 0 0,
              Value.int 3 0, Value.ref 173, Value.bool true, Value.int 181 0, Value.ref 174, Value.none, Value.ref 175,
              Value.ref 176, Value.ref 177, Value.int 400 0, Value.int 76 0,
              Value.str (Str.ofString "/claim/cut.py") 401] }) ::
    (nat_lit 179,
      { cls := Value.type "function",
        data :=
          Data.func
            { name := Str.ofString "formal_of", qualname := Str.ofString "formal_of",
              params := ((fun {l : Arguments} (_ : l = fnA (st 12)) => l) (by conv => { rhs; whnf })), body := FuncBody.stmts ((fun {l : List Stmt} (_ : l = fnB (st 12)) => l) (by conv => { rhs; whnf })), scope := ((fun {l : Scope} (_ : l = fnS (st 12)) => l) (by conv => { rhs; whnf })),
              globals := 3, closure := [], defaults := Value.none, kwdefaults := Value.none,
              pyModule := Value.str (Str.ofString "clausemill.terms") 376, code := Value.ref 178 } }) ::
    (nat_lit 180, { cls := Value.type "tuple", data := Data.seq #[] }) ::
    (nat_lit 182,
      { cls := Value.type "tuple",
        data :=
          Data.seq
            #[Value.str (Str.ofString "symbols") 406, Value.str (Str.ofString "kind") 407,
              Value.str (Str.ofString "culprit") 408] }) ::
    (nat_lit 183, { cls := Value.type "tuple", data := Data.seq #[] }) ::
    (nat_lit 185,
      { cls := Value.type "code",
        data :=
          Data.fields
            #[Value.str (Str.ofString "type_error") 403, Value.str (Str.ofString "type_error") 404,
              Value.str (Str.ofString "/claim/cut.py") 405, Value.int 81 0, Value.int 3 0, Value.int 0 0, Value.int 0 0,
              Value.int 3 0, Value.ref 180, Value.bool true, Value.int 181 0, Value.ref 181, Value.none, Value.ref 182,
              Value.ref 183, Value.ref 184, Value.int 409 0, Value.int 81 0,
              Value.str (Str.ofString "/claim/cut.py") 410] }) ::
    (nat_lit 186,
      { cls := Value.type "function",
        data :=
          Data.func
            { name := Str.ofString "type_error", qualname := Str.ofString "type_error",
              params := ((fun {l : Arguments} (_ : l = fnA (st 13)) => l) (by conv => { rhs; whnf })), body := FuncBody.stmts ((fun {l : List Stmt} (_ : l = fnB (st 13)) => l) (by conv => { rhs; whnf })), scope := ((fun {l : Scope} (_ : l = fnS (st 13)) => l) (by conv => { rhs; whnf })),
              globals := 3, closure := [], defaults := Value.none, kwdefaults := Value.none,
              pyModule := Value.str (Str.ofString "clausemill.terms") 376, code := Value.ref 185 } }) ::
    (nat_lit 187, { cls := Value.type "tuple", data := Data.seq #[] }) ::
    (nat_lit 189,
      { cls := Value.type "tuple",
        data := Data.seq #[Value.str (Str.ofString "symbols") 415, Value.str (Str.ofString "what") 416] }) ::
    (nat_lit 190, { cls := Value.type "tuple", data := Data.seq #[] }) ::
    (nat_lit 192,
      { cls := Value.type "code",
        data :=
          Data.fields
            #[Value.str (Str.ofString "resource_error") 412, Value.str (Str.ofString "resource_error") 413,
              Value.str (Str.ofString "/claim/cut.py") 414, Value.int 83 0, Value.int 2 0, Value.int 0 0, Value.int 0 0,
              Value.int 3 0, Value.ref 187, Value.bool true, Value.int 181 0, Value.ref 188, Value.none, Value.ref 189,
              Value.ref 190, Value.ref 191, Value.int 417 0, Value.int 83 0,
              Value.str (Str.ofString "/claim/cut.py") 418] }) ::
    (nat_lit 193,
      { cls := Value.type "function",
        data :=
          Data.func
            { name := Str.ofString "resource_error", qualname := Str.ofString "resource_error",
              params := ((fun {l : Arguments} (_ : l = fnA (st 14)) => l) (by conv => { rhs; whnf })), body := FuncBody.stmts ((fun {l : List Stmt} (_ : l = fnB (st 14)) => l) (by conv => { rhs; whnf })), scope := ((fun {l : Scope} (_ : l = fnS (st 14)) => l) (by conv => { rhs; whnf })),
              globals := 3, closure := [], defaults := Value.none, kwdefaults := Value.none,
              pyModule := Value.str (Str.ofString "clausemill.terms") 376, code := Value.ref 192 } }) ::
    (nat_lit 194, { cls := Value.type "tuple", data := Data.seq #[] }) ::
    (nat_lit 196,
      { cls := Value.type "tuple",
        data :=
          Data.seq
            #[Value.str (Str.ofString "symbols") 425, Value.str (Str.ofString "value") 426,
              Value.str (Str.ofString "count") 427, Value.str (Str.ofString "max_bits") 428] }) ::
    (nat_lit 197, { cls := Value.type "tuple", data := Data.seq #[] }) ::
    (nat_lit 199,
      { cls := Value.type "code",
        data :=
          Data.fields
            #[Value.str (Str.ofString "shift_left") 422, Value.str (Str.ofString "shift_left") 423,
              Value.str (Str.ofString "/claim/cut.py") 424, Value.int 86 0, Value.int 4 0, Value.int 0 0, Value.int 0 0,
              Value.int 3 0, Value.ref 194, Value.bool true, Value.int 181 0, Value.ref 195, Value.none, Value.ref 196,
              Value.ref 197, Value.ref 198, Value.int 429 0, Value.int 86 0,
              Value.str (Str.ofString "/claim/cut.py") 430] }) ::
    (nat_lit 200,
      { cls := Value.type "function",
        data :=
          Data.func
            { name := Str.ofString "shift_left", qualname := Str.ofString "shift_left",
              params := ((fun {l : Arguments} (_ : l = fnA (st 16)) => l) (by conv => { rhs; whnf })), body := FuncBody.stmts ((fun {l : List Stmt} (_ : l = fnB (st 16)) => l) (by conv => { rhs; whnf })), scope := ((fun {l : Scope} (_ : l = fnS (st 16)) => l) (by conv => { rhs; whnf })),
              globals := 3, closure := [], defaults := Value.none, kwdefaults := Value.none,
              pyModule := Value.str (Str.ofString "clausemill.arith") 420, code := Value.ref 199 } }) ::
    (nat_lit 201, { cls := Value.type "tuple", data := Data.seq #[] }) ::
    (nat_lit 203,
      { cls := Value.type "tuple",
        data :=
          Data.seq
            #[Value.str (Str.ofString "symbols") 435, Value.str (Str.ofString "value") 436,
              Value.str (Str.ofString "count") 437, Value.str (Str.ofString "max_bits") 438] }) ::
    (nat_lit 204, { cls := Value.type "tuple", data := Data.seq #[] }) ::
    (nat_lit 206,
      { cls := Value.type "code",
        data :=
          Data.fields
            #[Value.str (Str.ofString "shift_right") 432, Value.str (Str.ofString "shift_right") 433,
              Value.str (Str.ofString "/claim/cut.py") 434, Value.int 94 0, Value.int 4 0, Value.int 0 0, Value.int 0 0,
              Value.int 3 0, Value.ref 201, Value.bool true, Value.int 181 0, Value.ref 202, Value.none, Value.ref 203,
              Value.ref 204, Value.ref 205, Value.int 439 0, Value.int 94 0,
              Value.str (Str.ofString "/claim/cut.py") 440] }) ::
    (nat_lit 207,
      { cls := Value.type "function",
        data :=
          Data.func
            { name := Str.ofString "shift_right", qualname := Str.ofString "shift_right",
              params := ((fun {l : Arguments} (_ : l = fnA (st 17)) => l) (by conv => { rhs; whnf })), body := FuncBody.stmts ((fun {l : List Stmt} (_ : l = fnB (st 17)) => l) (by conv => { rhs; whnf })), scope := ((fun {l : Scope} (_ : l = fnS (st 17)) => l) (by conv => { rhs; whnf })),
              globals := 3, closure := [], defaults := Value.none, kwdefaults := Value.none,
              pyModule := Value.str (Str.ofString "clausemill.arith") 420, code := Value.ref 206 } }) ::
    (nat_lit 208, { cls := Value.type "tuple", data := Data.seq #[] }) ::
    (nat_lit 210, { cls := Value.type "tuple", data := Data.seq #[Value.str (Str.ofString "value") 445] }) ::
    (nat_lit 211, { cls := Value.type "tuple", data := Data.seq #[] }) ::
    (nat_lit 213,
      { cls := Value.type "code",
        data :=
          Data.fields
            #[Value.str (Str.ofString "sign_of") 442, Value.str (Str.ofString "sign_of") 443,
              Value.str (Str.ofString "/claim/cut.py") 444, Value.int 102 0, Value.int 1 0, Value.int 0 0,
              Value.int 0 0, Value.int 3 0, Value.ref 208, Value.bool true, Value.int 181 0, Value.ref 209, Value.none,
              Value.ref 210, Value.ref 211, Value.ref 212, Value.int 446 0, Value.int 102 0,
              Value.str (Str.ofString "/claim/cut.py") 447] }) ::
    (nat_lit 214,
      { cls := Value.type "function",
        data :=
          Data.func
            { name := Str.ofString "sign_of", qualname := Str.ofString "sign_of",
              params := ((fun {l : Arguments} (_ : l = fnA (st 18)) => l) (by conv => { rhs; whnf })), body := FuncBody.stmts ((fun {l : List Stmt} (_ : l = fnB (st 18)) => l) (by conv => { rhs; whnf })), scope := ((fun {l : Scope} (_ : l = fnS (st 18)) => l) (by conv => { rhs; whnf })),
              globals := 3, closure := [], defaults := Value.none, kwdefaults := Value.none,
              pyModule := Value.str (Str.ofString "clausemill.arith") 420, code := Value.ref 213 } }) ::
    (nat_lit 215, { cls := Value.type "tuple", data := Data.seq #[] }) ::
    (nat_lit 217,
      { cls := Value.type "tuple",
        data :=
          Data.seq
            #[Value.str (Str.ofString "symbols") 452, Value.str (Str.ofString "text") 453,
              Value.str (Str.ofString "value") 454] }) ::
    (nat_lit 218, { cls := Value.type "tuple", data := Data.seq #[] }) ::
    (nat_lit 220,
      { cls := Value.type "code",
        data :=
          Data.fields
            #[Value.str (Str.ofString "apply_unary") 449, Value.str (Str.ofString "apply_unary") 450,
              Value.str (Str.ofString "/claim/cut.py") 451, Value.int 108 0, Value.int 3 0, Value.int 0 0,
              Value.int 0 0, Value.int 3 0, Value.ref 215, Value.bool true, Value.int 181 0, Value.ref 216, Value.none,
              Value.ref 217, Value.ref 218, Value.ref 219, Value.int 455 0, Value.int 108 0,
              Value.str (Str.ofString "/claim/cut.py") 456] }) ::
    (nat_lit 221,
      { cls := Value.type "function",
        data :=
          Data.func
            { name := Str.ofString "apply_unary", qualname := Str.ofString "apply_unary",
              params := ((fun {l : Arguments} (_ : l = fnA (st 19)) => l) (by conv => { rhs; whnf })), body := FuncBody.stmts ((fun {l : List Stmt} (_ : l = fnB (st 19)) => l) (by conv => { rhs; whnf })), scope := ((fun {l : Scope} (_ : l = fnS (st 19)) => l) (by conv => { rhs; whnf })),
              globals := 3, closure := [], defaults := Value.none, kwdefaults := Value.none,
              pyModule := Value.str (Str.ofString "clausemill.arith") 420, code := Value.ref 220 } }) ::
    (nat_lit 222, { cls := Value.type "tuple", data := Data.seq #[] }) ::
    (nat_lit 224,
      { cls := Value.type "tuple",
        data :=
          Data.seq
            #[Value.str (Str.ofString "symbols") 461, Value.str (Str.ofString "text") 462,
              Value.str (Str.ofString "first") 463, Value.str (Str.ofString "second") 464,
              Value.str (Str.ofString "max_bits") 465] }) ::
    (nat_lit 225, { cls := Value.type "tuple", data := Data.seq #[] }) ::
    (nat_lit 227,
      { cls := Value.type "code",
        data :=
          Data.fields
            #[Value.str (Str.ofString "apply_bits") 458, Value.str (Str.ofString "apply_bits") 459,
              Value.str (Str.ofString "/claim/cut.py") 460, Value.int 124 0, Value.int 5 0, Value.int 0 0,
              Value.int 0 0, Value.int 3 0, Value.ref 222, Value.bool true, Value.int 181 0, Value.ref 223, Value.none,
              Value.ref 224, Value.ref 225, Value.ref 226, Value.int 466 0, Value.int 124 0,
              Value.str (Str.ofString "/claim/cut.py") 467] }) ::
    (nat_lit 228,
      { cls := Value.type "function",
        data :=
          Data.func
            { name := Str.ofString "apply_bits", qualname := Str.ofString "apply_bits",
              params := ((fun {l : Arguments} (_ : l = fnA (st 20)) => l) (by conv => { rhs; whnf })), body := FuncBody.stmts ((fun {l : List Stmt} (_ : l = fnB (st 20)) => l) (by conv => { rhs; whnf })), scope := ((fun {l : Scope} (_ : l = fnS (st 20)) => l) (by conv => { rhs; whnf })),
              globals := 3, closure := [], defaults := Value.none, kwdefaults := Value.none,
              pyModule := Value.str (Str.ofString "clausemill.arith") 420, code := Value.ref 227 } }) ::
    (nat_lit 229, { cls := Value.type "tuple", data := Data.seq #[] }) ::
    (nat_lit 231,
      { cls := Value.type "tuple",
        data :=
          Data.seq
            #[Value.str (Str.ofString "pool") 474, Value.str (Str.ofString "limit") 475,
              Value.str (Str.ofString "digit") 476] }) ::
    (nat_lit 232, { cls := Value.type "tuple", data := Data.seq #[] }) ::
    (nat_lit 234,
      { cls := Value.type "code",
        data :=
          Data.fields
            #[Value.str (Str.ofString "_law_draw") 471, Value.str (Str.ofString "_law_draw") 472,
              Value.str (Str.ofString "/claim/cut.py") 473, Value.int 135 0, Value.int 2 0, Value.int 0 0,
              Value.int 0 0, Value.int 3 0, Value.ref 229, Value.bool true, Value.int 181 0, Value.ref 230, Value.none,
              Value.ref 231, Value.ref 232, Value.ref 233, Value.int 477 0, Value.int 135 0,
              Value.str (Str.ofString "/claim/cut.py") 478] }) ::
    (nat_lit 235,
      { cls := Value.type "function",
        data :=
          Data.func
            { name := Str.ofString "_law_draw", qualname := Str.ofString "_law_draw",
              params := ((fun {l : Arguments} (_ : l = fnA (st 22)) => l) (by conv => { rhs; whnf })), body := FuncBody.stmts ((fun {l : List Stmt} (_ : l = fnB (st 22)) => l) (by conv => { rhs; whnf })), scope := ((fun {l : Scope} (_ : l = fnS (st 22)) => l) (by conv => { rhs; whnf })),
              globals := 3, closure := [], defaults := Value.none, kwdefaults := Value.none,
              pyModule := Value.str (Str.ofString "law_rh0069_01") 469, code := Value.ref 234 } }) ::
    (nat_lit 236, { cls := Value.type "tuple", data := Data.seq #[] }) ::
    (nat_lit 238,
      { cls := Value.type "tuple",
        data :=
          Data.seq
            #[Value.str (Str.ofString "pool") 483, Value.str (Str.ofString "kind") 484,
              Value.str (Str.ofString "near") 485, Value.str (Str.ofString "edge") 486] }) ::
    (nat_lit 239, { cls := Value.type "tuple", data := Data.seq #[] }) ::
    (nat_lit 241,
      { cls := Value.type "code",
        data :=
          Data.fields
            #[Value.str (Str.ofString "_law_whole") 480, Value.str (Str.ofString "_law_whole") 481,
              Value.str (Str.ofString "/claim/cut.py") 482, Value.int 145 0, Value.int 1 0, Value.int 0 0,
              Value.int 0 0, Value.int 3 0, Value.ref 236, Value.bool true, Value.int 181 0, Value.ref 237, Value.none,
              Value.ref 238, Value.ref 239, Value.ref 240, Value.int 487 0, Value.int 145 0,
              Value.str (Str.ofString "/claim/cut.py") 488] }) ::
    (nat_lit 242,
      { cls := Value.type "function",
        data :=
          Data.func
            { name := Str.ofString "_law_whole", qualname := Str.ofString "_law_whole",
              params := ((fun {l : Arguments} (_ : l = fnA (st 23)) => l) (by conv => { rhs; whnf })), body := FuncBody.stmts ((fun {l : List Stmt} (_ : l = fnB (st 23)) => l) (by conv => { rhs; whnf })), scope := ((fun {l : Scope} (_ : l = fnS (st 23)) => l) (by conv => { rhs; whnf })),
              globals := 3, closure := [], defaults := Value.none, kwdefaults := Value.none,
              pyModule := Value.str (Str.ofString "law_rh0069_01") 469, code := Value.ref 241 } }) ::
    (nat_lit 243, { cls := Value.type "tuple", data := Data.seq #[] }) ::
    (nat_lit 245,
      { cls := Value.type "tuple",
        data :=
          Data.seq
            #[Value.str (Str.ofString "word") 493, Value.str (Str.ofString "one") 494,
              Value.str (Str.ofString "other") 495] }) ::
    (nat_lit 246, { cls := Value.type "tuple", data := Data.seq #[] }) ::
    (nat_lit 248,
      { cls := Value.type "code",
        data :=
          Data.fields
            #[Value.str (Str.ofString "_law_bit") 490, Value.str (Str.ofString "_law_bit") 491,
              Value.str (Str.ofString "/claim/cut.py") 492, Value.int 154 0, Value.int 3 0, Value.int 0 0,
              Value.int 0 0, Value.int 3 0, Value.ref 243, Value.bool true, Value.int 181 0, Value.ref 244, Value.none,
              Value.ref 245, Value.ref 246, Value.ref 247, Value.int 496 0, Value.int 154 0,
              Value.str (Str.ofString "/claim/cut.py") 497] }) ::
    (nat_lit 249,
      { cls := Value.type "function",
        data :=
          Data.func
            { name := Str.ofString "_law_bit", qualname := Str.ofString "_law_bit",
              params := ((fun {l : Arguments} (_ : l = fnA (st 24)) => l) (by conv => { rhs; whnf })), body := FuncBody.stmts ((fun {l : List Stmt} (_ : l = fnB (st 24)) => l) (by conv => { rhs; whnf })), scope := ((fun {l : Scope} (_ : l = fnS (st 24)) => l) (by conv => { rhs; whnf })),
              globals := 3, closure := [], defaults := Value.none, kwdefaults := Value.none,
              pyModule := Value.str (Str.ofString "law_rh0069_01") 469, code := Value.ref 248 } }) ::
    (nat_lit 250, { cls := Value.type "tuple", data := Data.seq #[] }) ::
    (nat_lit 252,
      { cls := Value.type "tuple",
        data :=
          Data.seq
            #[Value.str (Str.ofString "word") 502, Value.str (Str.ofString "one") 503,
              Value.str (Str.ofString "other") 504, Value.str (Str.ofString "total") 505,
              Value.str (Str.ofString "weight") 506] }) ::
    (nat_lit 253, { cls := Value.type "tuple", data := Data.seq #[] }) ::
    (nat_lit 255,
      { cls := Value.type "code",
        data :=
          Data.fields
            #[Value.str (Str.ofString "_law_read") 499, Value.str (Str.ofString "_law_read") 500,
              Value.str (Str.ofString "/claim/cut.py") 501, Value.int 160 0, Value.int 3 0, Value.int 0 0,
              Value.int 0 0, Value.int 3 0, Value.ref 250, Value.bool true, Value.int 181 0, Value.ref 251, Value.none,
              Value.ref 252, Value.ref 253, Value.ref 254, Value.int 507 0, Value.int 160 0,
              Value.str (Str.ofString "/claim/cut.py") 508] }) ::
    (nat_lit 256,
      { cls := Value.type "function",
        data :=
          Data.func
            { name := Str.ofString "_law_read", qualname := Str.ofString "_law_read",
              params := ((fun {l : Arguments} (_ : l = fnA (st 25)) => l) (by conv => { rhs; whnf })), body := FuncBody.stmts ((fun {l : List Stmt} (_ : l = fnB (st 25)) => l) (by conv => { rhs; whnf })), scope := ((fun {l : Scope} (_ : l = fnS (st 25)) => l) (by conv => { rhs; whnf })),
              globals := 3, closure := [], defaults := Value.none, kwdefaults := Value.none,
              pyModule := Value.str (Str.ofString "law_rh0069_01") 469, code := Value.ref 255 } }) ::
    (nat_lit 257, { cls := Value.type "tuple", data := Data.seq #[] }) ::
    (nat_lit 259,
      { cls := Value.type "tuple",
        data :=
          Data.seq
            #[Value.str (Str.ofString "names") 513, Value.str (Str.ofString "word") 514,
              Value.str (Str.ofString "one") 515, Value.str (Str.ofString "other") 516] }) ::
    (nat_lit 260, { cls := Value.type "tuple", data := Data.seq #[] }) ::
    (nat_lit 262,
      { cls := Value.type "code",
        data :=
          Data.fields
            #[Value.str (Str.ofString "_law_of") 510, Value.str (Str.ofString "_law_of") 511,
              Value.str (Str.ofString "/claim/cut.py") 512, Value.int 169 0, Value.int 4 0, Value.int 0 0,
              Value.int 0 0, Value.int 3 0, Value.ref 257, Value.bool true, Value.int 181 0, Value.ref 258, Value.none,
              Value.ref 259, Value.ref 260, Value.ref 261, Value.int 517 0, Value.int 169 0,
              Value.str (Str.ofString "/claim/cut.py") 518] }) ::
    (nat_lit 263,
      { cls := Value.type "function",
        data :=
          Data.func
            { name := Str.ofString "_law_of", qualname := Str.ofString "_law_of",
              params := ((fun {l : Arguments} (_ : l = fnA (st 26)) => l) (by conv => { rhs; whnf })), body := FuncBody.stmts ((fun {l : List Stmt} (_ : l = fnB (st 26)) => l) (by conv => { rhs; whnf })), scope := ((fun {l : Scope} (_ : l = fnS (st 26)) => l) (by conv => { rhs; whnf })),
              globals := 3, closure := [], defaults := Value.none, kwdefaults := Value.none,
              pyModule := Value.str (Str.ofString "law_rh0069_01") 469, code := Value.ref 262 } }) ::
    (nat_lit 264, { cls := Value.type "tuple", data := Data.seq #[] }) ::
    (nat_lit 267,
      { cls := Value.type "code",
        data :=
          Data.fields
            #[Value.str (Str.ofString "law") 520, Value.str (Str.ofString "law") 521,
              Value.str (Str.ofString "/claim/cut.py") 522, Value.int 171 0, Value.int 1 0, Value.int 0 0,
              Value.int 0 0, Value.int 3 0, Value.ref 264, Value.bool true, Value.int 181 0, Value.ref 265, Value.none,
              Value.none, Value.none, Value.ref 266, Value.int 523 0, Value.int 171 0,
              Value.str (Str.ofString "/claim/cut.py") 524] }) ::
    (nat_lit 268,
      { cls := Value.type "function",
        data :=
          Data.func
            { name := Str.ofString "law", qualname := Str.ofString "law",
              params := ((fun {l : Arguments} (_ : l = fnA (st 27)) => l) (by conv => { rhs; whnf })), body := FuncBody.stmts ((fun {l : List Stmt} (_ : l = fnB (st 27)) => l) (by conv => { rhs; whnf })), scope := ((fun {l : Scope} (_ : l = fnS (st 27)) => l) (by conv => { rhs; whnf })),
              globals := 3, closure := [], defaults := Value.none, kwdefaults := Value.none,
              pyModule := Value.str (Str.ofString "law_rh0069_01") 469, code := Value.ref 267 } }) :: []
abbrev kAs : List Addr := [2, 3, 15, 17, 18, 20, 21, 22, 29, 30, 31, 32, 35, 42, 44, 45, 47, 48, 49, 50, 51, 54, 56, 57, 59, 60, 61, 63, 64, 66, 67, 75, 77, 78, 80, 81, 82, 84, 85, 87, 88, 89, 91, 92, 94, 95, 96, 98, 99, 101, 102, 103, 105, 106, 108, 109, 110, 112, 113, 115, 116, 117, 119, 120, 122, 123, 124, 126, 127, 129, 130, 131, 133, 134, 136, 137, 138, 140, 141, 143, 144, 145, 147, 148, 150, 151, 152, 153, 154, 155, 156, 159, 161, 162, 164, 165, 166, 168, 169, 171, 172, 173, 175, 176, 178, 179, 180, 182, 183, 185, 186, 187, 189, 190, 192, 193, 194, 196, 197, 199, 200, 201, 203, 204, 206, 207, 208, 210, 211, 213, 214, 215, 217, 218, 220, 221, 222, 224, 225, 227, 228, 229, 231, 232, 234, 235, 236, 238, 239, 241, 242, 243, 245, 246, 248, 249, 250, 252, 253, 255, 256, 257, 259, 260, 262, 263, 264, 267, 268]
theorem kE : ∀ P, kAs = (kk P).map (·.1) := fun _ => by kernel_rfl
end
section
open PySem PySem.W PySem.Calls PyProof.Rows
namespace Cut
set_option linter.unusedVariables false
noncomputable def o11s0 (P : Params) : Obj :=
{ cls := Value.type "tuple", data := Data.seq #[] }
noncomputable def o12s0 (P : Params) : Obj :=
{ cls := Value.none, data := Data.fields #[] }
noncomputable def o13s0 (P : Params) : Obj :=
{ cls := Value.type "code",
  data :=
    Data.fields
      #[Value.str (Str.ofString "<module>") 182, Value.str (Str.ofString "<module>") 183, Value.str (Str.ofString "/claim/cut.py") 184, Value.int 1 0, Value.int 0 0, Value.int 0 0, Value.int 0 0,
        Value.int 0 0, Value.ref 11, Value.bool false, Value.int 181 0, Value.ref 12, Value.none, Value.none, Value.none, Value.none, Value.int 185 0, Value.int 1 0,
        Value.str (Str.ofString "/claim/cut.py") 186] }
noncomputable def o14s0 (P : Params) : Obj :=
{ cls := Value.type "frame", slots := #[some (Value.ref 13), some (Value.ref 3), some (Value.ref 3), none, some (Value.str (Str.ofString "__main__") 164), none, some (Value.ref 0)] }
noncomputable def o2s3 (P : Params) : Obj :=
{ cls := Value.none,
  data :=
    Data.dict
      #[{ hash := PyData.keyHash P (Str.ofString "type.__subclasses__.Exception.0"), key := Value.str (Str.ofString "type.__subclasses__.Exception.0") 212, val := Value.int 31 0 },
        { hash := PyData.keyHash P (Str.ofString "type.__subclasses__.Exception.n"), key := Value.str (Str.ofString "type.__subclasses__.Exception.n") 213, val := Value.int 1 0 }]
      2 }
noncomputable def o3s3 (P : Params) : Obj :=
{ cls := Value.type "dict",
  data :=
    Data.dict
      #[{ hash := PyData.keyHash P (Str.ofString "__name__"), key := Value.str (Str.ofString "__name__") 165, val := Value.str (Str.ofString "clausemill.symbols") 194 },
        { hash := PyData.keyHash P (Str.ofString "__doc__"), key := Value.str (Str.ofString "__doc__") 166, val := Value.none },
        { hash := PyData.keyHash P (Str.ofString "__package__"), key := Value.str (Str.ofString "__package__") 167, val := Value.none },
        { hash := PyData.keyHash P (Str.ofString "__loader__"), key := Value.str (Str.ofString "__loader__") 168, val := Value.builtin "__main__.__loader__#opaque" },
        { hash := PyData.keyHash P (Str.ofString "__spec__"), key := Value.str (Str.ofString "__spec__") 169, val := Value.none },
        { hash := PyData.keyHash P (Str.ofString "__annotations__"), key := Value.str (Str.ofString "__annotations__") 170, val := Value.ref 6 },
        { hash := PyData.keyHash P (Str.ofString "__builtins__"), key := Value.str (Str.ofString "__builtins__") 171, val := Value.ref 4 },
        { hash := PyData.keyHash P (Str.ofString "__file__"), key := Value.str (Str.ofString "__file__") 173, val := Value.str (Str.ofString "/claim/cut.py") 172 },
        { hash := PyData.keyHash P (Str.ofString "__cached__"), key := Value.str (Str.ofString "__cached__") 174, val := Value.none },
        { hash := PyData.keyHash P (Str.ofString "_wall"), key := Value.str (Str.ofString "_wall") 193, val := Value.ref 21 },
        { hash := PyData.keyHash P (Str.ofString "ClausemillError"), key := Value.str (Str.ofString "ClausemillError") 215, val := Value.ref 31 }]
      11 }
noncomputable def o12s3 (P : Params) : Obj :=
{ cls := Value.none, data := Data.fields #[Value.int 1 0, Value.int 0 0, Value.ref 20, Value.int 5 0, Value.int 0 0, Value.ref 27] }
noncomputable def o15s3 (P : Params) : Obj :=
{ cls := Value.type "tuple", data := Data.seq #[] }
noncomputable def o16s3 (P : Params) : Obj :=
{ cls := Value.none, data := Data.fields #[] }
noncomputable def o17s3 (P : Params) : Obj :=
{ cls := Value.type "tuple", data := Data.seq #[Value.str (Str.ofString "k") 190] }
noncomputable def o18s3 (P : Params) : Obj :=
{ cls := Value.type "tuple", data := Data.seq #[] }
noncomputable def o19s3 (P : Params) : Obj :=
{ cls := Value.none,
  data :=
    Data.func
      { name := Str.ofString "_wall", qualname := Str.ofString "_wall",
        params := fnA (st 0), body := FuncBody.stmts (fnB (st 0)), scope := fnS (st 0), globals := 0, closure := [], defaults := Value.none,
        kwdefaults := Value.none } }
noncomputable def o20s3 (P : Params) : Obj :=
{ cls := Value.type "code",
  data :=
    Data.fields
      #[Value.str (Str.ofString "_wall") 187, Value.str (Str.ofString "_wall") 188, Value.str (Str.ofString "/claim/cut.py") 189, Value.int 1 0, Value.int 1 0, Value.int 0 0, Value.int 0 0,
        Value.int 3 0, Value.ref 15, Value.bool true, Value.int 181 0, Value.ref 16, Value.none, Value.ref 17, Value.ref 18, Value.ref 19, Value.int 191 0, Value.int 1 0,
        Value.str (Str.ofString "/claim/cut.py") 192] }
noncomputable def o21s3 (P : Params) : Obj :=
{ cls := Value.type "function",
  data :=
    Data.func
      { name := Str.ofString "_wall", qualname := Str.ofString "_wall",
        params := fnA (st 0), body := FuncBody.stmts (fnB (st 0)), scope := fnS (st 0), globals := 3, closure := [], defaults := Value.none,
        kwdefaults := Value.none, pyModule := Value.str (Str.ofString "__main__") 164, code := Value.ref 20 } }
noncomputable def o22s3 (P : Params) : Obj :=
{ cls := Value.type "tuple", data := Data.seq #[Value.type "Exception"] }
noncomputable def o23s3 (P : Params) : Obj :=
{ cls := Value.type "builtin_function_or_method", data := Data.fields #[Value.builtin "type.__prepare__", Value.type "type"] }
noncomputable def o24s3 (P : Params) : Obj :=
{ cls := Value.type "dict",
  data :=
    Data.dict
      #[{ hash := PyData.keyHash P (Str.ofString "__module__"), key := Value.str (Str.ofString "__module__") 203, val := Value.str (Str.ofString "clausemill.symbols") 194 },
        { hash := PyData.keyHash P (Str.ofString "__qualname__"), key := Value.str (Str.ofString "__qualname__") 205, val := Value.str (Str.ofString "ClausemillError") 204 },
        { hash := PyData.keyHash P (Str.ofString "__firstlineno__"), key := Value.str (Str.ofString "__firstlineno__") 207, val := Value.int 5 206 },
        { hash := PyData.keyHash P (Str.ofString "__static_attributes__"), key := Value.str (Str.ofString "__static_attributes__") 208, val := Value.ref 29 }]
      4 }
noncomputable def o25s3 (P : Params) : Obj :=
{ cls := Value.type "tuple", data := Data.seq #[] }
noncomputable def o26s3 (P : Params) : Obj :=
{ cls := Value.none, data := Data.fields #[] }
noncomputable def o27s3 (P : Params) : Obj :=
{ cls := Value.type "code",
  data :=
    Data.fields
      #[Value.str (Str.ofString "ClausemillError") 198, Value.str (Str.ofString "ClausemillError") 199, Value.str (Str.ofString "/claim/cut.py") 200, Value.int 5 0, Value.int 0 0, Value.int 0 0,
        Value.int 0 0, Value.int 0 0, Value.ref 25, Value.bool false, Value.int 181 0, Value.ref 26, Value.none, Value.none, Value.none, Value.none, Value.int 201 0, Value.int 5 0,
        Value.str (Str.ofString "/claim/cut.py") 202] }
noncomputable def o28s3 (P : Params) : Obj :=
{ cls := Value.type "frame", slots := #[some (Value.ref 27), some (Value.ref 3), some (Value.ref 24), none, some (Value.str (Str.ofString "clausemill.symbols") 194), none, some (Value.ref 0)] }
noncomputable def o29s3 (P : Params) : Obj :=
{ cls := Value.type "tuple", data := Data.seq #[] }
noncomputable def o30s3 (P : Params) : Obj :=
{ cls := Value.type "dict",
  data :=
    Data.dict
      #[{ hash := PyData.keyHash P (Str.ofString "__module__"), key := Value.str (Str.ofString "__module__") 203, val := Value.str (Str.ofString "clausemill.symbols") 194 },
        { hash := PyData.keyHash P (Str.ofString "__firstlineno__"), key := Value.str (Str.ofString "__firstlineno__") 207, val := Value.int 5 206 },
        { hash := PyData.keyHash P (Str.ofString "__static_attributes__"), key := Value.str (Str.ofString "__static_attributes__") 208, val := Value.ref 29 },
        { hash := PyData.keyHash P (Str.ofString "__weakref__"), key := Value.str (Str.ofString "__weakref__") 210, val := Value.ref 32 },
        { hash := PyData.keyHash P (Str.ofString "__doc__"), key := Value.str (Str.ofString "__doc__") 211, val := Value.none }]
      3 }
noncomputable def o31s3 (P : Params) : Obj :=
{ cls := Value.type "type",
  data :=
    Data.cls
      { name := Str.ofString "ClausemillError", bases := [Value.type "Exception"], mro := [Value.ref 31, Value.type "Exception", Value.type "BaseException", Value.type "object"], ns := 30,
        qualname := Str.ofString "ClausemillError" },
  slots :=
    #[some (Value.ref 22), none, some (Value.str (Str.ofString "ClausemillError") 196), some (Value.str (Str.ofString "ClausemillError") 204), some (Value.builtin "Exception.__new__"),
      some (Value.bool true)] }
noncomputable def o32s3 (P : Params) : Obj :=
{ cls := Value.type "getset_descriptor", data := Data.fields #[Value.str (Str.ofString "__weakref__") 209, Value.ref 31, Value.builtin "ExceptionGroup.__weakref__", Value.none] }
noncomputable def o33s3 (P : Params) : Obj :=
{ cls := Value.type "super", data := Data.fields #[Value.ref 31, Value.ref 31, Value.ref 31] }
noncomputable def o34s3 (P : Params) : Obj :=
{ cls := Value.type "builtin_function_or_method", data := Data.fields #[Value.builtin "object.__init_subclass__", Value.ref 31] }
noncomputable def o3s8 (P : Params) : Obj :=
{ cls := Value.type "dict",
  data :=
    Data.dict
      #[{ hash := PyData.keyHash P (Str.ofString "__name__"), key := Value.str (Str.ofString "__name__") 165, val := Value.str (Str.ofString "clausemill.symbols") 194 },
        { hash := PyData.keyHash P (Str.ofString "__doc__"), key := Value.str (Str.ofString "__doc__") 166, val := Value.none },
        { hash := PyData.keyHash P (Str.ofString "__package__"), key := Value.str (Str.ofString "__package__") 167, val := Value.none },
        { hash := PyData.keyHash P (Str.ofString "__loader__"), key := Value.str (Str.ofString "__loader__") 168, val := Value.builtin "__main__.__loader__#opaque" },
        { hash := PyData.keyHash P (Str.ofString "__spec__"), key := Value.str (Str.ofString "__spec__") 169, val := Value.none },
        { hash := PyData.keyHash P (Str.ofString "__annotations__"), key := Value.str (Str.ofString "__annotations__") 170, val := Value.ref 6 },
        { hash := PyData.keyHash P (Str.ofString "__builtins__"), key := Value.str (Str.ofString "__builtins__") 171, val := Value.ref 4 },
        { hash := PyData.keyHash P (Str.ofString "__file__"), key := Value.str (Str.ofString "__file__") 173, val := Value.str (Str.ofString "/claim/cut.py") 172 },
        { hash := PyData.keyHash P (Str.ofString "__cached__"), key := Value.str (Str.ofString "__cached__") 174, val := Value.none },
        { hash := PyData.keyHash P (Str.ofString "_wall"), key := Value.str (Str.ofString "_wall") 193, val := Value.ref 21 },
        { hash := PyData.keyHash P (Str.ofString "ClausemillError"), key := Value.str (Str.ofString "ClausemillError") 215, val := Value.ref 31 },
        { hash := PyData.keyHash P (Str.ofString "PrologError"), key := Value.str (Str.ofString "PrologError") 240, val := Value.ref 51 },
        { hash := PyData.keyHash P (Str.ofString "A_SYSTEM"), key := Value.str (Str.ofString "A_SYSTEM") 242, val := Value.int 25 241 },
        { hash := PyData.keyHash P (Str.ofString "F_ERROR"), key := Value.str (Str.ofString "F_ERROR") 244, val := Value.int 16 243 },
        { hash := PyData.keyHash P (Str.ofString "fixed_atoms"), key := Value.str (Str.ofString "fixed_atoms") 250, val := Value.ref 60 },
        { hash := PyData.keyHash P (Str.ofString "fixed_functors"), key := Value.str (Str.ofString "fixed_functors") 256, val := Value.ref 67 }]
      16 }
noncomputable def o12s8 (P : Params) : Obj :=
{ cls := Value.none,
  data :=
    Data.fields
      #[Value.int 1 0, Value.int 0 0, Value.ref 20, Value.int 5 0, Value.int 0 0, Value.ref 27, Value.int 7 0, Value.int 0 0, Value.ref 40, Value.int 13 0, Value.int 0 0, Value.ref 59, Value.int 15 0,
        Value.int 0 0, Value.ref 66] }
noncomputable def o31s8 (P : Params) : Obj :=
{ cls := Value.type "type",
  data :=
    Data.cls
      { name := Str.ofString "ClausemillError", bases := [Value.type "Exception"], mro := [Value.ref 31, Value.type "Exception", Value.type "BaseException", Value.type "object"], ns := 30,
        qualname := Str.ofString "ClausemillError", subclasses := [Value.ref 51] },
  slots :=
    #[some (Value.ref 22), none, some (Value.str (Str.ofString "ClausemillError") 196), some (Value.str (Str.ofString "ClausemillError") 204), some (Value.builtin "Exception.__new__"),
      some (Value.bool true)] }
noncomputable def o35s8 (P : Params) : Obj :=
{ cls := Value.type "tuple", data := Data.seq #[Value.ref 31] }
noncomputable def o36s8 (P : Params) : Obj :=
{ cls := Value.type "builtin_function_or_method", data := Data.fields #[Value.builtin "type.__prepare__", Value.type "type"] }
noncomputable def o37s8 (P : Params) : Obj :=
{ cls := Value.type "dict",
  data :=
    Data.dict
      #[{ hash := PyData.keyHash P (Str.ofString "__module__"), key := Value.str (Str.ofString "__module__") 223, val := Value.str (Str.ofString "clausemill.symbols") 194 },
        { hash := PyData.keyHash P (Str.ofString "__qualname__"), key := Value.str (Str.ofString "__qualname__") 225, val := Value.str (Str.ofString "PrologError") 224 },
        { hash := PyData.keyHash P (Str.ofString "__firstlineno__"), key := Value.str (Str.ofString "__firstlineno__") 227, val := Value.int 7 226 },
        { hash := PyData.keyHash P (Str.ofString "__init__"), key := Value.str (Str.ofString "__init__") 235, val := Value.ref 48 },
        { hash := PyData.keyHash P (Str.ofString "__static_attributes__"), key := Value.str (Str.ofString "__static_attributes__") 237, val := Value.ref 49 }]
      5 }
noncomputable def o38s8 (P : Params) : Obj :=
{ cls := Value.type "tuple", data := Data.seq #[] }
noncomputable def o39s8 (P : Params) : Obj :=
{ cls := Value.none, data := Data.fields #[Value.int 9 0, Value.int 4 0, Value.ref 47] }
noncomputable def o40s8 (P : Params) : Obj :=
{ cls := Value.type "code",
  data :=
    Data.fields
      #[Value.str (Str.ofString "PrologError") 218, Value.str (Str.ofString "PrologError") 219, Value.str (Str.ofString "/claim/cut.py") 220, Value.int 7 0, Value.int 0 0, Value.int 0 0,
        Value.int 0 0, Value.int 0 0, Value.ref 38, Value.bool false, Value.int 181 0, Value.ref 39, Value.none, Value.none, Value.none, Value.none, Value.int 221 0, Value.int 7 0,
        Value.str (Str.ofString "/claim/cut.py") 222] }
noncomputable def o41s8 (P : Params) : Obj :=
{ cls := Value.type "frame", slots := #[some (Value.ref 40), some (Value.ref 3), some (Value.ref 37), none, some (Value.str (Str.ofString "clausemill.symbols") 194), none, some (Value.ref 0)] }
noncomputable def o42s8 (P : Params) : Obj :=
{ cls := Value.type "tuple", data := Data.seq #[] }
noncomputable def o43s8 (P : Params) : Obj :=
{ cls := Value.none, data := Data.fields #[] }
noncomputable def o44s8 (P : Params) : Obj :=
{ cls := Value.type "tuple", data := Data.seq #[Value.str (Str.ofString "self") 231, Value.str (Str.ofString "ball") 232] }
noncomputable def o45s8 (P : Params) : Obj :=
{ cls := Value.type "tuple", data := Data.seq #[] }
noncomputable def o46s8 (P : Params) : Obj :=
{ cls := Value.none,
  data :=
    Data.func
      { name := Str.ofString "__init__", qualname := Str.ofString "PrologError.__init__",
        params := fnA (mt 3 0), body := FuncBody.stmts (fnB (mt 3 0)), scope := fnS (mt 3 0), globals := 0,
        closure := [], defaults := Value.none, kwdefaults := Value.none } }
noncomputable def o47s8 (P : Params) : Obj :=
{ cls := Value.type "code",
  data :=
    Data.fields
      #[Value.str (Str.ofString "__init__") 228, Value.str (Str.ofString "PrologError.__init__") 229, Value.str (Str.ofString "/claim/cut.py") 230, Value.int 9 0, Value.int 2 0, Value.int 0 0,
        Value.int 0 0, Value.int 3 0, Value.ref 42, Value.bool true, Value.int 181 0, Value.ref 43, Value.none, Value.ref 44, Value.ref 45, Value.ref 46, Value.int 233 0, Value.int 9 0,
        Value.str (Str.ofString "/claim/cut.py") 234] }
noncomputable def o48s8 (P : Params) : Obj :=
{ cls := Value.type "function",
  data :=
    Data.func
      { name := Str.ofString "__init__", qualname := Str.ofString "PrologError.__init__",
        params := fnA (mt 3 0), body := FuncBody.stmts (fnB (mt 3 0)), scope := fnS (mt 3 0), globals := 3,
        closure := [], defaults := Value.none, kwdefaults := Value.none, pyModule := Value.str (Str.ofString "clausemill.symbols") 194, code := Value.ref 47 } }
noncomputable def o49s8 (P : Params) : Obj :=
{ cls := Value.type "tuple", data := Data.seq #[Value.str (Str.ofString "ball") 236] }
noncomputable def o50s8 (P : Params) : Obj :=
{ cls := Value.type "dict",
  data :=
    Data.dict
      #[{ hash := PyData.keyHash P (Str.ofString "__module__"), key := Value.str (Str.ofString "__module__") 223, val := Value.str (Str.ofString "clausemill.symbols") 194 },
        { hash := PyData.keyHash P (Str.ofString "__firstlineno__"), key := Value.str (Str.ofString "__firstlineno__") 227, val := Value.int 7 226 },
        { hash := PyData.keyHash P (Str.ofString "__init__"), key := Value.str (Str.ofString "__init__") 235, val := Value.ref 48 },
        { hash := PyData.keyHash P (Str.ofString "__static_attributes__"), key := Value.str (Str.ofString "__static_attributes__") 237, val := Value.ref 49 },
        { hash := PyData.keyHash P (Str.ofString "__doc__"), key := Value.str (Str.ofString "__doc__") 238, val := Value.none }]
      2 }
noncomputable def o51s8 (P : Params) : Obj :=
{ cls := Value.type "type",
  data :=
    Data.cls
      { name := Str.ofString "PrologError", bases := [Value.ref 31], mro := [Value.ref 51, Value.ref 31, Value.type "Exception", Value.type "BaseException", Value.type "object"], ns := 50,
        qualname := Str.ofString "PrologError" },
  slots :=
    #[some (Value.ref 35), none, some (Value.str (Str.ofString "PrologError") 216), some (Value.str (Str.ofString "PrologError") 224), some (Value.builtin "Exception.__new__"),
      some (Value.bool true)] }
noncomputable def o52s8 (P : Params) : Obj :=
{ cls := Value.type "super", data := Data.fields #[Value.ref 51, Value.ref 51, Value.ref 51] }
noncomputable def o53s8 (P : Params) : Obj :=
{ cls := Value.type "builtin_function_or_method", data := Data.fields #[Value.builtin "object.__init_subclass__", Value.ref 51] }
noncomputable def o54s8 (P : Params) : Obj :=
{ cls := Value.type "tuple", data := Data.seq #[] }
noncomputable def o55s8 (P : Params) : Obj :=
{ cls := Value.none, data := Data.fields #[] }
noncomputable def o56s8 (P : Params) : Obj :=
{ cls := Value.type "tuple", data := Data.seq #[] }
noncomputable def o57s8 (P : Params) : Obj :=
{ cls := Value.type "tuple", data := Data.seq #[] }
noncomputable def o58s8 (P : Params) : Obj :=
{ cls := Value.none,
  data :=
    Data.func
      { name := Str.ofString "fixed_atoms", qualname := Str.ofString "fixed_atoms",
        params := fnA (st 6), body := FuncBody.stmts (fnB (st 6)), scope := fnS (st 6), globals := 0, closure := [], defaults := Value.none, kwdefaults := Value.none } }
noncomputable def o59s8 (P : Params) : Obj :=
{ cls := Value.type "code",
  data :=
    Data.fields
      #[Value.str (Str.ofString "fixed_atoms") 245, Value.str (Str.ofString "fixed_atoms") 246, Value.str (Str.ofString "/claim/cut.py") 247, Value.int 13 0, Value.int 0 0, Value.int 0 0,
        Value.int 0 0, Value.int 3 0, Value.ref 54, Value.bool true, Value.int 181 0, Value.ref 55, Value.none, Value.ref 56, Value.ref 57, Value.ref 58, Value.int 248 0, Value.int 13 0,
        Value.str (Str.ofString "/claim/cut.py") 249] }
noncomputable def o60s8 (P : Params) : Obj :=
{ cls := Value.type "function",
  data :=
    Data.func
      { name := Str.ofString "fixed_atoms", qualname := Str.ofString "fixed_atoms",
        params := fnA (st 6), body := FuncBody.stmts (fnB (st 6)), scope := fnS (st 6), globals := 3, closure := [], defaults := Value.none, kwdefaults := Value.none,
        pyModule := Value.str (Str.ofString "clausemill.symbols") 194, code := Value.ref 59 } }
noncomputable def o61s8 (P : Params) : Obj :=
{ cls := Value.type "tuple", data := Data.seq #[] }
noncomputable def o62s8 (P : Params) : Obj :=
{ cls := Value.none, data := Data.fields #[] }
noncomputable def o63s8 (P : Params) : Obj :=
{ cls := Value.type "tuple", data := Data.seq #[] }
noncomputable def o64s8 (P : Params) : Obj :=
{ cls := Value.type "tuple", data := Data.seq #[] }
noncomputable def o65s8 (P : Params) : Obj :=
{ cls := Value.none,
  data :=
    Data.func
      { name := Str.ofString "fixed_functors", qualname := Str.ofString "fixed_functors",
        params := fnA (st 7), body := FuncBody.stmts (fnB (st 7)), scope := fnS (st 7), globals := 0, closure := [], defaults := Value.none, kwdefaults := Value.none } }
noncomputable def o66s8 (P : Params) : Obj :=
{ cls := Value.type "code",
  data :=
    Data.fields
      #[Value.str (Str.ofString "fixed_functors") 251, Value.str (Str.ofString "fixed_functors") 252, Value.str (Str.ofString "/claim/cut.py") 253, Value.int 15 0, Value.int 0 0, Value.int 0 0,
        Value.int 0 0, Value.int 3 0, Value.ref 61, Value.bool true, Value.int 181 0, Value.ref 62, Value.none, Value.ref 63, Value.ref 64, Value.ref 65, Value.int 254 0, Value.int 15 0,
        Value.str (Str.ofString "/claim/cut.py") 255] }
noncomputable def o67s8 (P : Params) : Obj :=
{ cls := Value.type "function",
  data :=
    Data.func
      { name := Str.ofString "fixed_functors", qualname := Str.ofString "fixed_functors",
        params := fnA (st 7), body := FuncBody.stmts (fnB (st 7)), scope := fnS (st 7), globals := 3, closure := [], defaults := Value.none, kwdefaults := Value.none,
        pyModule := Value.str (Str.ofString "clausemill.symbols") 194, code := Value.ref 66 } }
noncomputable def o3s9 (P : Params) : Obj :=
{ cls := Value.type "dict",
  data :=
    Data.dict
      #[{ hash := PyData.keyHash P (Str.ofString "__name__"), key := Value.str (Str.ofString "__name__") 165, val := Value.str (Str.ofString "clausemill.symbols") 194 },
        { hash := PyData.keyHash P (Str.ofString "__doc__"), key := Value.str (Str.ofString "__doc__") 166, val := Value.none },
        { hash := PyData.keyHash P (Str.ofString "__package__"), key := Value.str (Str.ofString "__package__") 167, val := Value.none },
        { hash := PyData.keyHash P (Str.ofString "__loader__"), key := Value.str (Str.ofString "__loader__") 168, val := Value.builtin "__main__.__loader__#opaque" },
        { hash := PyData.keyHash P (Str.ofString "__spec__"), key := Value.str (Str.ofString "__spec__") 169, val := Value.none },
        { hash := PyData.keyHash P (Str.ofString "__annotations__"), key := Value.str (Str.ofString "__annotations__") 170, val := Value.ref 6 },
        { hash := PyData.keyHash P (Str.ofString "__builtins__"), key := Value.str (Str.ofString "__builtins__") 171, val := Value.ref 4 },
        { hash := PyData.keyHash P (Str.ofString "__file__"), key := Value.str (Str.ofString "__file__") 173, val := Value.str (Str.ofString "/claim/cut.py") 172 },
        { hash := PyData.keyHash P (Str.ofString "__cached__"), key := Value.str (Str.ofString "__cached__") 174, val := Value.none },
        { hash := PyData.keyHash P (Str.ofString "_wall"), key := Value.str (Str.ofString "_wall") 193, val := Value.ref 21 },
        { hash := PyData.keyHash P (Str.ofString "ClausemillError"), key := Value.str (Str.ofString "ClausemillError") 215, val := Value.ref 31 },
        { hash := PyData.keyHash P (Str.ofString "PrologError"), key := Value.str (Str.ofString "PrologError") 240, val := Value.ref 51 },
        { hash := PyData.keyHash P (Str.ofString "A_SYSTEM"), key := Value.str (Str.ofString "A_SYSTEM") 242, val := Value.int 25 241 },
        { hash := PyData.keyHash P (Str.ofString "F_ERROR"), key := Value.str (Str.ofString "F_ERROR") 244, val := Value.int 16 243 },
        { hash := PyData.keyHash P (Str.ofString "fixed_atoms"), key := Value.str (Str.ofString "fixed_atoms") 250, val := Value.ref 60 },
        { hash := PyData.keyHash P (Str.ofString "fixed_functors"), key := Value.str (Str.ofString "fixed_functors") 256, val := Value.ref 67 },
        { hash := PyData.keyHash P (Str.ofString "Symbols"), key := Value.str (Str.ofString "Symbols") 375, val := Value.ref 154 }]
      17 }
noncomputable def o12s9 (P : Params) : Obj :=
{ cls := Value.none,
  data :=
    Data.fields
      #[Value.int 1 0, Value.int 0 0, Value.ref 20, Value.int 5 0, Value.int 0 0, Value.ref 27, Value.int 7 0, Value.int 0 0, Value.ref 40, Value.int 13 0, Value.int 0 0, Value.ref 59, Value.int 15 0,
        Value.int 0 0, Value.ref 66, Value.int 17 0, Value.int 0 0, Value.ref 73] }
noncomputable def o68s9 (P : Params) : Obj :=
{ cls := Value.type "tuple", data := Data.seq #[] }
noncomputable def o69s9 (P : Params) : Obj :=
{ cls := Value.type "builtin_function_or_method", data := Data.fields #[Value.builtin "type.__prepare__", Value.type "type"] }
noncomputable def o70s9 (P : Params) : Obj :=
{ cls := Value.type "dict",
  data :=
    Data.dict
      #[{ hash := PyData.keyHash P (Str.ofString "__module__"), key := Value.str (Str.ofString "__module__") 264, val := Value.str (Str.ofString "clausemill.symbols") 194 },
        { hash := PyData.keyHash P (Str.ofString "__qualname__"), key := Value.str (Str.ofString "__qualname__") 266, val := Value.str (Str.ofString "Symbols") 265 },
        { hash := PyData.keyHash P (Str.ofString "__firstlineno__"), key := Value.str (Str.ofString "__firstlineno__") 268, val := Value.int 17 267 },
        { hash := PyData.keyHash P (Str.ofString "__init__"), key := Value.str (Str.ofString "__init__") 277, val := Value.ref 81 },
        { hash := PyData.keyHash P (Str.ofString "atom"), key := Value.str (Str.ofString "atom") 287, val := Value.ref 88 },
        { hash := PyData.keyHash P (Str.ofString "text"), key := Value.str (Str.ofString "text") 295, val := Value.ref 95 },
        { hash := PyData.keyHash P (Str.ofString "functor"), key := Value.str (Str.ofString "functor") 307, val := Value.ref 102 },
        { hash := PyData.keyHash P (Str.ofString "func"), key := Value.str (Str.ofString "func") 316, val := Value.ref 109 },
        { hash := PyData.keyHash P (Str.ofString "name"), key := Value.str (Str.ofString "name") 324, val := Value.ref 116 },
        { hash := PyData.keyHash P (Str.ofString "arity"), key := Value.str (Str.ofString "arity") 332, val := Value.ref 123 },
        { hash := PyData.keyHash P (Str.ofString "label"), key := Value.str (Str.ofString "label") 340, val := Value.ref 130 },
        { hash := PyData.keyHash P (Str.ofString "count"), key := Value.str (Str.ofString "count") 347, val := Value.ref 137 },
        { hash := PyData.keyHash P (Str.ofString "functor_count"), key := Value.str (Str.ofString "functor_count") 354, val := Value.ref 144 },
        { hash := PyData.keyHash P (Str.ofString "known"), key := Value.str (Str.ofString "known") 363, val := Value.ref 151 },
        { hash := PyData.keyHash P (Str.ofString "__static_attributes__"), key := Value.str (Str.ofString "__static_attributes__") 368, val := Value.ref 152 }]
      15 }
noncomputable def o71s9 (P : Params) : Obj :=
{ cls := Value.type "tuple", data := Data.seq #[] }
noncomputable def o72s9 (P : Params) : Obj :=
{ cls := Value.none,
  data :=
    Data.fields
      #[Value.int 19 0, Value.int 4 0, Value.ref 80, Value.int 29 0, Value.int 4 0, Value.ref 87, Value.int 38 0, Value.int 4 0, Value.ref 94, Value.int 41 0, Value.int 4 0, Value.ref 101,
        Value.int 51 0, Value.int 4 0, Value.ref 108, Value.int 54 0, Value.int 4 0, Value.ref 115, Value.int 57 0, Value.int 4 0, Value.ref 122, Value.int 60 0, Value.int 4 0, Value.ref 129,
        Value.int 63 0, Value.int 4 0, Value.ref 136, Value.int 66 0, Value.int 4 0, Value.ref 143, Value.int 69 0, Value.int 4 0, Value.ref 150] }
noncomputable def o73s9 (P : Params) : Obj :=
{ cls := Value.type "code",
  data :=
    Data.fields
      #[Value.str (Str.ofString "Symbols") 259, Value.str (Str.ofString "Symbols") 260, Value.str (Str.ofString "/claim/cut.py") 261, Value.int 17 0, Value.int 0 0, Value.int 0 0, Value.int 0 0,
        Value.int 0 0, Value.ref 71, Value.bool false, Value.int 181 0, Value.ref 72, Value.none, Value.none, Value.none, Value.none, Value.int 262 0, Value.int 17 0,
        Value.str (Str.ofString "/claim/cut.py") 263] }
noncomputable def o74s9 (P : Params) : Obj :=
{ cls := Value.type "frame", slots := #[some (Value.ref 73), some (Value.ref 3), some (Value.ref 70), none, some (Value.str (Str.ofString "clausemill.symbols") 194), none, some (Value.ref 0)] }
noncomputable def o75s9 (P : Params) : Obj :=
{ cls := Value.type "tuple", data := Data.seq #[] }
noncomputable def o76s9 (P : Params) : Obj :=
{ cls := Value.none, data := Data.fields #[] }
noncomputable def o77s9 (P : Params) : Obj :=
{ cls := Value.type "tuple", data := Data.seq #[Value.str (Str.ofString "self") 272, Value.str (Str.ofString "text") 273, Value.str (Str.ofString "row") 274] }
noncomputable def o78s9 (P : Params) : Obj :=
{ cls := Value.type "tuple", data := Data.seq #[] }
noncomputable def o79s9 (P : Params) : Obj :=
{ cls := Value.none,
  data :=
    Data.func
      { name := Str.ofString "__init__", qualname := Str.ofString "Symbols.__init__",
        params := fnA (mt 8 0), body := FuncBody.stmts (fnB (mt 8 0)), scope := fnS (mt 8 0), globals := 0, closure := [], defaults := Value.none, kwdefaults := Value.none } }
noncomputable def o80s9 (P : Params) : Obj :=
{ cls := Value.type "code",
  data :=
    Data.fields
      #[Value.str (Str.ofString "__init__") 269, Value.str (Str.ofString "Symbols.__init__") 270, Value.str (Str.ofString "/claim/cut.py") 271, Value.int 19 0, Value.int 1 0, Value.int 0 0,
        Value.int 0 0, Value.int 3 0, Value.ref 75, Value.bool true, Value.int 181 0, Value.ref 76, Value.none, Value.ref 77, Value.ref 78, Value.ref 79, Value.int 275 0, Value.int 19 0,
        Value.str (Str.ofString "/claim/cut.py") 276] }
noncomputable def o81s9 (P : Params) : Obj :=
{ cls := Value.type "function",
  data :=
    Data.func
      { name := Str.ofString "__init__", qualname := Str.ofString "Symbols.__init__",
        params := fnA (mt 8 0), body := FuncBody.stmts (fnB (mt 8 0)), scope := fnS (mt 8 0), globals := 3, closure := [], defaults := Value.none, kwdefaults := Value.none, pyModule := Value.str (Str.ofString "clausemill.symbols") 194, code := Value.ref 80 } }
noncomputable def o82s9 (P : Params) : Obj :=
{ cls := Value.type "tuple", data := Data.seq #[] }
noncomputable def o83s9 (P : Params) : Obj :=
{ cls := Value.none, data := Data.fields #[] }
noncomputable def o84s9 (P : Params) : Obj :=
{ cls := Value.type "tuple", data := Data.seq #[Value.str (Str.ofString "self") 281, Value.str (Str.ofString "text") 282, Value.str (Str.ofString "found") 283, Value.str (Str.ofString "number") 284] }
noncomputable def o85s9 (P : Params) : Obj :=
{ cls := Value.type "tuple", data := Data.seq #[] }
noncomputable def o86s9 (P : Params) : Obj :=
{ cls := Value.none,
  data :=
    Data.func
      { name := Str.ofString "atom", qualname := Str.ofString "Symbols.atom",
        params := fnA (mt 8 1), body := FuncBody.stmts (fnB (mt 8 1)), scope := fnS (mt 8 1), globals := 0, closure := [], defaults := Value.none, kwdefaults := Value.none } }
noncomputable def o87s9 (P : Params) : Obj :=
{ cls := Value.type "code",
  data :=
    Data.fields
      #[Value.str (Str.ofString "atom") 278, Value.str (Str.ofString "Symbols.atom") 279, Value.str (Str.ofString "/claim/cut.py") 280, Value.int 29 0, Value.int 2 0, Value.int 0 0, Value.int 0 0,
        Value.int 3 0, Value.ref 82, Value.bool true, Value.int 181 0, Value.ref 83, Value.none, Value.ref 84, Value.ref 85, Value.ref 86, Value.int 285 0, Value.int 29 0,
        Value.str (Str.ofString "/claim/cut.py") 286] }
noncomputable def o88s9 (P : Params) : Obj :=
{ cls := Value.type "function",
  data :=
    Data.func
      { name := Str.ofString "atom", qualname := Str.ofString "Symbols.atom",
        params := fnA (mt 8 1), body := FuncBody.stmts (fnB (mt 8 1)), scope := fnS (mt 8 1), globals := 3, closure := [], defaults := Value.none, kwdefaults := Value.none, pyModule := Value.str (Str.ofString "clausemill.symbols") 194, code := Value.ref 87 } }
noncomputable def o89s9 (P : Params) : Obj :=
{ cls := Value.type "tuple", data := Data.seq #[] }
noncomputable def o90s9 (P : Params) : Obj :=
{ cls := Value.none, data := Data.fields #[] }
noncomputable def o91s9 (P : Params) : Obj :=
{ cls := Value.type "tuple", data := Data.seq #[Value.str (Str.ofString "self") 291, Value.str (Str.ofString "number") 292] }
noncomputable def o92s9 (P : Params) : Obj :=
{ cls := Value.type "tuple", data := Data.seq #[] }
noncomputable def o93s9 (P : Params) : Obj :=
{ cls := Value.none,
  data :=
    Data.func
      { name := Str.ofString "text", qualname := Str.ofString "Symbols.text",
        params := fnA (mt 8 2), body := FuncBody.stmts (fnB (mt 8 2)), scope := fnS (mt 8 2), globals := 0,
        closure := [], defaults := Value.none, kwdefaults := Value.none } }
noncomputable def o94s9 (P : Params) : Obj :=
{ cls := Value.type "code",
  data :=
    Data.fields
      #[Value.str (Str.ofString "text") 288, Value.str (Str.ofString "Symbols.text") 289, Value.str (Str.ofString "/claim/cut.py") 290, Value.int 38 0, Value.int 2 0, Value.int 0 0, Value.int 0 0,
        Value.int 3 0, Value.ref 89, Value.bool true, Value.int 181 0, Value.ref 90, Value.none, Value.ref 91, Value.ref 92, Value.ref 93, Value.int 293 0, Value.int 38 0,
        Value.str (Str.ofString "/claim/cut.py") 294] }
noncomputable def o95s9 (P : Params) : Obj :=
{ cls := Value.type "function",
  data :=
    Data.func
      { name := Str.ofString "text", qualname := Str.ofString "Symbols.text",
        params := fnA (mt 8 2), body := FuncBody.stmts (fnB (mt 8 2)), scope := fnS (mt 8 2), globals := 3,
        closure := [], defaults := Value.none, kwdefaults := Value.none, pyModule := Value.str (Str.ofString "clausemill.symbols") 194, code := Value.ref 94 } }
noncomputable def o96s9 (P : Params) : Obj :=
{ cls := Value.type "tuple", data := Data.seq #[] }
noncomputable def o97s9 (P : Params) : Obj :=
{ cls := Value.none, data := Data.fields #[] }
noncomputable def o98s9 (P : Params) : Obj :=
{ cls := Value.type "tuple",
  data :=
    Data.seq
      #[Value.str (Str.ofString "self") 299, Value.str (Str.ofString "atom") 300, Value.str (Str.ofString "arity") 301, Value.str (Str.ofString "key") 302, Value.str (Str.ofString "found") 303,
        Value.str (Str.ofString "number") 304] }
noncomputable def o99s9 (P : Params) : Obj :=
{ cls := Value.type "tuple", data := Data.seq #[] }
noncomputable def o100s9 (P : Params) : Obj :=
{ cls := Value.none,
  data :=
    Data.func
      { name := Str.ofString "functor", qualname := Str.ofString "Symbols.functor",
        params := fnA (mt 8 3), body := FuncBody.stmts (fnB (mt 8 3)), scope := fnS (mt 8 3), globals := 0, closure := [], defaults := Value.none, kwdefaults := Value.none } }
noncomputable def o101s9 (P : Params) : Obj :=
{ cls := Value.type "code",
  data :=
    Data.fields
      #[Value.str (Str.ofString "functor") 296, Value.str (Str.ofString "Symbols.functor") 297, Value.str (Str.ofString "/claim/cut.py") 298, Value.int 41 0, Value.int 3 0, Value.int 0 0,
        Value.int 0 0, Value.int 3 0, Value.ref 96, Value.bool true, Value.int 181 0, Value.ref 97, Value.none, Value.ref 98, Value.ref 99, Value.ref 100, Value.int 305 0, Value.int 41 0,
        Value.str (Str.ofString "/claim/cut.py") 306] }
noncomputable def o102s9 (P : Params) : Obj :=
{ cls := Value.type "function",
  data :=
    Data.func
      { name := Str.ofString "functor", qualname := Str.ofString "Symbols.functor",
        params := fnA (mt 8 3), body := FuncBody.stmts (fnB (mt 8 3)), scope := fnS (mt 8 3), globals := 3, closure := [], defaults := Value.none, kwdefaults := Value.none, pyModule := Value.str (Str.ofString "clausemill.symbols") 194, code := Value.ref 101 } }
noncomputable def o103s9 (P : Params) : Obj :=
{ cls := Value.type "tuple", data := Data.seq #[] }
noncomputable def o104s9 (P : Params) : Obj :=
{ cls := Value.none, data := Data.fields #[] }
noncomputable def o105s9 (P : Params) : Obj :=
{ cls := Value.type "tuple", data := Data.seq #[Value.str (Str.ofString "self") 311, Value.str (Str.ofString "text") 312, Value.str (Str.ofString "arity") 313] }
noncomputable def o106s9 (P : Params) : Obj :=
{ cls := Value.type "tuple", data := Data.seq #[] }
noncomputable def o107s9 (P : Params) : Obj :=
{ cls := Value.none,
  data :=
    Data.func
      { name := Str.ofString "func", qualname := Str.ofString "Symbols.func",
        params := fnA (mt 8 4), body := FuncBody.stmts (fnB (mt 8 4)), scope := fnS (mt 8 4), globals := 0, closure := [], defaults := Value.none, kwdefaults := Value.none } }
noncomputable def o108s9 (P : Params) : Obj :=
{ cls := Value.type "code",
  data :=
    Data.fields
      #[Value.str (Str.ofString "func") 308, Value.str (Str.ofString "Symbols.func") 309, Value.str (Str.ofString "/claim/cut.py") 310, Value.int 51 0, Value.int 3 0, Value.int 0 0, Value.int 0 0,
        Value.int 3 0, Value.ref 103, Value.bool true, Value.int 181 0, Value.ref 104, Value.none, Value.ref 105, Value.ref 106, Value.ref 107, Value.int 314 0, Value.int 51 0,
        Value.str (Str.ofString "/claim/cut.py") 315] }
noncomputable def o109s9 (P : Params) : Obj :=
{ cls := Value.type "function",
  data :=
    Data.func
      { name := Str.ofString "func", qualname := Str.ofString "Symbols.func",
        params := fnA (mt 8 4), body := FuncBody.stmts (fnB (mt 8 4)), scope := fnS (mt 8 4), globals := 3, closure := [], defaults := Value.none, kwdefaults := Value.none, pyModule := Value.str (Str.ofString "clausemill.symbols") 194, code := Value.ref 108 } }
noncomputable def o110s9 (P : Params) : Obj :=
{ cls := Value.type "tuple", data := Data.seq #[] }
noncomputable def o111s9 (P : Params) : Obj :=
{ cls := Value.none, data := Data.fields #[] }
noncomputable def o112s9 (P : Params) : Obj :=
{ cls := Value.type "tuple", data := Data.seq #[Value.str (Str.ofString "self") 320, Value.str (Str.ofString "functor") 321] }
noncomputable def o113s9 (P : Params) : Obj :=
{ cls := Value.type "tuple", data := Data.seq #[] }
noncomputable def o114s9 (P : Params) : Obj :=
{ cls := Value.none,
  data :=
    Data.func
      { name := Str.ofString "name", qualname := Str.ofString "Symbols.name",
        params := fnA (mt 8 5), body := FuncBody.stmts (fnB (mt 8 5)), scope := fnS (mt 8 5), globals := 0,
        closure := [], defaults := Value.none, kwdefaults := Value.none } }
noncomputable def o115s9 (P : Params) : Obj :=
{ cls := Value.type "code",
  data :=
    Data.fields
      #[Value.str (Str.ofString "name") 317, Value.str (Str.ofString "Symbols.name") 318, Value.str (Str.ofString "/claim/cut.py") 319, Value.int 54 0, Value.int 2 0, Value.int 0 0, Value.int 0 0,
        Value.int 3 0, Value.ref 110, Value.bool true, Value.int 181 0, Value.ref 111, Value.none, Value.ref 112, Value.ref 113, Value.ref 114, Value.int 322 0, Value.int 54 0,
        Value.str (Str.ofString "/claim/cut.py") 323] }
noncomputable def o116s9 (P : Params) : Obj :=
{ cls := Value.type "function",
  data :=
    Data.func
      { name := Str.ofString "name", qualname := Str.ofString "Symbols.name",
        params := fnA (mt 8 5), body := FuncBody.stmts (fnB (mt 8 5)), scope := fnS (mt 8 5), globals := 3,
        closure := [], defaults := Value.none, kwdefaults := Value.none, pyModule := Value.str (Str.ofString "clausemill.symbols") 194, code := Value.ref 115 } }
noncomputable def o117s9 (P : Params) : Obj :=
{ cls := Value.type "tuple", data := Data.seq #[] }
noncomputable def o118s9 (P : Params) : Obj :=
{ cls := Value.none, data := Data.fields #[] }
noncomputable def o119s9 (P : Params) : Obj :=
{ cls := Value.type "tuple", data := Data.seq #[Value.str (Str.ofString "self") 328, Value.str (Str.ofString "functor") 329] }
noncomputable def o120s9 (P : Params) : Obj :=
{ cls := Value.type "tuple", data := Data.seq #[] }
noncomputable def o121s9 (P : Params) : Obj :=
{ cls := Value.none,
  data :=
    Data.func
      { name := Str.ofString "arity", qualname := Str.ofString "Symbols.arity",
        params := fnA (mt 8 6), body := FuncBody.stmts (fnB (mt 8 6)), scope := fnS (mt 8 6), globals := 0,
        closure := [], defaults := Value.none, kwdefaults := Value.none } }
noncomputable def o122s9 (P : Params) : Obj :=
{ cls := Value.type "code",
  data :=
    Data.fields
      #[Value.str (Str.ofString "arity") 325, Value.str (Str.ofString "Symbols.arity") 326, Value.str (Str.ofString "/claim/cut.py") 327, Value.int 57 0, Value.int 2 0, Value.int 0 0, Value.int 0 0,
        Value.int 3 0, Value.ref 117, Value.bool true, Value.int 181 0, Value.ref 118, Value.none, Value.ref 119, Value.ref 120, Value.ref 121, Value.int 330 0, Value.int 57 0,
        Value.str (Str.ofString "/claim/cut.py") 331] }
noncomputable def o123s9 (P : Params) : Obj :=
{ cls := Value.type "function",
  data :=
    Data.func
      { name := Str.ofString "arity", qualname := Str.ofString "Symbols.arity",
        params := fnA (mt 8 6), body := FuncBody.stmts (fnB (mt 8 6)), scope := fnS (mt 8 6), globals := 3,
        closure := [], defaults := Value.none, kwdefaults := Value.none, pyModule := Value.str (Str.ofString "clausemill.symbols") 194, code := Value.ref 122 } }
noncomputable def o124s9 (P : Params) : Obj :=
{ cls := Value.type "tuple", data := Data.seq #[] }
noncomputable def o125s9 (P : Params) : Obj :=
{ cls := Value.none, data := Data.fields #[] }
noncomputable def o126s9 (P : Params) : Obj :=
{ cls := Value.type "tuple", data := Data.seq #[Value.str (Str.ofString "self") 336, Value.str (Str.ofString "functor") 337] }
noncomputable def o127s9 (P : Params) : Obj :=
{ cls := Value.type "tuple", data := Data.seq #[] }
noncomputable def o128s9 (P : Params) : Obj :=
{ cls := Value.none,
  data :=
    Data.func
      { name := Str.ofString "label", qualname := Str.ofString "Symbols.label",
        params := fnA (mt 8 7), body := FuncBody.stmts (fnB (mt 8 7)), scope := fnS (mt 8 7), globals := 0, closure := [], defaults := Value.none, kwdefaults := Value.none } }
noncomputable def o129s9 (P : Params) : Obj :=
{ cls := Value.type "code",
  data :=
    Data.fields
      #[Value.str (Str.ofString "label") 333, Value.str (Str.ofString "Symbols.label") 334, Value.str (Str.ofString "/claim/cut.py") 335, Value.int 60 0, Value.int 2 0, Value.int 0 0, Value.int 0 0,
        Value.int 3 0, Value.ref 124, Value.bool true, Value.int 181 0, Value.ref 125, Value.none, Value.ref 126, Value.ref 127, Value.ref 128, Value.int 338 0, Value.int 60 0,
        Value.str (Str.ofString "/claim/cut.py") 339] }
noncomputable def o130s9 (P : Params) : Obj :=
{ cls := Value.type "function",
  data :=
    Data.func
      { name := Str.ofString "label", qualname := Str.ofString "Symbols.label",
        params := fnA (mt 8 7), body := FuncBody.stmts (fnB (mt 8 7)), scope := fnS (mt 8 7), globals := 3, closure := [], defaults := Value.none, kwdefaults := Value.none, pyModule := Value.str (Str.ofString "clausemill.symbols") 194, code := Value.ref 129 } }
noncomputable def o131s9 (P : Params) : Obj :=
{ cls := Value.type "tuple", data := Data.seq #[] }
noncomputable def o132s9 (P : Params) : Obj :=
{ cls := Value.none, data := Data.fields #[] }
noncomputable def o133s9 (P : Params) : Obj :=
{ cls := Value.type "tuple", data := Data.seq #[Value.str (Str.ofString "self") 344] }
noncomputable def o134s9 (P : Params) : Obj :=
{ cls := Value.type "tuple", data := Data.seq #[] }
noncomputable def o135s9 (P : Params) : Obj :=
{ cls := Value.none,
  data :=
    Data.func
      { name := Str.ofString "count", qualname := Str.ofString "Symbols.count",
        params := fnA (mt 8 8), body := FuncBody.stmts (fnB (mt 8 8)), scope := fnS (mt 8 8), globals := 0, closure := [], defaults := Value.none, kwdefaults := Value.none } }
noncomputable def o136s9 (P : Params) : Obj :=
{ cls := Value.type "code",
  data :=
    Data.fields
      #[Value.str (Str.ofString "count") 341, Value.str (Str.ofString "Symbols.count") 342, Value.str (Str.ofString "/claim/cut.py") 343, Value.int 63 0, Value.int 1 0, Value.int 0 0, Value.int 0 0,
        Value.int 3 0, Value.ref 131, Value.bool true, Value.int 181 0, Value.ref 132, Value.none, Value.ref 133, Value.ref 134, Value.ref 135, Value.int 345 0, Value.int 63 0,
        Value.str (Str.ofString "/claim/cut.py") 346] }
noncomputable def o137s9 (P : Params) : Obj :=
{ cls := Value.type "function",
  data :=
    Data.func
      { name := Str.ofString "count", qualname := Str.ofString "Symbols.count",
        params := fnA (mt 8 8), body := FuncBody.stmts (fnB (mt 8 8)), scope := fnS (mt 8 8), globals := 3, closure := [], defaults := Value.none, kwdefaults := Value.none, pyModule := Value.str (Str.ofString "clausemill.symbols") 194, code := Value.ref 136 } }
noncomputable def o138s9 (P : Params) : Obj :=
{ cls := Value.type "tuple", data := Data.seq #[] }
noncomputable def o139s9 (P : Params) : Obj :=
{ cls := Value.none, data := Data.fields #[] }
noncomputable def o140s9 (P : Params) : Obj :=
{ cls := Value.type "tuple", data := Data.seq #[Value.str (Str.ofString "self") 351] }
noncomputable def o141s9 (P : Params) : Obj :=
{ cls := Value.type "tuple", data := Data.seq #[] }
noncomputable def o142s9 (P : Params) : Obj :=
{ cls := Value.none,
  data :=
    Data.func
      { name := Str.ofString "functor_count", qualname := Str.ofString "Symbols.functor_count",
        params := fnA (mt 8 9), body := FuncBody.stmts (fnB (mt 8 9)), scope := fnS (mt 8 9), globals := 0, closure := [], defaults := Value.none, kwdefaults := Value.none } }
noncomputable def o143s9 (P : Params) : Obj :=
{ cls := Value.type "code",
  data :=
    Data.fields
      #[Value.str (Str.ofString "functor_count") 348, Value.str (Str.ofString "Symbols.functor_count") 349, Value.str (Str.ofString "/claim/cut.py") 350, Value.int 66 0, Value.int 1 0, Value.int 0 0,
        Value.int 0 0, Value.int 3 0, Value.ref 138, Value.bool true, Value.int 181 0, Value.ref 139, Value.none, Value.ref 140, Value.ref 141, Value.ref 142, Value.int 352 0, Value.int 66 0,
        Value.str (Str.ofString "/claim/cut.py") 353] }
noncomputable def o144s9 (P : Params) : Obj :=
{ cls := Value.type "function",
  data :=
    Data.func
      { name := Str.ofString "functor_count", qualname := Str.ofString "Symbols.functor_count",
        params := fnA (mt 8 9), body := FuncBody.stmts (fnB (mt 8 9)), scope := fnS (mt 8 9), globals := 3, closure := [], defaults := Value.none, kwdefaults := Value.none, pyModule := Value.str (Str.ofString "clausemill.symbols") 194, code := Value.ref 143 } }
noncomputable def o145s9 (P : Params) : Obj :=
{ cls := Value.type "tuple", data := Data.seq #[] }
noncomputable def o146s9 (P : Params) : Obj :=
{ cls := Value.none, data := Data.fields #[] }
noncomputable def o147s9 (P : Params) : Obj :=
{ cls := Value.type "tuple", data := Data.seq #[Value.str (Str.ofString "self") 358, Value.str (Str.ofString "text") 359, Value.str (Str.ofString "arity") 360] }
noncomputable def o148s9 (P : Params) : Obj :=
{ cls := Value.type "tuple", data := Data.seq #[] }
noncomputable def o149s9 (P : Params) : Obj :=
{ cls := Value.none,
  data :=
    Data.func
      { name := Str.ofString "known", qualname := Str.ofString "Symbols.known",
        params := fnA (mt 8 10), body := FuncBody.stmts (fnB (mt 8 10)), scope := fnS (mt 8 10), globals := 0, closure := [], defaults := Value.none, kwdefaults := Value.none } }
noncomputable def o150s9 (P : Params) : Obj :=
{ cls := Value.type "code",
  data :=
    Data.fields
      #[Value.str (Str.ofString "known") 355, Value.str (Str.ofString "Symbols.known") 356, Value.str (Str.ofString "/claim/cut.py") 357, Value.int 69 0, Value.int 3 0, Value.int 0 0, Value.int 0 0,
        Value.int 3 0, Value.ref 145, Value.bool true, Value.int 181 0, Value.ref 146, Value.none, Value.ref 147, Value.ref 148, Value.ref 149, Value.int 361 0, Value.int 69 0,
        Value.str (Str.ofString "/claim/cut.py") 362] }
noncomputable def o151s9 (P : Params) : Obj :=
{ cls := Value.type "function",
  data :=
    Data.func
      { name := Str.ofString "known", qualname := Str.ofString "Symbols.known",
        params := fnA (mt 8 10), body := FuncBody.stmts (fnB (mt 8 10)), scope := fnS (mt 8 10), globals := 3, closure := [], defaults := Value.none, kwdefaults := Value.none, pyModule := Value.str (Str.ofString "clausemill.symbols") 194, code := Value.ref 150 } }
noncomputable def o152s9 (P : Params) : Obj :=
{ cls := Value.type "tuple",
  data := Data.seq #[Value.str (Str.ofString "atom_numbers") 364, Value.str (Str.ofString "functor_numbers") 365, Value.str (Str.ofString "functors") 366, Value.str (Str.ofString "texts") 367] }
noncomputable def o153s9 (P : Params) : Obj :=
{ cls := Value.type "dict",
  data :=
    Data.dict
      #[{ hash := PyData.keyHash P (Str.ofString "__module__"), key := Value.str (Str.ofString "__module__") 264, val := Value.str (Str.ofString "clausemill.symbols") 194 },
        { hash := PyData.keyHash P (Str.ofString "__firstlineno__"), key := Value.str (Str.ofString "__firstlineno__") 268, val := Value.int 17 267 },
        { hash := PyData.keyHash P (Str.ofString "__init__"), key := Value.str (Str.ofString "__init__") 277, val := Value.ref 81 },
        { hash := PyData.keyHash P (Str.ofString "atom"), key := Value.str (Str.ofString "atom") 287, val := Value.ref 88 },
        { hash := PyData.keyHash P (Str.ofString "text"), key := Value.str (Str.ofString "text") 295, val := Value.ref 95 },
        { hash := PyData.keyHash P (Str.ofString "functor"), key := Value.str (Str.ofString "functor") 307, val := Value.ref 102 },
        { hash := PyData.keyHash P (Str.ofString "func"), key := Value.str (Str.ofString "func") 316, val := Value.ref 109 },
        { hash := PyData.keyHash P (Str.ofString "name"), key := Value.str (Str.ofString "name") 324, val := Value.ref 116 },
        { hash := PyData.keyHash P (Str.ofString "arity"), key := Value.str (Str.ofString "arity") 332, val := Value.ref 123 },
        { hash := PyData.keyHash P (Str.ofString "label"), key := Value.str (Str.ofString "label") 340, val := Value.ref 130 },
        { hash := PyData.keyHash P (Str.ofString "count"), key := Value.str (Str.ofString "count") 347, val := Value.ref 137 },
        { hash := PyData.keyHash P (Str.ofString "functor_count"), key := Value.str (Str.ofString "functor_count") 354, val := Value.ref 144 },
        { hash := PyData.keyHash P (Str.ofString "known"), key := Value.str (Str.ofString "known") 363, val := Value.ref 151 },
        { hash := PyData.keyHash P (Str.ofString "__static_attributes__"), key := Value.str (Str.ofString "__static_attributes__") 368, val := Value.ref 152 },
        { hash := PyData.keyHash P (Str.ofString "__dict__"), key := Value.str (Str.ofString "__dict__") 370, val := Value.ref 155 },
        { hash := PyData.keyHash P (Str.ofString "__weakref__"), key := Value.str (Str.ofString "__weakref__") 372, val := Value.ref 156 },
        { hash := PyData.keyHash P (Str.ofString "__doc__"), key := Value.str (Str.ofString "__doc__") 373, val := Value.none }]
      4 }
noncomputable def o154s9 (P : Params) : Obj :=
{ cls := Value.type "type",
  data := Data.cls { name := Str.ofString "Symbols", bases := [Value.type "object"], mro := [Value.ref 154, Value.type "object"], ns := 153, qualname := Str.ofString "Symbols" },
  slots := #[none, none, some (Value.str (Str.ofString "Symbols") 257), some (Value.str (Str.ofString "Symbols") 265), some (Value.builtin "object.__new__"), some (Value.bool true)] }
noncomputable def o155s9 (P : Params) : Obj :=
{ cls := Value.type "getset_descriptor", data := Data.fields #[Value.str (Str.ofString "__dict__") 369, Value.ref 154, Value.builtin "function.__dict__", Value.builtin "function.__dict__#set"] }
noncomputable def o156s9 (P : Params) : Obj :=
{ cls := Value.type "getset_descriptor", data := Data.fields #[Value.str (Str.ofString "__weakref__") 371, Value.ref 154, Value.builtin "ExceptionGroup.__weakref__", Value.none] }
noncomputable def o157s9 (P : Params) : Obj :=
{ cls := Value.type "super", data := Data.fields #[Value.ref 154, Value.ref 154, Value.ref 154] }
noncomputable def o158s9 (P : Params) : Obj :=
{ cls := Value.type "builtin_function_or_method", data := Data.fields #[Value.builtin "object.__init_subclass__", Value.ref 154] }
noncomputable def o3s28 (P : Params) : Obj :=
{ cls := Value.type "dict",
  data :=
    Data.dict
      #[{ hash := PyData.keyHash P (Str.ofString "__name__"), key := Value.str (Str.ofString "__name__") 165, val := Value.str (Str.ofString "law_rh0069_01") 469 },
        { hash := PyData.keyHash P (Str.ofString "__doc__"), key := Value.str (Str.ofString "__doc__") 166, val := Value.none },
        { hash := PyData.keyHash P (Str.ofString "__package__"), key := Value.str (Str.ofString "__package__") 167, val := Value.none },
        { hash := PyData.keyHash P (Str.ofString "__loader__"), key := Value.str (Str.ofString "__loader__") 168, val := Value.builtin "__main__.__loader__#opaque" },
        { hash := PyData.keyHash P (Str.ofString "__spec__"), key := Value.str (Str.ofString "__spec__") 169, val := Value.none },
        { hash := PyData.keyHash P (Str.ofString "__annotations__"), key := Value.str (Str.ofString "__annotations__") 170, val := Value.ref 6 },
        { hash := PyData.keyHash P (Str.ofString "__builtins__"), key := Value.str (Str.ofString "__builtins__") 171, val := Value.ref 4 },
        { hash := PyData.keyHash P (Str.ofString "__file__"), key := Value.str (Str.ofString "__file__") 173, val := Value.str (Str.ofString "/claim/cut.py") 172 },
        { hash := PyData.keyHash P (Str.ofString "__cached__"), key := Value.str (Str.ofString "__cached__") 174, val := Value.none },
        { hash := PyData.keyHash P (Str.ofString "_wall"), key := Value.str (Str.ofString "_wall") 193, val := Value.ref 21 },
        { hash := PyData.keyHash P (Str.ofString "ClausemillError"), key := Value.str (Str.ofString "ClausemillError") 215, val := Value.ref 31 },
        { hash := PyData.keyHash P (Str.ofString "PrologError"), key := Value.str (Str.ofString "PrologError") 240, val := Value.ref 51 },
        { hash := PyData.keyHash P (Str.ofString "A_SYSTEM"), key := Value.str (Str.ofString "A_SYSTEM") 242, val := Value.int 25 241 },
        { hash := PyData.keyHash P (Str.ofString "F_ERROR"), key := Value.str (Str.ofString "F_ERROR") 244, val := Value.int 16 243 },
        { hash := PyData.keyHash P (Str.ofString "fixed_atoms"), key := Value.str (Str.ofString "fixed_atoms") 250, val := Value.ref 60 },
        { hash := PyData.keyHash P (Str.ofString "fixed_functors"), key := Value.str (Str.ofString "fixed_functors") 256, val := Value.ref 67 },
        { hash := PyData.keyHash P (Str.ofString "Symbols"), key := Value.str (Str.ofString "Symbols") 375, val := Value.ref 154 },
        { hash := PyData.keyHash P (Str.ofString "integer"), key := Value.str (Str.ofString "integer") 384, val := Value.ref 165 },
        { hash := PyData.keyHash P (Str.ofString "system_error"), key := Value.str (Str.ofString "system_error") 391, val := Value.ref 172 },
        { hash := PyData.keyHash P (Str.ofString "formal_of"), key := Value.str (Str.ofString "formal_of") 402, val := Value.ref 179 },
        { hash := PyData.keyHash P (Str.ofString "type_error"), key := Value.str (Str.ofString "type_error") 411, val := Value.ref 186 },
        { hash := PyData.keyHash P (Str.ofString "resource_error"), key := Value.str (Str.ofString "resource_error") 419, val := Value.ref 193 },
        { hash := PyData.keyHash P (Str.ofString "shift_left"), key := Value.str (Str.ofString "shift_left") 431, val := Value.ref 200 },
        { hash := PyData.keyHash P (Str.ofString "shift_right"), key := Value.str (Str.ofString "shift_right") 441, val := Value.ref 207 },
        { hash := PyData.keyHash P (Str.ofString "sign_of"), key := Value.str (Str.ofString "sign_of") 448, val := Value.ref 214 },
        { hash := PyData.keyHash P (Str.ofString "apply_unary"), key := Value.str (Str.ofString "apply_unary") 457, val := Value.ref 221 },
        { hash := PyData.keyHash P (Str.ofString "apply_bits"), key := Value.str (Str.ofString "apply_bits") 468, val := Value.ref 228 },
        { hash := PyData.keyHash P (Str.ofString "_law_draw"), key := Value.str (Str.ofString "_law_draw") 479, val := Value.ref 235 },
        { hash := PyData.keyHash P (Str.ofString "_law_whole"), key := Value.str (Str.ofString "_law_whole") 489, val := Value.ref 242 },
        { hash := PyData.keyHash P (Str.ofString "_law_bit"), key := Value.str (Str.ofString "_law_bit") 498, val := Value.ref 249 },
        { hash := PyData.keyHash P (Str.ofString "_law_read"), key := Value.str (Str.ofString "_law_read") 509, val := Value.ref 256 },
        { hash := PyData.keyHash P (Str.ofString "_law_of"), key := Value.str (Str.ofString "_law_of") 519, val := Value.ref 263 },
        { hash := PyData.keyHash P (Str.ofString "law"), key := Value.str (Str.ofString "law") 525, val := Value.ref 268 }]
      33 }
noncomputable def o12s28 (P : Params) : Obj :=
{ cls := Value.none,
  data :=
    Data.fields
      #[Value.int 1 0, Value.int 0 0, Value.ref 20, Value.int 5 0, Value.int 0 0, Value.ref 27, Value.int 7 0, Value.int 0 0, Value.ref 40, Value.int 13 0, Value.int 0 0, Value.ref 59, Value.int 15 0,
        Value.int 0 0, Value.ref 66, Value.int 17 0, Value.int 0 0, Value.ref 73, Value.int 72 0, Value.int 0 0, Value.ref 164, Value.int 74 0, Value.int 0 0, Value.ref 171, Value.int 76 0,
        Value.int 0 0, Value.ref 178, Value.int 81 0, Value.int 0 0, Value.ref 185, Value.int 83 0, Value.int 0 0, Value.ref 192, Value.int 86 0, Value.int 0 0, Value.ref 199, Value.int 94 0,
        Value.int 0 0, Value.ref 206, Value.int 102 0, Value.int 0 0, Value.ref 213, Value.int 108 0, Value.int 0 0, Value.ref 220, Value.int 124 0, Value.int 0 0, Value.ref 227, Value.int 135 0,
        Value.int 0 0, Value.ref 234, Value.int 145 0, Value.int 0 0, Value.ref 241, Value.int 154 0, Value.int 0 0, Value.ref 248, Value.int 160 0, Value.int 0 0, Value.ref 255, Value.int 169 0,
        Value.int 0 0, Value.ref 262, Value.int 171 0, Value.int 0 0, Value.ref 267] }
noncomputable def o159s28 (P : Params) : Obj :=
{ cls := Value.type "tuple", data := Data.seq #[] }
noncomputable def o160s28 (P : Params) : Obj :=
{ cls := Value.none, data := Data.fields #[] }
noncomputable def o161s28 (P : Params) : Obj :=
{ cls := Value.type "tuple", data := Data.seq #[Value.str (Str.ofString "whole") 381] }
noncomputable def o162s28 (P : Params) : Obj :=
{ cls := Value.type "tuple", data := Data.seq #[] }
noncomputable def o163s28 (P : Params) : Obj :=
{ cls := Value.none,
  data :=
    Data.func
      { name := Str.ofString "integer", qualname := Str.ofString "integer",
        params := fnA (st 10), body := FuncBody.stmts (fnB (st 10)), scope := fnS (st 10), globals := 0, closure := [], defaults := Value.none,
        kwdefaults := Value.none } }
noncomputable def o164s28 (P : Params) : Obj :=
{ cls := Value.type "code",
  data :=
    Data.fields
      #[Value.str (Str.ofString "integer") 378, Value.str (Str.ofString "integer") 379, Value.str (Str.ofString "/claim/cut.py") 380, Value.int 72 0, Value.int 1 0, Value.int 0 0, Value.int 0 0,
        Value.int 3 0, Value.ref 159, Value.bool true, Value.int 181 0, Value.ref 160, Value.none, Value.ref 161, Value.ref 162, Value.ref 163, Value.int 382 0, Value.int 72 0,
        Value.str (Str.ofString "/claim/cut.py") 383] }
noncomputable def o165s28 (P : Params) : Obj :=
{ cls := Value.type "function",
  data :=
    Data.func
      { name := Str.ofString "integer", qualname := Str.ofString "integer",
        params := fnA (st 10), body := FuncBody.stmts (fnB (st 10)), scope := fnS (st 10), globals := 3, closure := [], defaults := Value.none,
        kwdefaults := Value.none, pyModule := Value.str (Str.ofString "clausemill.terms") 376, code := Value.ref 164 } }
noncomputable def o166s28 (P : Params) : Obj :=
{ cls := Value.type "tuple", data := Data.seq #[] }
noncomputable def o167s28 (P : Params) : Obj :=
{ cls := Value.none, data := Data.fields #[] }
noncomputable def o168s28 (P : Params) : Obj :=
{ cls := Value.type "tuple", data := Data.seq #[Value.str (Str.ofString "formal") 388] }
noncomputable def o169s28 (P : Params) : Obj :=
{ cls := Value.type "tuple", data := Data.seq #[] }
noncomputable def o170s28 (P : Params) : Obj :=
{ cls := Value.none,
  data :=
    Data.func
      { name := Str.ofString "system_error", qualname := Str.ofString "system_error",
        params := fnA (st 11), body := FuncBody.stmts (fnB (st 11)), scope := fnS (st 11), globals := 0, closure := [], defaults := Value.none, kwdefaults := Value.none } }
noncomputable def o171s28 (P : Params) : Obj :=
{ cls := Value.type "code",
  data :=
    Data.fields
      #[Value.str (Str.ofString "system_error") 385, Value.str (Str.ofString "system_error") 386, Value.str (Str.ofString "/claim/cut.py") 387, Value.int 74 0, Value.int 1 0, Value.int 0 0,
        Value.int 0 0, Value.int 3 0, Value.ref 166, Value.bool true, Value.int 181 0, Value.ref 167, Value.none, Value.ref 168, Value.ref 169, Value.ref 170, Value.int 389 0, Value.int 74 0,
        Value.str (Str.ofString "/claim/cut.py") 390] }
noncomputable def o172s28 (P : Params) : Obj :=
{ cls := Value.type "function",
  data :=
    Data.func
      { name := Str.ofString "system_error", qualname := Str.ofString "system_error",
        params := fnA (st 11), body := FuncBody.stmts (fnB (st 11)), scope := fnS (st 11), globals := 3, closure := [], defaults := Value.none, kwdefaults := Value.none, pyModule := Value.str (Str.ofString "clausemill.terms") 376, code := Value.ref 171 } }
noncomputable def o173s28 (P : Params) : Obj :=
{ cls := Value.type "tuple", data := Data.seq #[] }
noncomputable def o174s28 (P : Params) : Obj :=
{ cls := Value.none, data := Data.fields #[] }
noncomputable def o175s28 (P : Params) : Obj :=
{ cls := Value.type "tuple",
  data :=
    Data.seq
      #[Value.str (Str.ofString "symbols") 395, Value.str (Str.ofString "name") 396, Value.str (Str.ofString "parts") 397, Value.str (Str.ofString "args") 398, Value.str (Str.ofString "part") 399] }
noncomputable def o176s28 (P : Params) : Obj :=
{ cls := Value.type "tuple", data := Data.seq #[] }
noncomputable def o177s28 (P : Params) : Obj :=
{ cls := Value.none,
  data :=
    Data.func
      { name := Str.ofString "formal_of", qualname := Str.ofString "formal_of",
        params := fnA (st 12), body := FuncBody.stmts (fnB (st 12)), scope := fnS (st 12), globals := 0, closure := [], defaults := Value.none, kwdefaults := Value.none } }
noncomputable def o178s28 (P : Params) : Obj :=
{ cls := Value.type "code",
  data :=
    Data.fields
      #[Value.str (Str.ofString "formal_of") 392, Value.str (Str.ofString "formal_of") 393, Value.str (Str.ofString "/claim/cut.py") 394, Value.int 76 0, Value.int 3 0, Value.int 0 0, Value.int 0 0,
        Value.int 3 0, Value.ref 173, Value.bool true, Value.int 181 0, Value.ref 174, Value.none, Value.ref 175, Value.ref 176, Value.ref 177, Value.int 400 0, Value.int 76 0,
        Value.str (Str.ofString "/claim/cut.py") 401] }
noncomputable def o179s28 (P : Params) : Obj :=
{ cls := Value.type "function",
  data :=
    Data.func
      { name := Str.ofString "formal_of", qualname := Str.ofString "formal_of",
        params := fnA (st 12), body := FuncBody.stmts (fnB (st 12)), scope := fnS (st 12), globals := 3, closure := [], defaults := Value.none, kwdefaults := Value.none, pyModule := Value.str (Str.ofString "clausemill.terms") 376, code := Value.ref 178 } }
noncomputable def o180s28 (P : Params) : Obj :=
{ cls := Value.type "tuple", data := Data.seq #[] }
noncomputable def o181s28 (P : Params) : Obj :=
{ cls := Value.none, data := Data.fields #[] }
noncomputable def o182s28 (P : Params) : Obj :=
{ cls := Value.type "tuple", data := Data.seq #[Value.str (Str.ofString "symbols") 406, Value.str (Str.ofString "kind") 407, Value.str (Str.ofString "culprit") 408] }
noncomputable def o183s28 (P : Params) : Obj :=
{ cls := Value.type "tuple", data := Data.seq #[] }
noncomputable def o184s28 (P : Params) : Obj :=
{ cls := Value.none,
  data :=
    Data.func
      { name := Str.ofString "type_error", qualname := Str.ofString "type_error",
        params := fnA (st 13), body := FuncBody.stmts (fnB (st 13)), scope := fnS (st 13), globals := 0, closure := [], defaults := Value.none, kwdefaults := Value.none } }
noncomputable def o185s28 (P : Params) : Obj :=
{ cls := Value.type "code",
  data :=
    Data.fields
      #[Value.str (Str.ofString "type_error") 403, Value.str (Str.ofString "type_error") 404, Value.str (Str.ofString "/claim/cut.py") 405, Value.int 81 0, Value.int 3 0, Value.int 0 0, Value.int 0 0,
        Value.int 3 0, Value.ref 180, Value.bool true, Value.int 181 0, Value.ref 181, Value.none, Value.ref 182, Value.ref 183, Value.ref 184, Value.int 409 0, Value.int 81 0,
        Value.str (Str.ofString "/claim/cut.py") 410] }
noncomputable def o186s28 (P : Params) : Obj :=
{ cls := Value.type "function",
  data :=
    Data.func
      { name := Str.ofString "type_error", qualname := Str.ofString "type_error",
        params := fnA (st 13), body := FuncBody.stmts (fnB (st 13)), scope := fnS (st 13), globals := 3, closure := [], defaults := Value.none, kwdefaults := Value.none, pyModule := Value.str (Str.ofString "clausemill.terms") 376, code := Value.ref 185 } }
noncomputable def o187s28 (P : Params) : Obj :=
{ cls := Value.type "tuple", data := Data.seq #[] }
noncomputable def o188s28 (P : Params) : Obj :=
{ cls := Value.none, data := Data.fields #[] }
noncomputable def o189s28 (P : Params) : Obj :=
{ cls := Value.type "tuple", data := Data.seq #[Value.str (Str.ofString "symbols") 415, Value.str (Str.ofString "what") 416] }
noncomputable def o190s28 (P : Params) : Obj :=
{ cls := Value.type "tuple", data := Data.seq #[] }
noncomputable def o191s28 (P : Params) : Obj :=
{ cls := Value.none,
  data :=
    Data.func
      { name := Str.ofString "resource_error", qualname := Str.ofString "resource_error",
        params := fnA (st 14), body := FuncBody.stmts (fnB (st 14)), scope := fnS (st 14), globals := 0, closure := [], defaults := Value.none, kwdefaults := Value.none } }
noncomputable def o192s28 (P : Params) : Obj :=
{ cls := Value.type "code",
  data :=
    Data.fields
      #[Value.str (Str.ofString "resource_error") 412, Value.str (Str.ofString "resource_error") 413, Value.str (Str.ofString "/claim/cut.py") 414, Value.int 83 0, Value.int 2 0, Value.int 0 0,
        Value.int 0 0, Value.int 3 0, Value.ref 187, Value.bool true, Value.int 181 0, Value.ref 188, Value.none, Value.ref 189, Value.ref 190, Value.ref 191, Value.int 417 0, Value.int 83 0,
        Value.str (Str.ofString "/claim/cut.py") 418] }
noncomputable def o193s28 (P : Params) : Obj :=
{ cls := Value.type "function",
  data :=
    Data.func
      { name := Str.ofString "resource_error", qualname := Str.ofString "resource_error",
        params := fnA (st 14), body := FuncBody.stmts (fnB (st 14)), scope := fnS (st 14), globals := 3, closure := [], defaults := Value.none, kwdefaults := Value.none, pyModule := Value.str (Str.ofString "clausemill.terms") 376, code := Value.ref 192 } }
noncomputable def o194s28 (P : Params) : Obj :=
{ cls := Value.type "tuple", data := Data.seq #[] }
noncomputable def o195s28 (P : Params) : Obj :=
{ cls := Value.none, data := Data.fields #[] }
noncomputable def o196s28 (P : Params) : Obj :=
{ cls := Value.type "tuple",
  data := Data.seq #[Value.str (Str.ofString "symbols") 425, Value.str (Str.ofString "value") 426, Value.str (Str.ofString "count") 427, Value.str (Str.ofString "max_bits") 428] }
noncomputable def o197s28 (P : Params) : Obj :=
{ cls := Value.type "tuple", data := Data.seq #[] }
noncomputable def o198s28 (P : Params) : Obj :=
{ cls := Value.none,
  data :=
    Data.func
      { name := Str.ofString "shift_left", qualname := Str.ofString "shift_left",
        params := fnA (st 16), body := FuncBody.stmts (fnB (st 16)), scope := fnS (st 16), globals := 0, closure := [], defaults := Value.none, kwdefaults := Value.none } }
noncomputable def o199s28 (P : Params) : Obj :=
{ cls := Value.type "code",
  data :=
    Data.fields
      #[Value.str (Str.ofString "shift_left") 422, Value.str (Str.ofString "shift_left") 423, Value.str (Str.ofString "/claim/cut.py") 424, Value.int 86 0, Value.int 4 0, Value.int 0 0, Value.int 0 0,
        Value.int 3 0, Value.ref 194, Value.bool true, Value.int 181 0, Value.ref 195, Value.none, Value.ref 196, Value.ref 197, Value.ref 198, Value.int 429 0, Value.int 86 0,
        Value.str (Str.ofString "/claim/cut.py") 430] }
noncomputable def o200s28 (P : Params) : Obj :=
{ cls := Value.type "function",
  data :=
    Data.func
      { name := Str.ofString "shift_left", qualname := Str.ofString "shift_left",
        params := fnA (st 16), body := FuncBody.stmts (fnB (st 16)), scope := fnS (st 16), globals := 3, closure := [], defaults := Value.none, kwdefaults := Value.none, pyModule := Value.str (Str.ofString "clausemill.arith") 420, code := Value.ref 199 } }
noncomputable def o201s28 (P : Params) : Obj :=
{ cls := Value.type "tuple", data := Data.seq #[] }
noncomputable def o202s28 (P : Params) : Obj :=
{ cls := Value.none, data := Data.fields #[] }
noncomputable def o203s28 (P : Params) : Obj :=
{ cls := Value.type "tuple",
  data := Data.seq #[Value.str (Str.ofString "symbols") 435, Value.str (Str.ofString "value") 436, Value.str (Str.ofString "count") 437, Value.str (Str.ofString "max_bits") 438] }
noncomputable def o204s28 (P : Params) : Obj :=
{ cls := Value.type "tuple", data := Data.seq #[] }
noncomputable def o205s28 (P : Params) : Obj :=
{ cls := Value.none,
  data :=
    Data.func
      { name := Str.ofString "shift_right", qualname := Str.ofString "shift_right",
        params := fnA (st 17), body := FuncBody.stmts (fnB (st 17)), scope := fnS (st 17), globals := 0, closure := [], defaults := Value.none, kwdefaults := Value.none } }
noncomputable def o206s28 (P : Params) : Obj :=
{ cls := Value.type "code",
  data :=
    Data.fields
      #[Value.str (Str.ofString "shift_right") 432, Value.str (Str.ofString "shift_right") 433, Value.str (Str.ofString "/claim/cut.py") 434, Value.int 94 0, Value.int 4 0, Value.int 0 0,
        Value.int 0 0, Value.int 3 0, Value.ref 201, Value.bool true, Value.int 181 0, Value.ref 202, Value.none, Value.ref 203, Value.ref 204, Value.ref 205, Value.int 439 0, Value.int 94 0,
        Value.str (Str.ofString "/claim/cut.py") 440] }
noncomputable def o207s28 (P : Params) : Obj :=
{ cls := Value.type "function",
  data :=
    Data.func
      { name := Str.ofString "shift_right", qualname := Str.ofString "shift_right",
        params := fnA (st 17), body := FuncBody.stmts (fnB (st 17)), scope := fnS (st 17), globals := 3, closure := [], defaults := Value.none, kwdefaults := Value.none, pyModule := Value.str (Str.ofString "clausemill.arith") 420, code := Value.ref 206 } }
noncomputable def o208s28 (P : Params) : Obj :=
{ cls := Value.type "tuple", data := Data.seq #[] }
noncomputable def o209s28 (P : Params) : Obj :=
{ cls := Value.none, data := Data.fields #[] }
noncomputable def o210s28 (P : Params) : Obj :=
{ cls := Value.type "tuple", data := Data.seq #[Value.str (Str.ofString "value") 445] }
noncomputable def o211s28 (P : Params) : Obj :=
{ cls := Value.type "tuple", data := Data.seq #[] }
noncomputable def o212s28 (P : Params) : Obj :=
{ cls := Value.none,
  data :=
    Data.func
      { name := Str.ofString "sign_of", qualname := Str.ofString "sign_of",
        params := fnA (st 18), body := FuncBody.stmts (fnB (st 18)), scope := fnS (st 18), globals := 0, closure := [], defaults := Value.none,
        kwdefaults := Value.none } }
noncomputable def o213s28 (P : Params) : Obj :=
{ cls := Value.type "code",
  data :=
    Data.fields
      #[Value.str (Str.ofString "sign_of") 442, Value.str (Str.ofString "sign_of") 443, Value.str (Str.ofString "/claim/cut.py") 444, Value.int 102 0, Value.int 1 0, Value.int 0 0, Value.int 0 0,
        Value.int 3 0, Value.ref 208, Value.bool true, Value.int 181 0, Value.ref 209, Value.none, Value.ref 210, Value.ref 211, Value.ref 212, Value.int 446 0, Value.int 102 0,
        Value.str (Str.ofString "/claim/cut.py") 447] }
noncomputable def o214s28 (P : Params) : Obj :=
{ cls := Value.type "function",
  data :=
    Data.func
      { name := Str.ofString "sign_of", qualname := Str.ofString "sign_of",
        params := fnA (st 18), body := FuncBody.stmts (fnB (st 18)), scope := fnS (st 18), globals := 3, closure := [], defaults := Value.none,
        kwdefaults := Value.none, pyModule := Value.str (Str.ofString "clausemill.arith") 420, code := Value.ref 213 } }
noncomputable def o215s28 (P : Params) : Obj :=
{ cls := Value.type "tuple", data := Data.seq #[] }
noncomputable def o216s28 (P : Params) : Obj :=
{ cls := Value.none, data := Data.fields #[] }
noncomputable def o217s28 (P : Params) : Obj :=
{ cls := Value.type "tuple", data := Data.seq #[Value.str (Str.ofString "symbols") 452, Value.str (Str.ofString "text") 453, Value.str (Str.ofString "value") 454] }
noncomputable def o218s28 (P : Params) : Obj :=
{ cls := Value.type "tuple", data := Data.seq #[] }
noncomputable def o219s28 (P : Params) : Obj :=
{ cls := Value.none,
  data :=
    Data.func
      { name := Str.ofString "apply_unary", qualname := Str.ofString "apply_unary",
        params := fnA (st 19), body := FuncBody.stmts (fnB (st 19)), scope := fnS (st 19), globals := 0, closure := [], defaults := Value.none, kwdefaults := Value.none } }
noncomputable def o220s28 (P : Params) : Obj :=
{ cls := Value.type "code",
  data :=
    Data.fields
      #[Value.str (Str.ofString "apply_unary") 449, Value.str (Str.ofString "apply_unary") 450, Value.str (Str.ofString "/claim/cut.py") 451, Value.int 108 0, Value.int 3 0, Value.int 0 0,
        Value.int 0 0, Value.int 3 0, Value.ref 215, Value.bool true, Value.int 181 0, Value.ref 216, Value.none, Value.ref 217, Value.ref 218, Value.ref 219, Value.int 455 0, Value.int 108 0,
        Value.str (Str.ofString "/claim/cut.py") 456] }
noncomputable def o221s28 (P : Params) : Obj :=
{ cls := Value.type "function",
  data :=
    Data.func
      { name := Str.ofString "apply_unary", qualname := Str.ofString "apply_unary",
        params := fnA (st 19), body := FuncBody.stmts (fnB (st 19)), scope := fnS (st 19), globals := 3, closure := [], defaults := Value.none, kwdefaults := Value.none, pyModule := Value.str (Str.ofString "clausemill.arith") 420, code := Value.ref 220 } }
noncomputable def o222s28 (P : Params) : Obj :=
{ cls := Value.type "tuple", data := Data.seq #[] }
noncomputable def o223s28 (P : Params) : Obj :=
{ cls := Value.none, data := Data.fields #[] }
noncomputable def o224s28 (P : Params) : Obj :=
{ cls := Value.type "tuple",
  data :=
    Data.seq
      #[Value.str (Str.ofString "symbols") 461, Value.str (Str.ofString "text") 462, Value.str (Str.ofString "first") 463, Value.str (Str.ofString "second") 464,
        Value.str (Str.ofString "max_bits") 465] }
noncomputable def o225s28 (P : Params) : Obj :=
{ cls := Value.type "tuple", data := Data.seq #[] }
noncomputable def o226s28 (P : Params) : Obj :=
{ cls := Value.none,
  data :=
    Data.func
      { name := Str.ofString "apply_bits", qualname := Str.ofString "apply_bits",
        params := fnA (st 20), body := FuncBody.stmts (fnB (st 20)), scope := fnS (st 20), globals := 0, closure := [], defaults := Value.none, kwdefaults := Value.none } }
noncomputable def o227s28 (P : Params) : Obj :=
{ cls := Value.type "code",
  data :=
    Data.fields
      #[Value.str (Str.ofString "apply_bits") 458, Value.str (Str.ofString "apply_bits") 459, Value.str (Str.ofString "/claim/cut.py") 460, Value.int 124 0, Value.int 5 0, Value.int 0 0,
        Value.int 0 0, Value.int 3 0, Value.ref 222, Value.bool true, Value.int 181 0, Value.ref 223, Value.none, Value.ref 224, Value.ref 225, Value.ref 226, Value.int 466 0, Value.int 124 0,
        Value.str (Str.ofString "/claim/cut.py") 467] }
noncomputable def o228s28 (P : Params) : Obj :=
{ cls := Value.type "function",
  data :=
    Data.func
      { name := Str.ofString "apply_bits", qualname := Str.ofString "apply_bits",
        params := fnA (st 20), body := FuncBody.stmts (fnB (st 20)), scope := fnS (st 20), globals := 3, closure := [], defaults := Value.none, kwdefaults := Value.none, pyModule := Value.str (Str.ofString "clausemill.arith") 420, code := Value.ref 227 } }
noncomputable def o229s28 (P : Params) : Obj :=
{ cls := Value.type "tuple", data := Data.seq #[] }
noncomputable def o230s28 (P : Params) : Obj :=
{ cls := Value.none, data := Data.fields #[] }
noncomputable def o231s28 (P : Params) : Obj :=
{ cls := Value.type "tuple", data := Data.seq #[Value.str (Str.ofString "pool") 474, Value.str (Str.ofString "limit") 475, Value.str (Str.ofString "digit") 476] }
noncomputable def o232s28 (P : Params) : Obj :=
{ cls := Value.type "tuple", data := Data.seq #[] }
noncomputable def o233s28 (P : Params) : Obj :=
{ cls := Value.none,
  data :=
    Data.func
      { name := Str.ofString "_law_draw", qualname := Str.ofString "_law_draw",
        params := fnA (st 22), body := FuncBody.stmts (fnB (st 22)), scope := fnS (st 22), globals := 0, closure := [], defaults := Value.none, kwdefaults := Value.none } }
noncomputable def o234s28 (P : Params) : Obj :=
{ cls := Value.type "code",
  data :=
    Data.fields
      #[Value.str (Str.ofString "_law_draw") 471, Value.str (Str.ofString "_law_draw") 472, Value.str (Str.ofString "/claim/cut.py") 473, Value.int 135 0, Value.int 2 0, Value.int 0 0, Value.int 0 0,
        Value.int 3 0, Value.ref 229, Value.bool true, Value.int 181 0, Value.ref 230, Value.none, Value.ref 231, Value.ref 232, Value.ref 233, Value.int 477 0, Value.int 135 0,
        Value.str (Str.ofString "/claim/cut.py") 478] }
noncomputable def o235s28 (P : Params) : Obj :=
{ cls := Value.type "function",
  data :=
    Data.func
      { name := Str.ofString "_law_draw", qualname := Str.ofString "_law_draw",
        params := fnA (st 22), body := FuncBody.stmts (fnB (st 22)), scope := fnS (st 22), globals := 3, closure := [], defaults := Value.none, kwdefaults := Value.none, pyModule := Value.str (Str.ofString "law_rh0069_01") 469, code := Value.ref 234 } }
noncomputable def o236s28 (P : Params) : Obj :=
{ cls := Value.type "tuple", data := Data.seq #[] }
noncomputable def o237s28 (P : Params) : Obj :=
{ cls := Value.none, data := Data.fields #[] }
noncomputable def o238s28 (P : Params) : Obj :=
{ cls := Value.type "tuple", data := Data.seq #[Value.str (Str.ofString "pool") 483, Value.str (Str.ofString "kind") 484, Value.str (Str.ofString "near") 485, Value.str (Str.ofString "edge") 486] }
noncomputable def o239s28 (P : Params) : Obj :=
{ cls := Value.type "tuple", data := Data.seq #[] }
noncomputable def o240s28 (P : Params) : Obj :=
{ cls := Value.none,
  data :=
    Data.func
      { name := Str.ofString "_law_whole", qualname := Str.ofString "_law_whole",
        params := fnA (st 23), body := FuncBody.stmts (fnB (st 23)), scope := fnS (st 23), globals := 0, closure := [], defaults := Value.none, kwdefaults := Value.none } }
noncomputable def o241s28 (P : Params) : Obj :=
{ cls := Value.type "code",
  data :=
    Data.fields
      #[Value.str (Str.ofString "_law_whole") 480, Value.str (Str.ofString "_law_whole") 481, Value.str (Str.ofString "/claim/cut.py") 482, Value.int 145 0, Value.int 1 0, Value.int 0 0,
        Value.int 0 0, Value.int 3 0, Value.ref 236, Value.bool true, Value.int 181 0, Value.ref 237, Value.none, Value.ref 238, Value.ref 239, Value.ref 240, Value.int 487 0, Value.int 145 0,
        Value.str (Str.ofString "/claim/cut.py") 488] }
noncomputable def o242s28 (P : Params) : Obj :=
{ cls := Value.type "function",
  data :=
    Data.func
      { name := Str.ofString "_law_whole", qualname := Str.ofString "_law_whole",
        params := fnA (st 23), body := FuncBody.stmts (fnB (st 23)), scope := fnS (st 23), globals := 3, closure := [], defaults := Value.none, kwdefaults := Value.none, pyModule := Value.str (Str.ofString "law_rh0069_01") 469, code := Value.ref 241 } }
noncomputable def o243s28 (P : Params) : Obj :=
{ cls := Value.type "tuple", data := Data.seq #[] }
noncomputable def o244s28 (P : Params) : Obj :=
{ cls := Value.none, data := Data.fields #[] }
noncomputable def o245s28 (P : Params) : Obj :=
{ cls := Value.type "tuple", data := Data.seq #[Value.str (Str.ofString "word") 493, Value.str (Str.ofString "one") 494, Value.str (Str.ofString "other") 495] }
noncomputable def o246s28 (P : Params) : Obj :=
{ cls := Value.type "tuple", data := Data.seq #[] }
noncomputable def o247s28 (P : Params) : Obj :=
{ cls := Value.none,
  data :=
    Data.func
      { name := Str.ofString "_law_bit", qualname := Str.ofString "_law_bit",
        params := fnA (st 24), body := FuncBody.stmts (fnB (st 24)), scope := fnS (st 24), globals := 0, closure := [], defaults := Value.none, kwdefaults := Value.none } }
noncomputable def o248s28 (P : Params) : Obj :=
{ cls := Value.type "code",
  data :=
    Data.fields
      #[Value.str (Str.ofString "_law_bit") 490, Value.str (Str.ofString "_law_bit") 491, Value.str (Str.ofString "/claim/cut.py") 492, Value.int 154 0, Value.int 3 0, Value.int 0 0, Value.int 0 0,
        Value.int 3 0, Value.ref 243, Value.bool true, Value.int 181 0, Value.ref 244, Value.none, Value.ref 245, Value.ref 246, Value.ref 247, Value.int 496 0, Value.int 154 0,
        Value.str (Str.ofString "/claim/cut.py") 497] }
noncomputable def o249s28 (P : Params) : Obj :=
{ cls := Value.type "function",
  data :=
    Data.func
      { name := Str.ofString "_law_bit", qualname := Str.ofString "_law_bit",
        params := fnA (st 24), body := FuncBody.stmts (fnB (st 24)), scope := fnS (st 24), globals := 3, closure := [], defaults := Value.none, kwdefaults := Value.none, pyModule := Value.str (Str.ofString "law_rh0069_01") 469, code := Value.ref 248 } }
noncomputable def o250s28 (P : Params) : Obj :=
{ cls := Value.type "tuple", data := Data.seq #[] }
noncomputable def o251s28 (P : Params) : Obj :=
{ cls := Value.none, data := Data.fields #[] }
noncomputable def o252s28 (P : Params) : Obj :=
{ cls := Value.type "tuple",
  data :=
    Data.seq
      #[Value.str (Str.ofString "word") 502, Value.str (Str.ofString "one") 503, Value.str (Str.ofString "other") 504, Value.str (Str.ofString "total") 505, Value.str (Str.ofString "weight") 506] }
noncomputable def o253s28 (P : Params) : Obj :=
{ cls := Value.type "tuple", data := Data.seq #[] }
noncomputable def o254s28 (P : Params) : Obj :=
{ cls := Value.none,
  data :=
    Data.func
      { name := Str.ofString "_law_read", qualname := Str.ofString "_law_read",
        params := fnA (st 25), body := FuncBody.stmts (fnB (st 25)), scope := fnS (st 25), globals := 0, closure := [], defaults := Value.none, kwdefaults := Value.none } }
noncomputable def o255s28 (P : Params) : Obj :=
{ cls := Value.type "code",
  data :=
    Data.fields
      #[Value.str (Str.ofString "_law_read") 499, Value.str (Str.ofString "_law_read") 500, Value.str (Str.ofString "/claim/cut.py") 501, Value.int 160 0, Value.int 3 0, Value.int 0 0, Value.int 0 0,
        Value.int 3 0, Value.ref 250, Value.bool true, Value.int 181 0, Value.ref 251, Value.none, Value.ref 252, Value.ref 253, Value.ref 254, Value.int 507 0, Value.int 160 0,
        Value.str (Str.ofString "/claim/cut.py") 508] }
noncomputable def o256s28 (P : Params) : Obj :=
{ cls := Value.type "function",
  data :=
    Data.func
      { name := Str.ofString "_law_read", qualname := Str.ofString "_law_read",
        params := fnA (st 25), body := FuncBody.stmts (fnB (st 25)), scope := fnS (st 25), globals := 3, closure := [], defaults := Value.none, kwdefaults := Value.none, pyModule := Value.str (Str.ofString "law_rh0069_01") 469, code := Value.ref 255 } }
noncomputable def o257s28 (P : Params) : Obj :=
{ cls := Value.type "tuple", data := Data.seq #[] }
noncomputable def o258s28 (P : Params) : Obj :=
{ cls := Value.none, data := Data.fields #[] }
noncomputable def o259s28 (P : Params) : Obj :=
{ cls := Value.type "tuple", data := Data.seq #[Value.str (Str.ofString "names") 513, Value.str (Str.ofString "word") 514, Value.str (Str.ofString "one") 515, Value.str (Str.ofString "other") 516] }
noncomputable def o260s28 (P : Params) : Obj :=
{ cls := Value.type "tuple", data := Data.seq #[] }
noncomputable def o261s28 (P : Params) : Obj :=
{ cls := Value.none,
  data :=
    Data.func
      { name := Str.ofString "_law_of", qualname := Str.ofString "_law_of",
        params := fnA (st 26), body := FuncBody.stmts (fnB (st 26)), scope := fnS (st 26), globals := 0, closure := [], defaults := Value.none, kwdefaults := Value.none } }
noncomputable def o262s28 (P : Params) : Obj :=
{ cls := Value.type "code",
  data :=
    Data.fields
      #[Value.str (Str.ofString "_law_of") 510, Value.str (Str.ofString "_law_of") 511, Value.str (Str.ofString "/claim/cut.py") 512, Value.int 169 0, Value.int 4 0, Value.int 0 0, Value.int 0 0,
        Value.int 3 0, Value.ref 257, Value.bool true, Value.int 181 0, Value.ref 258, Value.none, Value.ref 259, Value.ref 260, Value.ref 261, Value.int 517 0, Value.int 169 0,
        Value.str (Str.ofString "/claim/cut.py") 518] }
noncomputable def o263s28 (P : Params) : Obj :=
{ cls := Value.type "function",
  data :=
    Data.func
      { name := Str.ofString "_law_of", qualname := Str.ofString "_law_of",
        params := fnA (st 26), body := FuncBody.stmts (fnB (st 26)), scope := fnS (st 26), globals := 3, closure := [], defaults := Value.none, kwdefaults := Value.none, pyModule := Value.str (Str.ofString "law_rh0069_01") 469, code := Value.ref 262 } }
noncomputable def o264s28 (P : Params) : Obj :=
{ cls := Value.type "tuple", data := Data.seq #[] }
noncomputable def o265s28 (P : Params) : Obj :=
{ cls := Value.none, data := Data.fields #[] }
noncomputable def o266s28 (P : Params) : Obj :=
{ cls := Value.none,
  data :=
    Data.func
      { name := Str.ofString "law", qualname := Str.ofString "law",
        params := fnA (st 27), body := FuncBody.stmts (fnB (st 27)), scope := fnS (st 27), globals := 0, closure := [], defaults := Value.none, kwdefaults := Value.none } }
noncomputable def o267s28 (P : Params) : Obj :=
{ cls := Value.type "code",
  data :=
    Data.fields
      #[Value.str (Str.ofString "law") 520, Value.str (Str.ofString "law") 521, Value.str (Str.ofString "/claim/cut.py") 522, Value.int 171 0, Value.int 1 0, Value.int 0 0, Value.int 0 0,
        Value.int 3 0, Value.ref 264, Value.bool true, Value.int 181 0, Value.ref 265, Value.none, Value.none, Value.none, Value.ref 266, Value.int 523 0, Value.int 171 0,
        Value.str (Str.ofString "/claim/cut.py") 524] }
noncomputable def o268s28 (P : Params) : Obj :=
{ cls := Value.type "function",
  data :=
    Data.func
      { name := Str.ofString "law", qualname := Str.ofString "law",
        params := fnA (st 27), body := FuncBody.stmts (fnB (st 27)), scope := fnS (st 27), globals := 3, closure := [], defaults := Value.none, kwdefaults := Value.none, pyModule := Value.str (Str.ofString "law_rh0069_01") 469, code := Value.ref 267 } }
noncomputable def Ha (P : Params) : Heap := ⟨⟨[(boot_o_0 P), (boot_o_1 P), (boot_o_2 P), (boot_o_3 P), (boot_o_4 P), (boot_o_5 P), (boot_o_6 P), (boot_o_7 P), (boot_o_8 P), (boot_o_9 P), (boot_o_10 P), (o11s0 P), (o12s0 P), (o13s0 P), (o14s0 P)]⟩, (boot_heap P).life⟩
noncomputable def T0 (P : Params) : BT := (.node (boot_o_0 P) (.node (boot_o_1 P) (.node (boot_o_3 P) (.node (boot_o_7 P) .nil .nil) (.node (o11s0 P) .nil .nil)) (.node (boot_o_5 P) (.node (boot_o_9 P) .nil .nil) (.node (o13s0 P) .nil .nil))) (.node (boot_o_2 P) (.node (boot_o_4 P) (.node (boot_o_8 P) .nil .nil) (.node (o12s0 P) .nil .nil)) (.node (boot_o_6 P) (.node (boot_o_10 P) .nil .nil) (.node (o14s0 P) .nil .nil))))
noncomputable def T1 (P : Params) : BT := (.node (boot_o_0 P) (.node (boot_o_1 P) (.node (o3s3 P) (.node (boot_o_7 P) (.node (o15s3 P) (.node (o31s3 P) .nil .nil) .nil) (.node (o23s3 P) .nil .nil)) (.node (o11s0 P) (.node (o19s3 P) .nil .nil) (.node (o27s3 P) .nil .nil))) (.node (boot_o_5 P) (.node (boot_o_9 P) (.node (o17s3 P) (.node (o33s3 P) .nil .nil) .nil) (.node (o25s3 P) .nil .nil)) (.node (o13s0 P) (.node (o21s3 P) .nil .nil) (.node (o29s3 P) .nil .nil)))) (.node (o2s3 P) (.node (boot_o_4 P) (.node (boot_o_8 P) (.node (o16s3 P) (.node (o32s3 P) .nil .nil) .nil) (.node (o24s3 P) .nil .nil)) (.node (o12s3 P) (.node (o20s3 P) .nil .nil) (.node (o28s3 P) .nil .nil))) (.node (boot_o_6 P) (.node (boot_o_10 P) (.node (o18s3 P) (.node (o34s3 P) .nil .nil) .nil) (.node (o26s3 P) .nil .nil)) (.node (o14s0 P) (.node (o22s3 P) .nil .nil) (.node (o30s3 P) .nil .nil)))))
noncomputable def T2 (P : Params) : BT := (.node (boot_o_0 P) (.node (boot_o_1 P) (.node (o3s8 P) (.node (boot_o_7 P) (.node (o15s3 P) (.node (o31s8 P) (.node (o63s8 P) .nil .nil) .nil) (.node (o47s8 P) .nil .nil)) (.node (o23s3 P) (.node (o39s8 P) .nil .nil) (.node (o55s8 P) .nil .nil))) (.node (o11s0 P) (.node (o19s3 P) (.node (o35s8 P) (.node (o67s8 P) .nil .nil) .nil) (.node (o51s8 P) .nil .nil)) (.node (o27s3 P) (.node (o43s8 P) .nil .nil) (.node (o59s8 P) .nil .nil)))) (.node (boot_o_5 P) (.node (boot_o_9 P) (.node (o17s3 P) (.node (o33s3 P) (.node (o65s8 P) .nil .nil) .nil) (.node (o49s8 P) .nil .nil)) (.node (o25s3 P) (.node (o41s8 P) .nil .nil) (.node (o57s8 P) .nil .nil))) (.node (o13s0 P) (.node (o21s3 P) (.node (o37s8 P) .nil .nil) (.node (o53s8 P) .nil .nil)) (.node (o29s3 P) (.node (o45s8 P) .nil .nil) (.node (o61s8 P) .nil .nil))))) (.node (o2s3 P) (.node (boot_o_4 P) (.node (boot_o_8 P) (.node (o16s3 P) (.node (o32s3 P) (.node (o64s8 P) .nil .nil) .nil) (.node (o48s8 P) .nil .nil)) (.node (o24s3 P) (.node (o40s8 P) .nil .nil) (.node (o56s8 P) .nil .nil))) (.node (o12s8 P) (.node (o20s3 P) (.node (o36s8 P) .nil .nil) (.node (o52s8 P) .nil .nil)) (.node (o28s3 P) (.node (o44s8 P) .nil .nil) (.node (o60s8 P) .nil .nil)))) (.node (boot_o_6 P) (.node (boot_o_10 P) (.node (o18s3 P) (.node (o34s3 P) (.node (o66s8 P) .nil .nil) .nil) (.node (o50s8 P) .nil .nil)) (.node (o26s3 P) (.node (o42s8 P) .nil .nil) (.node (o58s8 P) .nil .nil))) (.node (o14s0 P) (.node (o22s3 P) (.node (o38s8 P) .nil .nil) (.node (o54s8 P) .nil .nil)) (.node (o30s3 P) (.node (o46s8 P) .nil .nil) (.node (o62s8 P) .nil .nil))))))
noncomputable def T3 (P : Params) : BT := (.node (boot_o_0 P) (.node (boot_o_1 P) (.node (o3s9 P) (.node (boot_o_7 P) (.node (o15s3 P) (.node (o31s8 P) (.node (o63s8 P) (.node (o127s9 P) .nil .nil) .nil) (.node (o95s9 P) .nil .nil)) (.node (o47s8 P) (.node (o79s9 P) (.node (o143s9 P) .nil .nil) .nil) (.node (o111s9 P) .nil .nil))) (.node (o23s3 P) (.node (o39s8 P) (.node (o71s9 P) (.node (o135s9 P) .nil .nil) .nil) (.node (o103s9 P) .nil .nil)) (.node (o55s8 P) (.node (o87s9 P) (.node (o151s9 P) .nil .nil) .nil) (.node (o119s9 P) .nil .nil)))) (.node (o11s0 P) (.node (o19s3 P) (.node (o35s8 P) (.node (o67s8 P) (.node (o131s9 P) .nil .nil) .nil) (.node (o99s9 P) .nil .nil)) (.node (o51s8 P) (.node (o83s9 P) (.node (o147s9 P) .nil .nil) .nil) (.node (o115s9 P) .nil .nil))) (.node (o27s3 P) (.node (o43s8 P) (.node (o75s9 P) (.node (o139s9 P) .nil .nil) .nil) (.node (o107s9 P) .nil .nil)) (.node (o59s8 P) (.node (o91s9 P) (.node (o155s9 P) .nil .nil) .nil) (.node (o123s9 P) .nil .nil))))) (.node (boot_o_5 P) (.node (boot_o_9 P) (.node (o17s3 P) (.node (o33s3 P) (.node (o65s8 P) (.node (o129s9 P) .nil .nil) .nil) (.node (o97s9 P) .nil .nil)) (.node (o49s8 P) (.node (o81s9 P) (.node (o145s9 P) .nil .nil) .nil) (.node (o113s9 P) .nil .nil))) (.node (o25s3 P) (.node (o41s8 P) (.node (o73s9 P) (.node (o137s9 P) .nil .nil) .nil) (.node (o105s9 P) .nil .nil)) (.node (o57s8 P) (.node (o89s9 P) (.node (o153s9 P) .nil .nil) .nil) (.node (o121s9 P) .nil .nil)))) (.node (o13s0 P) (.node (o21s3 P) (.node (o37s8 P) (.node (o69s9 P) (.node (o133s9 P) .nil .nil) .nil) (.node (o101s9 P) .nil .nil)) (.node (o53s8 P) (.node (o85s9 P) (.node (o149s9 P) .nil .nil) .nil) (.node (o117s9 P) .nil .nil))) (.node (o29s3 P) (.node (o45s8 P) (.node (o77s9 P) (.node (o141s9 P) .nil .nil) .nil) (.node (o109s9 P) .nil .nil)) (.node (o61s8 P) (.node (o93s9 P) (.node (o157s9 P) .nil .nil) .nil) (.node (o125s9 P) .nil .nil)))))) (.node (o2s3 P) (.node (boot_o_4 P) (.node (boot_o_8 P) (.node (o16s3 P) (.node (o32s3 P) (.node (o64s8 P) (.node (o128s9 P) .nil .nil) .nil) (.node (o96s9 P) .nil .nil)) (.node (o48s8 P) (.node (o80s9 P) (.node (o144s9 P) .nil .nil) .nil) (.node (o112s9 P) .nil .nil))) (.node (o24s3 P) (.node (o40s8 P) (.node (o72s9 P) (.node (o136s9 P) .nil .nil) .nil) (.node (o104s9 P) .nil .nil)) (.node (o56s8 P) (.node (o88s9 P) (.node (o152s9 P) .nil .nil) .nil) (.node (o120s9 P) .nil .nil)))) (.node (o12s9 P) (.node (o20s3 P) (.node (o36s8 P) (.node (o68s9 P) (.node (o132s9 P) .nil .nil) .nil) (.node (o100s9 P) .nil .nil)) (.node (o52s8 P) (.node (o84s9 P) (.node (o148s9 P) .nil .nil) .nil) (.node (o116s9 P) .nil .nil))) (.node (o28s3 P) (.node (o44s8 P) (.node (o76s9 P) (.node (o140s9 P) .nil .nil) .nil) (.node (o108s9 P) .nil .nil)) (.node (o60s8 P) (.node (o92s9 P) (.node (o156s9 P) .nil .nil) .nil) (.node (o124s9 P) .nil .nil))))) (.node (boot_o_6 P) (.node (boot_o_10 P) (.node (o18s3 P) (.node (o34s3 P) (.node (o66s8 P) (.node (o130s9 P) .nil .nil) .nil) (.node (o98s9 P) .nil .nil)) (.node (o50s8 P) (.node (o82s9 P) (.node (o146s9 P) .nil .nil) .nil) (.node (o114s9 P) .nil .nil))) (.node (o26s3 P) (.node (o42s8 P) (.node (o74s9 P) (.node (o138s9 P) .nil .nil) .nil) (.node (o106s9 P) .nil .nil)) (.node (o58s8 P) (.node (o90s9 P) (.node (o154s9 P) .nil .nil) .nil) (.node (o122s9 P) .nil .nil)))) (.node (o14s0 P) (.node (o22s3 P) (.node (o38s8 P) (.node (o70s9 P) (.node (o134s9 P) .nil .nil) .nil) (.node (o102s9 P) .nil .nil)) (.node (o54s8 P) (.node (o86s9 P) (.node (o150s9 P) .nil .nil) .nil) (.node (o118s9 P) .nil .nil))) (.node (o30s3 P) (.node (o46s8 P) (.node (o78s9 P) (.node (o142s9 P) .nil .nil) .nil) (.node (o110s9 P) .nil .nil)) (.node (o62s8 P) (.node (o94s9 P) (.node (o158s9 P) .nil .nil) .nil) (.node (o126s9 P) .nil .nil)))))))
noncomputable def T4 (P : Params) : BT := (.node (boot_o_0 P) (.node (boot_o_1 P) (.node (o3s28 P) (.node (boot_o_7 P) (.node (o15s3 P) (.node (o31s8 P) (.node (o63s8 P) (.node (o127s9 P) (.node (o255s28 P) .nil .nil) .nil) (.node (o191s28 P) .nil .nil)) (.node (o95s9 P) (.node (o159s28 P) .nil .nil) (.node (o223s28 P) .nil .nil))) (.node (o47s8 P) (.node (o79s9 P) (.node (o143s9 P) .nil .nil) (.node (o207s28 P) .nil .nil)) (.node (o111s9 P) (.node (o175s28 P) .nil .nil) (.node (o239s28 P) .nil .nil)))) (.node (o23s3 P) (.node (o39s8 P) (.node (o71s9 P) (.node (o135s9 P) (.node (o263s28 P) .nil .nil) .nil) (.node (o199s28 P) .nil .nil)) (.node (o103s9 P) (.node (o167s28 P) .nil .nil) (.node (o231s28 P) .nil .nil))) (.node (o55s8 P) (.node (o87s9 P) (.node (o151s9 P) .nil .nil) (.node (o215s28 P) .nil .nil)) (.node (o119s9 P) (.node (o183s28 P) .nil .nil) (.node (o247s28 P) .nil .nil))))) (.node (o11s0 P) (.node (o19s3 P) (.node (o35s8 P) (.node (o67s8 P) (.node (o131s9 P) (.node (o259s28 P) .nil .nil) .nil) (.node (o195s28 P) .nil .nil)) (.node (o99s9 P) (.node (o163s28 P) .nil .nil) (.node (o227s28 P) .nil .nil))) (.node (o51s8 P) (.node (o83s9 P) (.node (o147s9 P) .nil .nil) (.node (o211s28 P) .nil .nil)) (.node (o115s9 P) (.node (o179s28 P) .nil .nil) (.node (o243s28 P) .nil .nil)))) (.node (o27s3 P) (.node (o43s8 P) (.node (o75s9 P) (.node (o139s9 P) (.node (o267s28 P) .nil .nil) .nil) (.node (o203s28 P) .nil .nil)) (.node (o107s9 P) (.node (o171s28 P) .nil .nil) (.node (o235s28 P) .nil .nil))) (.node (o59s8 P) (.node (o91s9 P) (.node (o155s9 P) .nil .nil) (.node (o219s28 P) .nil .nil)) (.node (o123s9 P) (.node (o187s28 P) .nil .nil) (.node (o251s28 P) .nil .nil)))))) (.node (boot_o_5 P) (.node (boot_o_9 P) (.node (o17s3 P) (.node (o33s3 P) (.node (o65s8 P) (.node (o129s9 P) (.node (o257s28 P) .nil .nil) .nil) (.node (o193s28 P) .nil .nil)) (.node (o97s9 P) (.node (o161s28 P) .nil .nil) (.node (o225s28 P) .nil .nil))) (.node (o49s8 P) (.node (o81s9 P) (.node (o145s9 P) .nil .nil) (.node (o209s28 P) .nil .nil)) (.node (o113s9 P) (.node (o177s28 P) .nil .nil) (.node (o241s28 P) .nil .nil)))) (.node (o25s3 P) (.node (o41s8 P) (.node (o73s9 P) (.node (o137s9 P) (.node (o265s28 P) .nil .nil) .nil) (.node (o201s28 P) .nil .nil)) (.node (o105s9 P) (.node (o169s28 P) .nil .nil) (.node (o233s28 P) .nil .nil))) (.node (o57s8 P) (.node (o89s9 P) (.node (o153s9 P) .nil .nil) (.node (o217s28 P) .nil .nil)) (.node (o121s9 P) (.node (o185s28 P) .nil .nil) (.node (o249s28 P) .nil .nil))))) (.node (o13s0 P) (.node (o21s3 P) (.node (o37s8 P) (.node (o69s9 P) (.node (o133s9 P) (.node (o261s28 P) .nil .nil) .nil) (.node (o197s28 P) .nil .nil)) (.node (o101s9 P) (.node (o165s28 P) .nil .nil) (.node (o229s28 P) .nil .nil))) (.node (o53s8 P) (.node (o85s9 P) (.node (o149s9 P) .nil .nil) (.node (o213s28 P) .nil .nil)) (.node (o117s9 P) (.node (o181s28 P) .nil .nil) (.node (o245s28 P) .nil .nil)))) (.node (o29s3 P) (.node (o45s8 P) (.node (o77s9 P) (.node (o141s9 P) .nil .nil) (.node (o205s28 P) .nil .nil)) (.node (o109s9 P) (.node (o173s28 P) .nil .nil) (.node (o237s28 P) .nil .nil))) (.node (o61s8 P) (.node (o93s9 P) (.node (o157s9 P) .nil .nil) (.node (o221s28 P) .nil .nil)) (.node (o125s9 P) (.node (o189s28 P) .nil .nil) (.node (o253s28 P) .nil .nil))))))) (.node (o2s3 P) (.node (boot_o_4 P) (.node (boot_o_8 P) (.node (o16s3 P) (.node (o32s3 P) (.node (o64s8 P) (.node (o128s9 P) (.node (o256s28 P) .nil .nil) .nil) (.node (o192s28 P) .nil .nil)) (.node (o96s9 P) (.node (o160s28 P) .nil .nil) (.node (o224s28 P) .nil .nil))) (.node (o48s8 P) (.node (o80s9 P) (.node (o144s9 P) .nil .nil) (.node (o208s28 P) .nil .nil)) (.node (o112s9 P) (.node (o176s28 P) .nil .nil) (.node (o240s28 P) .nil .nil)))) (.node (o24s3 P) (.node (o40s8 P) (.node (o72s9 P) (.node (o136s9 P) (.node (o264s28 P) .nil .nil) .nil) (.node (o200s28 P) .nil .nil)) (.node (o104s9 P) (.node (o168s28 P) .nil .nil) (.node (o232s28 P) .nil .nil))) (.node (o56s8 P) (.node (o88s9 P) (.node (o152s9 P) .nil .nil) (.node (o216s28 P) .nil .nil)) (.node (o120s9 P) (.node (o184s28 P) .nil .nil) (.node (o248s28 P) .nil .nil))))) (.node (o12s28 P) (.node (o20s3 P) (.node (o36s8 P) (.node (o68s9 P) (.node (o132s9 P) (.node (o260s28 P) .nil .nil) .nil) (.node (o196s28 P) .nil .nil)) (.node (o100s9 P) (.node (o164s28 P) .nil .nil) (.node (o228s28 P) .nil .nil))) (.node (o52s8 P) (.node (o84s9 P) (.node (o148s9 P) .nil .nil) (.node (o212s28 P) .nil .nil)) (.node (o116s9 P) (.node (o180s28 P) .nil .nil) (.node (o244s28 P) .nil .nil)))) (.node (o28s3 P) (.node (o44s8 P) (.node (o76s9 P) (.node (o140s9 P) (.node (o268s28 P) .nil .nil) .nil) (.node (o204s28 P) .nil .nil)) (.node (o108s9 P) (.node (o172s28 P) .nil .nil) (.node (o236s28 P) .nil .nil))) (.node (o60s8 P) (.node (o92s9 P) (.node (o156s9 P) .nil .nil) (.node (o220s28 P) .nil .nil)) (.node (o124s9 P) (.node (o188s28 P) .nil .nil) (.node (o252s28 P) .nil .nil)))))) (.node (boot_o_6 P) (.node (boot_o_10 P) (.node (o18s3 P) (.node (o34s3 P) (.node (o66s8 P) (.node (o130s9 P) (.node (o258s28 P) .nil .nil) .nil) (.node (o194s28 P) .nil .nil)) (.node (o98s9 P) (.node (o162s28 P) .nil .nil) (.node (o226s28 P) .nil .nil))) (.node (o50s8 P) (.node (o82s9 P) (.node (o146s9 P) .nil .nil) (.node (o210s28 P) .nil .nil)) (.node (o114s9 P) (.node (o178s28 P) .nil .nil) (.node (o242s28 P) .nil .nil)))) (.node (o26s3 P) (.node (o42s8 P) (.node (o74s9 P) (.node (o138s9 P) (.node (o266s28 P) .nil .nil) .nil) (.node (o202s28 P) .nil .nil)) (.node (o106s9 P) (.node (o170s28 P) .nil .nil) (.node (o234s28 P) .nil .nil))) (.node (o58s8 P) (.node (o90s9 P) (.node (o154s9 P) .nil .nil) (.node (o218s28 P) .nil .nil)) (.node (o122s9 P) (.node (o186s28 P) .nil .nil) (.node (o250s28 P) .nil .nil))))) (.node (o14s0 P) (.node (o22s3 P) (.node (o38s8 P) (.node (o70s9 P) (.node (o134s9 P) (.node (o262s28 P) .nil .nil) .nil) (.node (o198s28 P) .nil .nil)) (.node (o102s9 P) (.node (o166s28 P) .nil .nil) (.node (o230s28 P) .nil .nil))) (.node (o54s8 P) (.node (o86s9 P) (.node (o150s9 P) .nil .nil) (.node (o214s28 P) .nil .nil)) (.node (o118s9 P) (.node (o182s28 P) .nil .nil) (.node (o246s28 P) .nil .nil)))) (.node (o30s3 P) (.node (o46s8 P) (.node (o78s9 P) (.node (o142s9 P) .nil .nil) (.node (o206s28 P) .nil .nil)) (.node (o110s9 P) (.node (o174s28 P) .nil .nil) (.node (o238s28 P) .nil .nil))) (.node (o62s8 P) (.node (o94s9 P) (.node (o158s9 P) .nil .nil) (.node (o222s28 P) .nil .nil)) (.node (o126s9 P) (.node (o190s28 P) .nil .nil) (.node (o254s28 P) .nil .nil))))))))
noncomputable def Hz (P : Params) : Heap := ⟨⟨(boot_o_0 P) :: (boot_o_1 P) :: (o2s3 P) :: (o3s28 P) :: (boot_o_4 P) :: (boot_o_5 P) :: (boot_o_6 P) :: (boot_o_7 P) :: (boot_o_8 P) :: (boot_o_9 P) :: (boot_o_10 P) :: (o11s0 P) :: (o12s28 P) :: (o13s0 P) :: (o14s0 P) :: (o15s3 P) :: (o16s3 P) :: (o17s3 P) :: (o18s3 P) :: (o19s3 P) :: (o20s3 P) :: (o21s3 P) :: (o22s3 P) :: (o23s3 P) :: (o24s3 P) :: (o25s3 P) :: (o26s3 P) :: (o27s3 P) :: (o28s3 P) :: (o29s3 P) :: (o30s3 P) :: (o31s8 P) :: (o32s3 P) :: (o33s3 P) :: (o34s3 P) :: (o35s8 P) :: (o36s8 P) :: (o37s8 P) :: (o38s8 P) :: (o39s8 P) :: (o40s8 P) :: (o41s8 P) :: (o42s8 P) :: (o43s8 P) :: (o44s8 P) :: (o45s8 P) :: (o46s8 P) :: (o47s8 P) :: (o48s8 P) :: (o49s8 P) :: (o50s8 P) :: (o51s8 P) :: (o52s8 P) :: (o53s8 P) :: (o54s8 P) :: (o55s8 P) :: (o56s8 P) :: (o57s8 P) :: (o58s8 P) :: (o59s8 P) :: (o60s8 P) :: (o61s8 P) :: (o62s8 P) :: (o63s8 P) :: (o64s8 P) :: (o65s8 P) :: (o66s8 P) :: (o67s8 P) :: (o68s9 P) :: (o69s9 P) :: (o70s9 P) :: (o71s9 P) :: (o72s9 P) :: (o73s9 P) :: (o74s9 P) :: (o75s9 P) :: (o76s9 P) :: (o77s9 P) :: (o78s9 P) :: (o79s9 P) :: (o80s9 P) :: (o81s9 P) :: (o82s9 P) :: (o83s9 P) :: (o84s9 P) :: (o85s9 P) :: (o86s9 P) :: (o87s9 P) :: (o88s9 P) :: (o89s9 P) :: (o90s9 P) :: (o91s9 P) :: (o92s9 P) :: (o93s9 P) :: (o94s9 P) :: (o95s9 P) :: (o96s9 P) :: (o97s9 P) :: (o98s9 P) :: (o99s9 P) :: (o100s9 P) :: (o101s9 P) :: (o102s9 P) :: (o103s9 P) :: (o104s9 P) :: (o105s9 P) :: (o106s9 P) :: (o107s9 P) :: (o108s9 P) :: (o109s9 P) :: (o110s9 P) :: (o111s9 P) :: (o112s9 P) :: (o113s9 P) :: (o114s9 P) :: (o115s9 P) :: (o116s9 P) :: (o117s9 P) :: (o118s9 P) :: (o119s9 P) :: (o120s9 P) :: (o121s9 P) :: (o122s9 P) :: (o123s9 P) :: (o124s9 P) :: (o125s9 P) :: (o126s9 P) :: (o127s9 P) :: (o128s9 P) :: (o129s9 P) :: (o130s9 P) :: (o131s9 P) :: (o132s9 P) :: (o133s9 P) :: (o134s9 P) :: (o135s9 P) :: (o136s9 P) :: (o137s9 P) :: (o138s9 P) :: (o139s9 P) :: (o140s9 P) :: (o141s9 P) :: (o142s9 P) :: (o143s9 P) :: (o144s9 P) :: (o145s9 P) :: (o146s9 P) :: (o147s9 P) :: (o148s9 P) :: (o149s9 P) :: (o150s9 P) :: (o151s9 P) :: (o152s9 P) :: (o153s9 P) :: (o154s9 P) :: (o155s9 P) :: (o156s9 P) :: (o157s9 P) :: (o158s9 P) :: (o159s28 P) :: (o160s28 P) :: (o161s28 P) :: (o162s28 P) :: (o163s28 P) :: (o164s28 P) :: (o165s28 P) :: (o166s28 P) :: (o167s28 P) :: (o168s28 P) :: (o169s28 P) :: (o170s28 P) :: (o171s28 P) :: (o172s28 P) :: (o173s28 P) :: (o174s28 P) :: (o175s28 P) :: (o176s28 P) :: (o177s28 P) :: (o178s28 P) :: (o179s28 P) :: (o180s28 P) :: (o181s28 P) :: (o182s28 P) :: (o183s28 P) :: (o184s28 P) :: (o185s28 P) :: (o186s28 P) :: (o187s28 P) :: (o188s28 P) :: (o189s28 P) :: (o190s28 P) :: (o191s28 P) :: (o192s28 P) :: (o193s28 P) :: (o194s28 P) :: (o195s28 P) :: (o196s28 P) :: (o197s28 P) :: (o198s28 P) :: (o199s28 P) :: (o200s28 P) :: (o201s28 P) :: (o202s28 P) :: (o203s28 P) :: (o204s28 P) :: (o205s28 P) :: (o206s28 P) :: (o207s28 P) :: (o208s28 P) :: (o209s28 P) :: (o210s28 P) :: (o211s28 P) :: (o212s28 P) :: (o213s28 P) :: (o214s28 P) :: (o215s28 P) :: (o216s28 P) :: (o217s28 P) :: (o218s28 P) :: (o219s28 P) :: (o220s28 P) :: (o221s28 P) :: (o222s28 P) :: (o223s28 P) :: (o224s28 P) :: (o225s28 P) :: (o226s28 P) :: (o227s28 P) :: (o228s28 P) :: (o229s28 P) :: (o230s28 P) :: (o231s28 P) :: (o232s28 P) :: (o233s28 P) :: (o234s28 P) :: (o235s28 P) :: (o236s28 P) :: (o237s28 P) :: (o238s28 P) :: (o239s28 P) :: (o240s28 P) :: (o241s28 P) :: (o242s28 P) :: (o243s28 P) :: (o244s28 P) :: (o245s28 P) :: (o246s28 P) :: (o247s28 P) :: (o248s28 P) :: (o249s28 P) :: (o250s28 P) :: (o251s28 P) :: (o252s28 P) :: (o253s28 P) :: (o254s28 P) :: (o255s28 P) :: (o256s28 P) :: (o257s28 P) :: (o258s28 P) :: (o259s28 P) :: (o260s28 P) :: (o261s28 P) :: (o262s28 P) :: (o263s28 P) :: (o264s28 P) :: (o265s28 P) :: (o266s28 P) :: (o267s28 P) :: (o268s28 P) :: []⟩, (boot_heap P).life⟩
noncomputable def S0 (w : World) (os : OsState) : SharedT := ⟨T0 w.params, 15, (boot_heap w.params).life, ⟨[]⟩, boot_drawn, 187, os⟩
noncomputable def S1 (w : World) (os : OsState) : SharedT := ⟨T1 w.params, 35, (boot_heap w.params).life, ⟨[]⟩, boot_drawn, 216, os⟩
noncomputable def S2 (w : World) (os : OsState) : SharedT := ⟨T2 w.params, 68, (boot_heap w.params).life, ⟨[]⟩, boot_drawn, 257, os⟩
noncomputable def S3 (w : World) (os : OsState) : SharedT := ⟨T3 w.params, 159, (boot_heap w.params).life, ⟨[]⟩, boot_drawn, 376, os⟩
noncomputable def S4 (w : World) (os : OsState) : SharedT := ⟨T4 w.params, 269, (boot_heap w.params).life, ⟨[]⟩, boot_drawn, 526, os⟩
noncomputable def Sz (w : World) (os : OsState) : Shared := ⟨Hz w.params, ⟨[]⟩, boot_drawn, 526, os⟩
noncomputable def Sa (w : World) (os : OsState) : Shared := ⟨Ha w.params, ⟨[]⟩, boot_drawn, 187, os⟩
noncomputable def g1 : List Stmt := [st 0, st 1, st 2]
noncomputable def g2 : List Stmt := [st 3, st 4, st 5, st 6, st 7]
noncomputable def g3 : List Stmt := [st 8]
noncomputable def g4 : List Stmt := [st 9, st 10, st 11, st 12, st 13, st 14, st 15, st 16, st 17, st 18, st 19, st 20, st 21, st 22, st 23, st 24, st 25, st 26, st 27]
noncomputable def gs : List Stmt := g1 ++ (g2 ++ (g3 ++ (g4 ++ [])))
noncomputable def ev : Env := { scope := PySem.Challenge.pw_rh0069_01.main.scope, locals := mainNs, globals := mainNs, cells := [], code := .ref 13, frame := some 14 }
noncomputable def cE : Code := .body gs ev
abbrev an : Option Value := some (.ref 6)
abbrev zp : Pos := ⟨0, 0, 0, 0⟩
abbrev fB : List Frame := [topFrame zp]
theorem q_open : ∀ w : World, (fencedOpening treeTable PySem.Challenge.pw_rh0069_01 w 3378).map (fun s => (s.heap, s.gens, s.drawn, s.toks)) = some (boot_heap w.params, Array.mk [], boot_drawn, boot_toks) :=
  boot_open (by kernel_rfl) (by decide) (fun s => by kernel_rfl)
theorem q_size : ∀ w : World, ((boot_heap w.params).isNs mainGlobals && (Array.mk [] : Array GenState).size == 0, (boot_heap w.params).objs.size, (boot_heap w.params).nsMap mainGlobals "__annotations__") = (true, 11, an) := by
  intro w; kernel_rfl
theorem q_pre : ∀ (w : World) (os : OsState), topGo treeTable PySem.Challenge.pw_rh0069_01 w 11 an 12 ⟨boot_heap w.params, ⟨[]⟩, boot_drawn, boot_toks, os⟩ (topStub PySem.Challenge.pw_rh0069_01) = some (Sa w os, ⟨denote treeTable cE, cE, zp, fB⟩) := by
  intro w os; kernel_rfl
theorem q_block : ∀ (w : World) (os : OsState), segRun treeTable PySem.Challenge.pw_rh0069_01 w 11 an 1 1 (Sa w os) (blockOf gs ev cE zp fB) = some (.next, (S0 w os).abs, cE, zp) := by
  intro w os; kernel_rfl
theorem q_1 : ∀ (w : World) (os : OsState), segRunT treeTable PySem.Challenge.pw_rh0069_01 w 11 an 1 240 (S0 w os) (piecesOf g1 ev cE ⟨0, 0, 0, 0⟩ fB) = some (.next, S1 w os, cE, ⟨5, 0, 6, 8⟩) := by
  intro w os
  show segRunT treeTable PySem.Challenge.pw_rh0069_01 w 11 an 1 240 (S0 w os) ⟨(execs g1 ev).wrap doneF deadEnd id id, cE, ⟨0, 0, 0, 0⟩, fB⟩ = _
  rewrite [Fast.te10110043849684766642, Fast.te14364793385576792824, Fast.te12563942051412417395]
  kernel_rfl
theorem q_2 : ∀ (w : World) (os : OsState), segRunT treeTable PySem.Challenge.pw_rh0069_01 w 11 an 1 330 (S1 w os) (piecesOf g2 ev cE ⟨5, 0, 6, 8⟩ fB) = some (.next, S2 w os, cE, ⟨15, 0, 16, 389⟩) := by
  intro w os
  show segRunT treeTable PySem.Challenge.pw_rh0069_01 w 11 an 1 330 (S1 w os) ⟨(execs g2 ev).wrap doneF deadEnd id id, cE, ⟨5, 0, 6, 8⟩, fB⟩ = _
  rewrite [Fast.te10110043849684766642, Fast.te14364793385576792824, Fast.te12563942051412417395]
  kernel_rfl
theorem q_3 : ∀ (w : World) (os : OsState), segRunT treeTable PySem.Challenge.pw_rh0069_01 w 11 an 1 560 (S2 w os) (piecesOf g3 ev cE ⟨15, 0, 16, 389⟩ fB) = some (.next, S3 w os, cE, ⟨17, 0, 70, 16⟩) := by
  intro w os
  show segRunT treeTable PySem.Challenge.pw_rh0069_01 w 11 an 1 560 (S2 w os) ⟨(execs g3 ev).wrap doneF deadEnd id id, cE, ⟨15, 0, 16, 389⟩, fB⟩ = _
  rewrite [Fast.te10110043849684766642, Fast.te14364793385576792824, Fast.te12563942051412417395]
  kernel_rfl
theorem q_4 : ∀ (w : World) (os : OsState), segRunT treeTable PySem.Challenge.pw_rh0069_01 w 11 an 1 540 (S3 w os) (piecesOf g4 ev cE ⟨17, 0, 70, 16⟩ fB) = some (.next, S4 w os, cE, ⟨171, 0, 201, 96⟩) := by
  intro w os
  show segRunT treeTable PySem.Challenge.pw_rh0069_01 w 11 an 1 540 (S3 w os) ⟨(execs g4 ev).wrap doneF deadEnd id id, cE, ⟨17, 0, 70, 16⟩, fB⟩ = _
  rewrite [Fast.te10110043849684766642, Fast.te14364793385576792824, Fast.te12563942051412417395]
  kernel_rfl
theorem q_fin : ∀ (w : World) (os : OsState), topRun treeTable PySem.Challenge.pw_rh0069_01 w 11 an 2 (S4 w os).abs ⟨doneF .next, cE, ⟨171, 0, 201, 96⟩, fB⟩ = some (Sz w os) := by
  intro w os; kernel_rfl
theorem q_run : ∀ (w : World) (os : OsState), topRun treeTable PySem.Challenge.pw_rh0069_01 w 11 an (12 + (1 + (240 + (330 + (560 + (540 + (2))))))) ⟨boot_heap w.params, ⟨[]⟩, boot_drawn, boot_toks, os⟩ (topStub PySem.Challenge.pw_rh0069_01) = some (Sz w os) :=
  fun w os => go_top (q_pre w os) (piece_block (q_block w os) (piece_app (segRun_of (q_1 w os)) (piece_app (segRun_of (q_2 w os)) (piece_app (segRun_of (q_3 w os)) (piece_app (segRun_of (q_4 w os)) (piece_nil (q_fin w os)))))))
end Cut
end
section
open PySem PySem.W PySem.Calls PyProof.Rows
namespace Cut
noncomputable abbrev xt (s : Shared) : Bool := xlAt vw [] s && recOk (RowW.records PySem.Challenge.rw_rh0069_01.row.toRowW) s
noncomputable abbrev md : List Str := importedModules PySem.Challenge.pw_rh0069_01.main.body
section
variable (w : World) (os : OsState)
theorem l_a : (staticsOk md (boot_heap w.params) (Hz w.params) && namesBound PySem.Challenge.pw_rh0069_01 (Hz w.params) && gensDone (Sz w os) && laidKept (boot_heap w.params) (Hz w.params)) = true := by kernel_rfl
theorem l_b : seen ((recsOf vw).map (·.name)) (ownsOf vw) [] { Sz w os with gens := #[] } = expectedOf vw := by kernel_rfl
theorem l_c : (Sz w os).heap.bltView = bltViewBooted := by kernel_rfl
theorem l_d : ((Sz w os).heap.keysOk (looseW vw []) ((recsOf vw).map (·.name)) ((litsOf vw).map (·.1)) ((clssOf vw (looseW vw [])).map (·.name)) && (Sz w os).heap.accountedOkI md && (Sz w os).heap.isNs mainGlobals && (Sz w os).heap.isNs builtinsNs && tablesOk vw (Sz w os).heap && xt (Sz w os) && (if true = true then (Sz w os).gens.size == 0 else !leftWithCleanup (Sz w os).gens)) = true := by kernel_rfl
theorem l_e : tabsOk vw (Sz w os) = true := by kernel_rfl
theorem l_f : PySem.pinSeenD vw (drecsOf vw) (Sz w os) = PySem.pinGoodD (drecsOf vw) := by kernel_rfl
theorem l_g : plainSeenE vw (looseW vw []) (Sz w os) = plainGoodE vw (looseW vw []) := by kernel_rfl
theorem l_h : (plainSeenD vw [] (Sz w os), wideSeen vw (Sz w os), clsSeenW vw [] (Sz w os)) = (plainGoodD vw [], wideGood vw, clsGoodW vw []) := by kernel_rfl
theorem l_open : openSeen vw [] md xt true (Sz w os) = openGood vw [] := by
  unfold openSeen openGood
  rewrite [l_b w os, l_c w os, l_d w os, l_e w os, l_f w os, l_g w os, l_h w os]
  with_reducible rfl
theorem l_k : Hook.obs (kHook kk kAs kE) (Sz w os) = Hook.val (kHook kk kAs kE) w := by kernel_rfl
end
end Cut
/-- the head: the text's top, run once, piece by piece -/
theorem left : LeftO PySem.Challenge.pw_rh0069_01 vw [] (fun s => xlAt vw [] s && recOk (RowW.records PySem.Challenge.rw_rh0069_01.row.toRowW) s) (Hook.obs (kHook kk kAs kE)) (Hook.val (kHook kk kAs kE)) 3378 :=
  LeftO.of_pieces (H₀ := boot_heap) (H₁ := Cut.Hz) (gs₀ := ⟨[]⟩) (gs₁ := ⟨[]⟩) (d₀ := boot_drawn) (d₁ := boot_drawn) (k₀ := boot_toks) (k₁ := 526) (m₀ := 11) (ann := Cut.an) Cut.q_open Cut.q_size Cut.q_run (by decide)
    (fun w => funext fun os => Prod.ext (Cut.l_a w os) (Prod.ext (Cut.l_open w os) (Cut.l_k w os)))
end
section
abbrev Ledger := List (Addr × Obj)
/-- a call of the text's def at f with the arguments vs, from any def's frame, over the ledger news: it comes back, and Post says with what -/
abbrev Spec (w : World) (mean : ExcName → Option Value) (mg mb : Str → Option Value) (f : Addr) (n : Nat) (news : Ledger) (vs : List Value) (Post : Value → Ledger → Prop) : Prop :=
  ∀ (dp un : Nat) (gd : Option (List Code)) (cn : Str) (cs : Scope) (a : Addr) (ccd : Value) (cl : List (Str × Addr)) (outer : List Env) (A₀ : Around) (base h₀ : Heap) (L : Addr) (m : Str → Option Value) (s : Shared) (Q E : Value → Shared → Prop),
    Below A₀ base outer h₀ → Fr h₀ L s.heap m → (kk w.params).In h₀ → News h₀ L s.heap news → Top vw (looseW vw []) mean mg mb h₀ → cs.kind = .function →
    dp + n < recursionLimit → un + 8 * n < cLine →
    (∀ r news' h' tk', Fr h₀ L h' m → News h₀ L h' news' → Post r news' → Q r { s with heap := h', toks := tk' }) →
    wpAny (model PySem.Challenge.rw_rh0069_01.row.prog w) (ktrTop dp un gd cn cs L a ccd cl outer) (call (.ref f) vs) Q E s
end
section
abbrev bA (x y : Int) : Int := Builtin.bitAnd x y
abbrev bO (x y : Int) : Int := Builtin.bitOr x y
abbrev bX (x y : Int) : Int := Builtin.bitXor x y
theorem mod2 (x : Int) : x % 2 = 0 ∨ x % 2 = 1 := by omega
theorem ext2 {a b : Int} (h : a / 2 = b / 2) (m : a % 2 = b % 2) : a = b := by omega
theorem and_half (x y : Int) : Builtin.bitAnd x y / 2 = Builtin.bitAnd (x / 2) (y / 2) := by
  have h := kbt_halves x y
  rw [h]; split <;> omega
theorem and_mod (x y : Int) : Builtin.bitAnd x y % 2 = (x % 2) * (y % 2) := by
  have h := kbt_halves x y
  rw [h]
  rcases mod2 x with a | a <;> rcases mod2 y with b | b <;> rw [a, b] <;> simp <;> omega
theorem or_half (x y : Int) : Builtin.bitOr x y / 2 = Builtin.bitOr (x / 2) (y / 2) := by
  have h := kbt_halves x y
  rw [bitOr_and, bitOr_and, h]; split <;> omega
theorem or_mod (x y : Int) : Builtin.bitOr x y % 2 = (x % 2) + (y % 2) - (x % 2) * (y % 2) := by
  have h := kbt_halves x y
  rw [bitOr_and, h]
  rcases mod2 x with a | a <;> rcases mod2 y with b | b <;> rw [a, b] <;> simp <;> omega
theorem xor_half (x y : Int) : Builtin.bitXor x y / 2 = Builtin.bitXor (x / 2) (y / 2) := by
  have h := kbt_halves x y
  rw [bitXor_and, bitXor_and, h]; split <;> omega
theorem xor_mod (x y : Int) : Builtin.bitXor x y % 2 = ((x % 2) + (y % 2)) % 2 := by
  rw [bitXor_and]; omega
def mu (x : Int) : Nat := (if x < 0 then -x - 1 else x).toNat
theorem mu_half (x : Int) : mu (x / 2) = mu x / 2 := by unfold mu; split <;> split <;> omega
theorem mu_zero {x : Int} (h : mu x = 0) : x = 0 ∨ x = -1 := by unfold mu at h; split at h <;> omega
theorem halve3 {P : Int → Int → Int → Prop} (base : ∀ x y z, (x = 0 ∨ x = -1) → (y = 0 ∨ y = -1) → (z = 0 ∨ z = -1) → P x y z) (step : ∀ x y z, P (x / 2) (y / 2) (z / 2) → P x y z) : ∀ x y z, P x y z := by
  have all : ∀ n : Nat, ∀ x y z, mu x + mu y + mu z ≤ n → P x y z := by
    intro n
    induction n with
    | zero => intro x y z h; exact base x y z (mu_zero (by omega)) (mu_zero (by omega)) (mu_zero (by omega))
    | succ n ih =>
      intro x y z h
      by_cases h0 : mu x + mu y + mu z = 0
      · exact ih x y z (by omega)
      · refine step x y z (ih _ _ _ ?_)
        rw [mu_half, mu_half, mu_half]; omega
  exact fun x y z => all _ x y z (Nat.le_refl _)
theorem halve2 {P : Int → Int → Prop} (base : ∀ x y, (x = 0 ∨ x = -1) → (y = 0 ∨ y = -1) → P x y) (step : ∀ x y, P (x / 2) (y / 2) → P x y) : ∀ x y, P x y :=
  fun x y => halve3 (P := fun x y _ => P x y) (fun x y _ hx hy _ => base x y hx hy) (fun x y _ h => step x y h) x y 0
theorem half_zero : ((0 : Int) / 2) = 0 := by decide
theorem and_assoc' (x y z : Int) : Builtin.bitAnd (Builtin.bitAnd x y) z = Builtin.bitAnd x (Builtin.bitAnd y z) := by
  refine halve3 (P := fun x y z => Builtin.bitAnd (Builtin.bitAnd x y) z = Builtin.bitAnd x (Builtin.bitAnd y z)) ?_ ?_ x y z
  · rintro x y z (rfl | rfl) (rfl | rfl) (rfl | rfl) <;> decide +kernel
  · intro x y z h
    refine ext2 ?_ ?_
    · simp only [and_half]; exact h
    · simp only [and_mod]; rcases mod2 x with a | a <;> rcases mod2 y with b | b <;> rcases mod2 z with c | c <;> rw [a, b, c] <;> decide
theorem or_assoc' (x y z : Int) : Builtin.bitOr (Builtin.bitOr x y) z = Builtin.bitOr x (Builtin.bitOr y z) := by
  refine halve3 (P := fun x y z => Builtin.bitOr (Builtin.bitOr x y) z = Builtin.bitOr x (Builtin.bitOr y z)) ?_ ?_ x y z
  · rintro x y z (rfl | rfl) (rfl | rfl) (rfl | rfl) <;> decide +kernel
  · intro x y z h
    refine ext2 ?_ ?_
    · simp only [or_half]; exact h
    · simp only [or_mod]; rcases mod2 x with a | a <;> rcases mod2 y with b | b <;> rcases mod2 z with c | c <;> rw [a, b, c] <;> decide
theorem xor_assoc' (x y z : Int) : Builtin.bitXor (Builtin.bitXor x y) z = Builtin.bitXor x (Builtin.bitXor y z) := by
  refine halve3 (P := fun x y z => Builtin.bitXor (Builtin.bitXor x y) z = Builtin.bitXor x (Builtin.bitXor y z)) ?_ ?_ x y z
  · rintro x y z (rfl | rfl) (rfl | rfl) (rfl | rfl) <;> decide +kernel
  · intro x y z h
    refine ext2 ?_ ?_
    · simp only [xor_half]; exact h
    · simp only [xor_mod]; rcases mod2 x with a | a <;> rcases mod2 y with b | b <;> rcases mod2 z with c | c <;> rw [a, b, c] <;> decide
theorem xor_comm' (x y : Int) : Builtin.bitXor x y = Builtin.bitXor y x := by rw [bitXor_and, bitXor_and, bitAnd_comm]; omega
theorem and_or_dist (x y z : Int) : Builtin.bitAnd x (Builtin.bitOr y z) = Builtin.bitOr (Builtin.bitAnd x y) (Builtin.bitAnd x z) := by
  refine halve3 (P := fun x y z => Builtin.bitAnd x (Builtin.bitOr y z) = Builtin.bitOr (Builtin.bitAnd x y) (Builtin.bitAnd x z)) ?_ ?_ x y z
  · rintro x y z (rfl | rfl) (rfl | rfl) (rfl | rfl) <;> decide +kernel
  · intro x y z h
    refine ext2 ?_ ?_
    · simp only [and_half, or_half]; exact h
    · simp only [and_mod, or_mod]; rcases mod2 x with a | a <;> rcases mod2 y with b | b <;> rcases mod2 z with c | c <;> rw [a, b, c] <;> decide
theorem and_xor_dist (x y z : Int) : Builtin.bitAnd x (Builtin.bitXor y z) = Builtin.bitXor (Builtin.bitAnd x y) (Builtin.bitAnd x z) := by
  refine halve3 (P := fun x y z => Builtin.bitAnd x (Builtin.bitXor y z) = Builtin.bitXor (Builtin.bitAnd x y) (Builtin.bitAnd x z)) ?_ ?_ x y z
  · rintro x y z (rfl | rfl) (rfl | rfl) (rfl | rfl) <;> decide +kernel
  · intro x y z h
    refine ext2 ?_ ?_
    · simp only [and_half, xor_half]; exact h
    · simp only [and_mod, xor_mod]; rcases mod2 x with a | a <;> rcases mod2 y with b | b <;> rcases mod2 z with c | c <;> rw [a, b, c] <;> decide
theorem and_absorb (x y : Int) : Builtin.bitAnd x (Builtin.bitOr x y) = x := by
  refine halve2 (P := fun x y => Builtin.bitAnd x (Builtin.bitOr x y) = x) ?_ ?_ x y
  · rintro x y (rfl | rfl) (rfl | rfl) <;> decide +kernel
  · intro x y h
    refine ext2 ?_ ?_
    · simp only [and_half, or_half]; exact h
    · simp only [and_mod, or_mod]; rcases mod2 x with a | a <;> rcases mod2 y with b | b <;> rw [a, b] <;> decide
theorem or_absorb (x y : Int) : Builtin.bitOr x (Builtin.bitAnd x y) = x := by
  refine halve2 (P := fun x y => Builtin.bitOr x (Builtin.bitAnd x y) = x) ?_ ?_ x y
  · rintro x y (rfl | rfl) (rfl | rfl) <;> decide +kernel
  · intro x y h
    refine ext2 ?_ ?_
    · simp only [and_half, or_half]; exact h
    · simp only [and_mod, or_mod]; rcases mod2 x with a | a <;> rcases mod2 y with b | b <;> rw [a, b] <;> decide
theorem xor_undo (x y : Int) : Builtin.bitXor (Builtin.bitXor x y) y = x := by rw [xor_assoc', bitXor_self, bitXor_zero]
theorem or_not (x y : Int) : Builtin.bitOr (-x - 1) (-y - 1) = -Builtin.bitAnd x y - 1 := by
  have h1 : -x - 1 = Builtin.bitNot x := rfl
  have h2 : -y - 1 = Builtin.bitNot y := rfl
  rw [bitOr_and, h1, h2, bitAnd_not, bitAnd_comm (Builtin.bitNot x), bitAnd_not, bitAnd_comm y x]
  unfold Builtin.bitNot; omega
theorem xor_m1 (x : Int) : Builtin.bitXor x (-1) = -x - 1 := by
  have h2 : (-1 : Int) = Builtin.bitNot 0 := rfl
  rw [bitXor_and, h2, bitAnd_not, bitAnd_zero]
  unfold Builtin.bitNot; omega
/-- shifts -/
theorem and_dbl (x y : Int) : Builtin.bitAnd (x * 2) (y * 2) = Builtin.bitAnd x y * 2 := by
  have h := kbt_halves (x * 2) (y * 2)
  rw [h, if_neg (by omega)]
  have e1 : x * 2 / 2 = x := by omega
  have e2 : y * 2 / 2 = y := by omega
  rw [e1, e2]; omega
theorem and_shl (x y : Int) (k : Nat) : Builtin.bitAnd (x * 2 ^ k) (y * 2 ^ k) = Builtin.bitAnd x y * 2 ^ k := by
  induction k with
  | zero => simp
  | succ k ih => rw [Int.pow_succ, ← Int.mul_assoc, ← Int.mul_assoc, ← Int.mul_assoc, and_dbl, ih]
theorem or_shl (x y : Int) (k : Nat) : Builtin.bitOr (x * 2 ^ k) (y * 2 ^ k) = Builtin.bitOr x y * 2 ^ k := by
  rw [bitOr_and, bitOr_and, and_shl, Int.sub_mul, Int.add_mul]
theorem xor_shl (x y : Int) (k : Nat) : Builtin.bitXor (x * 2 ^ k) (y * 2 ^ k) = Builtin.bitXor x y * 2 ^ k := by
  rw [bitXor_and, bitXor_and, and_shl, Int.sub_mul, Int.add_mul, Int.mul_assoc]
theorem div_pow_succ (x : Int) (k : Nat) : x / 2 ^ (k + 1) = x / 2 ^ k / 2 := by
  rw [Int.pow_succ, Int.ediv_ediv_of_nonneg (Int.le_of_lt (kbt_pos k))]
theorem and_shr (x y : Int) (k : Nat) : Builtin.bitAnd (x / 2 ^ k) (y / 2 ^ k) = Builtin.bitAnd x y / 2 ^ k := by
  induction k with
  | zero => simp
  | succ k ih => rw [div_pow_succ, div_pow_succ, div_pow_succ, ← and_half, ih]
theorem or_shr (x y : Int) (k : Nat) : Builtin.bitOr (x / 2 ^ k) (y / 2 ^ k) = Builtin.bitOr x y / 2 ^ k := by
  induction k with
  | zero => simp
  | succ k ih => rw [div_pow_succ, div_pow_succ, div_pow_succ, ← or_half, ih]
theorem xor_shr (x y : Int) (k : Nat) : Builtin.bitXor (x / 2 ^ k) (y / 2 ^ k) = Builtin.bitXor x y / 2 ^ k := by
  induction k with
  | zero => simp
  | succ k ih => rw [div_pow_succ, div_pow_succ, div_pow_succ, ← xor_half, ih]
/-- the two shifts as words of their own -/
def shl (x k : Int) : Int := x * 2 ^ k.toNat
def shr (x k : Int) : Int := x / 2 ^ k.toNat
theorem and_shl' (x y k : Int) : Builtin.bitAnd (shl x k) (shl y k) = shl (Builtin.bitAnd x y) k := and_shl _ _ _
theorem or_shl' (x y k : Int) : Builtin.bitOr (shl x k) (shl y k) = shl (Builtin.bitOr x y) k := or_shl _ _ _
theorem xor_shl' (x y k : Int) : Builtin.bitXor (shl x k) (shl y k) = shl (Builtin.bitXor x y) k := xor_shl _ _ _
theorem and_shr' (x y k : Int) : Builtin.bitAnd (shr x k) (shr y k) = shr (Builtin.bitAnd x y) k := and_shr _ _ _
theorem or_shr' (x y k : Int) : Builtin.bitOr (shr x k) (shr y k) = shr (Builtin.bitOr x y) k := or_shr _ _ _
theorem xor_shr' (x y k : Int) : Builtin.bitXor (shr x k) (shr y k) = shr (Builtin.bitXor x y) k := xor_shr _ _ _
/-- sizes: x fits n binary digits and a sign -/
def Sz (n : Nat) (x : Int) : Prop := mu x < 2 ^ n
theorem Sz.half {n : Nat} {x : Int} (h : Sz (n + 1) x) : Sz n (x / 2) := by
  unfold Sz at *; rw [mu_half, Nat.pow_succ] at *; omega
theorem Sz.zero {x : Int} (h : Sz 0 x) : x = 0 ∨ x = -1 := mu_zero (by unfold Sz at h; simp at h; exact h)
theorem Sz.of_half {n : Nat} {x : Int} (h : Sz n (x / 2)) : Sz (n + 1) x := by
  unfold Sz at *; rw [mu_half] at h; rw [Nat.pow_succ]; omega
theorem Sz.and {n : Nat} : ∀ {x y : Int}, Sz n x → Sz n y → Sz n (Builtin.bitAnd x y) := by
  induction n with
  | zero => intro x y hx hy; rcases hx.zero with rfl | rfl <;> rcases hy.zero with rfl | rfl <;> (unfold Sz; decide +kernel)
  | succ n ih => intro x y hx hy; refine Sz.of_half ?_; rw [and_half]; exact ih hx.half hy.half
theorem Sz.or {n : Nat} : ∀ {x y : Int}, Sz n x → Sz n y → Sz n (Builtin.bitOr x y) := by
  induction n with
  | zero => intro x y hx hy; rcases hx.zero with rfl | rfl <;> rcases hy.zero with rfl | rfl <;> (unfold Sz; decide +kernel)
  | succ n ih => intro x y hx hy; refine Sz.of_half ?_; rw [or_half]; exact ih hx.half hy.half
theorem Sz.xor {n : Nat} : ∀ {x y : Int}, Sz n x → Sz n y → Sz n (Builtin.bitXor x y) := by
  induction n with
  | zero => intro x y hx hy; rcases hx.zero with rfl | rfl <;> rcases hy.zero with rfl | rfl <;> (unfold Sz; decide +kernel)
  | succ n ih => intro x y hx hy; refine Sz.of_half ?_; rw [xor_half]; exact ih hx.half hy.half
theorem Sz.bits {x : Int} (h : Sz 41 x) : Builtin.Int.intBits x ≤ 50 := by
  refine intBits_le_iff.mpr ?_
  unfold Sz mu at h
  have e1 : (2 : Nat) ^ 41 = 2199023255552 := by decide
  have e2 : (2 : Nat) ^ 50 = 1125899906842624 := by decide
  rw [e1] at h; rw [e2]
  split at h <;> omega
theorem Sz.of41 {x : Int} (h1 : -2199023255552 ≤ x) (h2 : x < 2199023255552) : Sz 41 x := by
  unfold Sz mu
  have e1 : (2 : Nat) ^ 41 = 2199023255552 := by decide
  rw [e1]; split <;> omega
end
section
theorem shr_neg {x k : Int} (hx : x < 0) (hb : (Builtin.Int.intBits x : Int) ≤ k) : x / 2 ^ k.toNat = -1 := by
  have h := intBits_le_iff.mp (show Builtin.Int.intBits x ≤ k.toNat by omega)
  have hc := kbt_cast k.toNat
  refine (kbt_unique (kbt_pos k.toNat) (r := x + 2 ^ k.toNat) ?_ ?_ ?_).1 <;> omega
theorem shr_pos {x k : Int} (hx : 0 ≤ x) (hb : (Builtin.Int.intBits x : Int) ≤ k) : x / 2 ^ k.toNat = 0 := by
  have h := intBits_le_iff.mp (show Builtin.Int.intBits x ≤ k.toNat by omega)
  have hc := kbt_cast k.toNat
  exact Int.ediv_eq_zero_of_lt hx (by omega)
local macro_rules | `(tactic| walk_at "call ref") => `(tactic| (k_here; refine wpAny_call ?_; k_dflt (refine' code_def ?k1 ?k2 ?k3 ?k4 ?k5 ?kA ?kF ?kK ?k6 ?k7 ?k8 ?k9 ?kB ?_ ?c2 ?c3 ?c4 ?c5; (case kA => exact rfl); (case kF => exact rfl); (case kK => first | exact rfl | assumption); (case k1 => k_asm); (case k2 => k_asm); (case k3 => k_asm); (case k4 => k_asm); (case k5 => k_asm); (case k6 => k_is); (case k7 => k_is); (case k8 => ktr_room); (case k9 => exact BindsTo.of_eq rfl); (case c5 => decide); (case kB => exact locs rfl); (case c2 => exact rfl); (case c3 => exact rfl); (case c4 => exact rfl); k_whole; intro g' L' h' FG' F' N' B' X' T'; (try dsimp only); (try k_lift B'); (try k_fold))))
local macro_rules | `(tactic| walk_at "binaryOp LShift int int") => `(tactic| (k_here; refine lshift_int ?sa ?sb ?_; (case sa => omega); (case sb => omega)))
theorem of_and (w : World) (mean : ExcName → Option Value) (mg mb : Str → Option Value) (news : Ledger) (nm : Value) (t0 t1 t2 : Tok) (x y : Int) :
    Spec w mean mg mb 263 9 news [nm, .str (Str.ofString "/\\") t0, .int x t1, .int y t2] (fun r news' => (∃ t, r = .int (Builtin.bitAnd x y) t) ∧ news' = news) := by
  w_top off; unfold Spec; k_fill
  intro dp un gd cn cs a ccd cl outer A₀ base h₀ L m s Q E B F X N T hk hd1 hu1 hret
  refine wpAny_call ?_
  k_dflt cell_enter
  k_steps
  all_goals refine hret _ _ _ _ (by k_asm) (by k_asm) ⟨ktn_int ?_, rfl⟩
  all_goals rfl
theorem of_or (w : World) (mean : ExcName → Option Value) (mg mb : Str → Option Value) (news : Ledger) (nm : Value) (t0 t1 t2 : Tok) (x y : Int) :
    Spec w mean mg mb 263 9 news [nm, .str (Str.ofString "\\/") t0, .int x t1, .int y t2] (fun r news' => (∃ t, r = .int (Builtin.bitOr x y) t) ∧ news' = news) := by
  w_top off; unfold Spec; k_fill
  intro dp un gd cn cs a ccd cl outer A₀ base h₀ L m s Q E B F X N T hk hd1 hu1 hret
  refine wpAny_call ?_
  k_dflt cell_enter
  k_steps
  all_goals refine hret _ _ _ _ (by k_asm) (by k_asm) ⟨ktn_int ?_, rfl⟩
  all_goals rfl
theorem of_xor (w : World) (mean : ExcName → Option Value) (mg mb : Str → Option Value) (news : Ledger) (nm : Value) (t0 t1 t2 : Tok) (x y : Int) :
    Spec w mean mg mb 263 9 news [nm, .str (Str.ofString "xor") t0, .int x t1, .int y t2] (fun r news' => (∃ t, r = .int (Builtin.bitXor x y) t) ∧ news' = news) := by
  w_top off; unfold Spec; k_fill
  intro dp un gd cn cs a ccd cl outer A₀ base h₀ L m s Q E B F X N T hk hd1 hu1 hret
  refine wpAny_call ?_
  k_dflt cell_enter
  k_steps
  all_goals refine hret _ _ _ _ (by k_asm) (by k_asm) ⟨ktn_int ?_, rfl⟩
  all_goals rfl
theorem of_shl (w : World) (mean : ExcName → Option Value) (mg mb : Str → Option Value) (news : Ledger) (nm : Value) (t0 t1 t2 : Tok) (x y : Int) (h0 : 0 ≤ y) (h1 : y ≤ 49) (hb : Builtin.Int.intBits x ≤ 50) :
    Spec w mean mg mb 263 9 news [nm, .str (Str.ofString "<<") t0, .int x t1, .int y t2] (fun r news' => (∃ t, r = .int (shl x y) t) ∧ news' = news) := by
  w_top off; unfold Spec; k_fill
  intro dp un gd cn cs a ccd cl outer A₀ base h₀ L m s Q E B F X N T hk hd1 hu1 hret
  refine wpAny_call ?_
  k_dflt cell_enter
  k_steps
  all_goals refine hret _ _ _ _ (by k_asm) (by k_asm) ⟨ktn_int ?_, rfl⟩
  all_goals first
    | rfl
    | (have e0 : x = 0 := by omega
       rw [e0]; exact (Int.zero_mul _).symm)
theorem of_shr (w : World) (mean : ExcName → Option Value) (mg mb : Str → Option Value) (news : Ledger) (nm : Value) (t0 t1 t2 : Tok) (x y : Int) (h0 : 0 ≤ y) (h1 : y ≤ 49) (hb : Builtin.Int.intBits x ≤ 50) :
    Spec w mean mg mb 263 9 news [nm, .str (Str.ofString ">>") t0, .int x t1, .int y t2] (fun r news' => (∃ t, r = .int (shr x y) t) ∧ news' = news) := by
  w_top off; unfold Spec; k_fill
  intro dp un gd cn cs a ccd cl outer A₀ base h₀ L m s Q E B F X N T hk hd1 hu1 hret
  refine wpAny_call ?_
  k_dflt cell_enter
  k_steps
  all_goals refine hret _ _ _ _ (by k_asm) (by k_asm) ⟨ktn_int ?_, rfl⟩
  all_goals first
    | exact (shr_neg (by omega) (by omega)).symm
    | exact (shr_pos (by omega) (by omega)).symm
    | exact Int.fdiv_eq_ediv_of_nonneg _ (Int.le_of_lt (kbt_pos _))
theorem un_not (w : World) (mean : ExcName → Option Value) (mg mb : Str → Option Value) (news : Ledger) (nm : Value) (t0 t1 : Tok) (x : Int) :
    Spec w mean mg mb 221 9 news [nm, .str (Str.ofString "\\") t0, .int x t1] (fun r news' => (∃ t, r = .int (-x - 1) t) ∧ news' = news) := by
  w_top off; unfold Spec; k_fill
  intro dp un gd cn cs a ccd cl outer A₀ base h₀ L m s Q E B F X N T hk hd1 hu1 hret
  refine wpAny_call ?_
  k_dflt cell_enter
  k_steps
  all_goals refine hret _ _ _ _ (by k_asm) (by k_asm) ⟨ktn_int ?_, rfl⟩
  all_goals rfl
end
section
theorem fm2 (x : Int) : x.fmod 2 = x % 2 := Int.fmod_eq_emod_of_nonneg _ (by decide)
theorem fd2 (x : Int) : x.fdiv 2 = x / 2 := Int.fdiv_eq_ediv_of_nonneg _ (by decide)
def RInv (op : Int → Int → Int) (a b total weight one other : Int) : Prop :=
  ∃ n : Nat, n ≤ 41 ∧ weight = 2 ^ (41 - n) ∧ Sz n one ∧ Sz n other ∧ op a b = total + weight * op one other
theorem RInv.start (op : Int → Int → Int) {a b : Int} (ha : Sz 41 a) (hb : Sz 41 b) : RInv op a b 0 1 a b :=
  ⟨41, Nat.le_refl _, by decide, ha, hb, by omega⟩
theorem any_true {x : Int} (h : ([0, -1].any fun z => z == x) = true) : x = 0 ∨ x = -1 := by
  simp only [List.any_cons, List.any_nil, Bool.or_false, Bool.or_eq_true, beq_iff_eq] at h; omega
theorem any_false {x : Int} (h : ([0, -1].any fun z => z == x) = false) : x ≠ 0 ∧ x ≠ -1 := by
  simp only [List.any_cons, List.any_nil, Bool.or_false, Bool.or_eq_false_iff, beq_eq_false_iff_ne] at h; omega
theorem mu_pos {x : Int} (h : x ≠ 0 ∧ x ≠ -1) : mu x ≠ 0 := fun e => by have := mu_zero e; omega
theorem RInv.meas {o p : Int} (hn : ([0, -1].any fun z => z == o) = false ∨ ([0, -1].any fun z => z == p) = false) : mu (o.fdiv 2) + mu (p.fdiv 2) < mu o + mu p := by
  rw [fd2, fd2, mu_half, mu_half]
  rcases hn with h | h
  · have := mu_pos (any_false h); omega
  · have := mu_pos (any_false h); omega
theorem RInv.mulOk {op : Int → Int → Int} {a b t w o p c : Int} (h : RInv op a b t w o p) (hc : c.natAbs < 2 ^ 64) : IntMulOk w c := by
  obtain ⟨n, hn, rfl, _⟩ := h
  refine IntMulOk.of_le (m := 42) (n := 64) (intBits_le_iff.mpr ?_) (intBits_le_iff.mpr hc) (by decide)
  have e := kbt_cast (41 - n)
  have e2 : ((2 : Int) ^ (41 - n)).natAbs = 2 ^ (41 - n) := by rw [← e]; rfl
  rw [e2]
  exact Nat.pow_lt_pow_right (by decide) (by omega)
theorem RInv.turn {op : Int → Int → Int} (c : Int) {a b t w o p : Int} (hop : op o p = 2 * op (o / 2) (p / 2) + c) (h : RInv op a b t w o p)
    (hn : ([0, -1].any fun z => z == o) = false ∨ ([0, -1].any fun z => z == p) = false) : RInv op a b (t + w * c) (w * 2) (o.fdiv 2) (p.fdiv 2) := by
  obtain ⟨n, h1, h2, h3, h4, h5⟩ := h
  rw [fd2, fd2]
  cases n with
  | zero =>
    exfalso
    have := h3.zero
    have := h4.zero
    rcases hn with q | q <;> have := any_false q <;> omega
  | succ n =>
    refine ⟨n, by omega, ?_, h3.half, h4.half, ?_⟩
    · rw [h2, ← Int.pow_succ]; congr 1; omega
    · rw [h5, hop, Int.mul_add, Int.mul_assoc]; omega
theorem bits_small {o p : Int} : (o.fmod 2 * p.fmod 2).natAbs < 2 ^ 64 := by
  rw [fm2, fm2]; rcases mod2 o with h | h <;> rcases mod2 p with q | q <;> rw [h, q] <;> decide
theorem bits_small2 {o p : Int} : (o.fmod 2 + p.fmod 2 - o.fmod 2 * p.fmod 2).natAbs < 2 ^ 64 := by
  rw [fm2, fm2]; rcases mod2 o with h | h <;> rcases mod2 p with q | q <;> rw [h, q] <;> decide
theorem bits_small3 {o p : Int} : ((o.fmod 2 + p.fmod 2).fmod 2).natAbs < 2 ^ 64 := by
  rw [fm2, fm2, fm2]; rcases mod2 o with h | h <;> rcases mod2 p with q | q <;> rw [h, q] <;> decide
theorem and_rec (o p : Int) : Builtin.bitAnd o p = 2 * Builtin.bitAnd (o / 2) (p / 2) + o.fmod 2 * p.fmod 2 := by
  rw [fm2, fm2, ← and_half, ← and_mod]; omega
theorem or_rec (o p : Int) : Builtin.bitOr o p = 2 * Builtin.bitOr (o / 2) (p / 2) + (o.fmod 2 + p.fmod 2 - o.fmod 2 * p.fmod 2) := by
  rw [fm2, fm2, ← or_half, ← or_mod]; omega
theorem xor_rec (o p : Int) : Builtin.bitXor o p = 2 * Builtin.bitXor (o / 2) (p / 2) + (o.fmod 2 + p.fmod 2).fmod 2 := by
  rw [fm2, fm2, fm2, ← xor_half, ← xor_mod]; omega
theorem RInv.fin {op : Int → Int → Int} (c : Int) {a b t w o p : Int} (h : RInv op a b t w o p) (ho : ([0, -1].any fun z => z == o) = true) (hp : ([0, -1].any fun z => z == p) = true)
    (hop : op o p = -c) : t - w * c = op a b := by
  obtain ⟨n, h1, h2, h3, h4, h5⟩ := h
  rw [h5, hop, Int.mul_neg]; omega
theorem and_fin {o p : Int} (ho : ([0, -1].any fun z => z == o) = true) (hp : ([0, -1].any fun z => z == p) = true) : Builtin.bitAnd o p = -(o.fmod 2 * p.fmod 2) := by
  rcases any_true ho with rfl | rfl <;> rcases any_true hp with rfl | rfl <;> decide +kernel
theorem or_fin {o p : Int} (ho : ([0, -1].any fun z => z == o) = true) (hp : ([0, -1].any fun z => z == p) = true) : Builtin.bitOr o p = -(o.fmod 2 + p.fmod 2 - o.fmod 2 * p.fmod 2) := by
  rcases any_true ho with rfl | rfl <;> rcases any_true hp with rfl | rfl <;> decide +kernel
theorem xor_fin {o p : Int} (ho : ([0, -1].any fun z => z == o) = true) (hp : ([0, -1].any fun z => z == p) = true) : Builtin.bitXor o p = -((o.fmod 2 + p.fmod 2).fmod 2) := by
  rcases any_true ho with rfl | rfl <;> rcases any_true hp with rfl | rfl <;> decide +kernel
local macro_rules | `(tactic| walk_at "call ref") => `(tactic| (k_here; refine wpAny_call ?_; k_dflt (refine' code_def ?k1 ?k2 ?k3 ?k4 ?k5 ?kA ?kF ?kK ?k6 ?k7 ?k8 ?k9 ?kB ?_ ?c2 ?c3 ?c4 ?c5; (case kA => exact rfl); (case kF => exact rfl); (case kK => first | exact rfl | assumption); (case k1 => k_asm); (case k2 => k_asm); (case k3 => k_asm); (case k4 => k_asm); (case k5 => k_asm); (case k6 => k_is); (case k7 => k_is); (case k8 => ktr_room); (case k9 => exact BindsTo.of_eq rfl); (case c5 => decide); (case kB => exact locs rfl); (case c2 => exact rfl); (case c3 => exact rfl); (case c4 => exact rfl); k_whole; intro g' L' h' FG' F' N' B' X' T'; (try dsimp only); (try k_lift B'); (try k_fold))))
def HaltRead (P : Prop) : Prop := P
theorem HaltRead.mk {P : Prop} (h : HaltRead P) : P := h
local macro_rules | `(tactic| walk_at "exec While BoolOp cons nil") => `(tactic| (refine HaltRead.mk ?_))
local macro_rules | `(tactic| walk_at "binaryOp Mult int int") => `(tactic| (k_here; refine mul_int ?_ (RInv.mulOk (by assumption) ?b); (case b => first | exact bits_small | exact bits_small2 | exact bits_small3 | decide)))
theorem read_and (w : World) (mean : ExcName → Option Value) (mg mb : Str → Option Value) (news : Ledger) (t0 t1 t2 : Tok) (x y : Int) (hx : Sz 41 x) (hy : Sz 41 y) :
    Spec w mean mg mb 256 9 news [.str (Str.ofString "/\\") t0, .int x t1, .int y t2] (fun r news' => (∃ t, r = .int (Builtin.bitAnd x y) t) ∧ news' = news) := by
  w_top off; unfold Spec; k_fill
  intro dp un gd cn cs a ccd cl outer A₀ base h₀ L m s Q E B F X N T hk hd1 hu1 hret
  refine wpAny_call ?_
  k_dflt cell_enter
  k_with "state" => first
    | exact RInv.start _ (by assumption) (by assumption)
    | exact RInv.turn _ (and_rec _ _) (by assumption) (by first | exact .inl (by assumption) | exact .inr (by assumption))
  k_with "measure" => exact RInv.meas (by first | exact .inl (by assumption) | exact .inr (by assumption))
  k_steps
  unfold HaltRead
  k_while_given ["one!", "other!"] (fun a b (_ : List Int) total weight one other => RInv Builtin.bitAnd a b total weight one other) (fun _ _ (_ : List Int) _ _ one other => mu one + mu other) "total" "weight" "one" "other"
  k_steps
  all_goals refine hret _ _ _ _ (by k_asm) (cb_drop (by assumption) (by kcj_all)) ⟨ktn_int (RInv.fin _ (by assumption) (by assumption) (by assumption) (and_fin (by assumption) (by assumption))), rfl⟩
  k_with_none
theorem read_or (w : World) (mean : ExcName → Option Value) (mg mb : Str → Option Value) (news : Ledger) (t0 t1 t2 : Tok) (x y : Int) (hx : Sz 41 x) (hy : Sz 41 y) :
    Spec w mean mg mb 256 9 news [.str (Str.ofString "\\/") t0, .int x t1, .int y t2] (fun r news' => (∃ t, r = .int (Builtin.bitOr x y) t) ∧ news' = news) := by
  w_top off; unfold Spec; k_fill
  intro dp un gd cn cs a ccd cl outer A₀ base h₀ L m s Q E B F X N T hk hd1 hu1 hret
  refine wpAny_call ?_
  k_dflt cell_enter
  k_with "state" => first
    | exact RInv.start _ (by assumption) (by assumption)
    | exact RInv.turn _ (or_rec _ _) (by assumption) (by first | exact .inl (by assumption) | exact .inr (by assumption))
  k_with "measure" => exact RInv.meas (by first | exact .inl (by assumption) | exact .inr (by assumption))
  k_steps
  unfold HaltRead
  k_while_given ["one!", "other!"] (fun a b (_ : List Int) total weight one other => RInv Builtin.bitOr a b total weight one other) (fun _ _ (_ : List Int) _ _ one other => mu one + mu other) "total" "weight" "one" "other"
  k_steps
  all_goals refine hret _ _ _ _ (by k_asm) (cb_drop (by assumption) (by kcj_all)) ⟨ktn_int (RInv.fin _ (by assumption) (by assumption) (by assumption) (or_fin (by assumption) (by assumption))), rfl⟩
  k_with_none
theorem read_xor (w : World) (mean : ExcName → Option Value) (mg mb : Str → Option Value) (news : Ledger) (t0 t1 t2 : Tok) (x y : Int) (hx : Sz 41 x) (hy : Sz 41 y) :
    Spec w mean mg mb 256 9 news [.str (Str.ofString "xor") t0, .int x t1, .int y t2] (fun r news' => (∃ t, r = .int (Builtin.bitXor x y) t) ∧ news' = news) := by
  w_top off; unfold Spec; k_fill
  intro dp un gd cn cs a ccd cl outer A₀ base h₀ L m s Q E B F X N T hk hd1 hu1 hret
  refine wpAny_call ?_
  k_dflt cell_enter
  k_with "state" => first
    | exact RInv.start _ (by assumption) (by assumption)
    | exact RInv.turn _ (xor_rec _ _) (by assumption) (by first | exact .inl (by assumption) | exact .inr (by assumption))
  k_with "measure" => exact RInv.meas (by first | exact .inl (by assumption) | exact .inr (by assumption))
  k_steps
  unfold HaltRead
  k_while_given ["one!", "other!"] (fun a b (_ : List Int) total weight one other => RInv Builtin.bitXor a b total weight one other) (fun _ _ (_ : List Int) _ _ one other => mu one + mu other) "total" "weight" "one" "other"
  k_steps
  all_goals refine hret _ _ _ _ (by k_asm) (cb_drop (by assumption) (by kcj_all)) ⟨ktn_int (RInv.fin _ (by assumption) (by assumption) (by assumption) (xor_fin (by assumption) (by assumption))), rfl⟩
  k_with_none
end
section
local macro_rules | `(tactic| walk_at "no step Draw 0") => `(tactic| fail)
local macro_rules | `(tactic| walk_at "no step Draw 1") => `(tactic| fail)
theorem lim_log {l : Int} (h0 : 0 < l) (h1 : l ≤ 1099511627776) : l.natAbs.log2 < 9000 := by
  have h := (Nat.log2_lt (show l.natAbs ≠ 0 by omega) (k := 41)).mpr (by
    have e : (2 : Nat) ^ 41 = 2199023255552 := by decide
    rw [e]; omega)
  omega
theorem fmod_ok {x l : Int} (h : 0 < l) : 0 ≤ x.fmod l ∧ x.fmod l < l := ⟨Int.fmod_nonneg_of_pos x h, Int.fmod_lt_of_pos x h⟩
theorem fdiv_ok {x l : Int} (hx : 0 ≤ x) (h : 0 < l) : 0 ≤ x.fdiv l := by
  rw [Int.fdiv_eq_ediv_of_nonneg _ (Int.le_of_lt h)]; exact Int.ediv_nonneg hx (Int.le_of_lt h)
/-- the pool's ledger -/
abbrev poolL (P X : Addr) (ws : List Value) (rest : Ledger) (d i c : Int) (u1 u2 u3 : Tok) (k : Nat) : Ledger :=
  (P, W.listOf #[.ref X, .int d u1, .int i u2, .int c u3] k) :: (X, W.listOf ws.toArray 0) :: rest
abbrev PoolPost (P X : Addr) (ws : List Value) (rest : Ledger) (ok : Int → Prop) (r : Value) (news' : Ledger) : Prop :=
  ∃ v t d i c u1 u2 u3 k, r = Value.int v t ∧ ok v ∧ 0 ≤ d ∧ -1 ≤ i ∧ 0 ≤ c ∧ news' = poolL P X ws rest d i c u1 u2 u3 k
local macro_rules | `(tactic| walk_at "call ref") => `(tactic| (k_here; refine wpAny_call ?_; k_dflt (refine' code_def ?k1 ?k2 ?k3 ?k4 ?k5 ?kA ?kF ?kK ?k6 ?k7 ?k8 ?k9 ?kB ?_ ?c2 ?c3 ?c4 ?c5; (case kA => exact rfl); (case kF => exact rfl); (case kK => first | exact rfl | assumption); (case k1 => k_asm); (case k2 => k_asm); (case k3 => k_asm); (case k4 => k_asm); (case k5 => k_asm); (case k6 => k_is); (case k7 => k_is); (case k8 => ktr_room); (case k9 => exact BindsTo.of_eq rfl); (case c5 => decide); (case kB => exact locs rfl); (case c2 => exact rfl); (case c3 => exact rfl); (case c4 => exact rfl); k_whole; intro g' L' h' FG' F' N' B' X' T'; (try dsimp only); (try k_lift B'); (try k_fold))))

local macro_rules | `(tactic| walk_at "binaryOp FloorDiv int int") => `(tactic| (k_here; refine floordiv_int ?nz ?_ (Or.inl (PyProof.noPylong_of_log2 ?lg)); (case nz => omega); (case lg => exact lim_log (by assumption) (by assumption))))
theorem draw_spec (w : World) (mean : ExcName → Option Value) (mg mb : Str → Option Value) (P X : Addr) (ws : List Value) (ns : List Int) (rest : Ledger) (hI : IntsAre ws ns) (hlen : ns.length ≤ 63) (hPX : @Ne Nat P X) (hoff : OwnOff rest [P, X])
    (d i c : Int) (u1 u2 u3 : Tok) (k : Nat) (hd : 0 ≤ d) (hi : -1 ≤ i) (hc : 0 ≤ c) (lim : Int) (tl : Tok) (hl : 0 < lim) (hl2 : lim ≤ 1099511627776) :
    Spec w mean mg mb 235 9 (poolL P X ws rest d i c u1 u2 u3 k) [.ref P, .int lim tl] (PoolPost P X ws rest (fun v => 0 ≤ v ∧ v < lim)) := by
  w_top off; unfold Spec; k_fill
  intro dp un gd cn cs a ccd cl outer A₀ base h₀ L m s Q E B F KX N T hk hd1 hu1 hret
  dsimp only [poolL] at N
  refine wpAny_call ?_
  k_dflt cell_enter
  k_steps
  all_goals exact hret _ _ _ _ (by k_asm) (by k_asm) ⟨_, _, _, _, _, _, _, _, _, rfl, fmod_ok hl, by first | omega | exact fdiv_ok (by omega) hl, by omega, by omega, rfl⟩
end
section
local macro_rules | `(tactic| walk_at "no step Whole 0") => `(tactic| fail)
local macro_rules | `(tactic| walk_at "no step Whole 1") => `(tactic| fail)
local macro_rules | `(tactic| walk_at "no step Whole 2") => `(tactic| fail)
local macro_rules | `(tactic| walk_at "no step Whole 3") => `(tactic| fail)
theorem pow_range {e : Int} (h0 : 0 ≤ e) (h1 : e < 40) : 1 ≤ (2 : Int) ^ e.toNat ∧ (2 : Int) ^ e.toNat ≤ 549755813888 := by
  have hp := kbt_pos e.toNat
  have hc := kbt_cast e.toNat
  have hl := Nat.pow_le_pow_right (show 0 < 2 by decide) (show e.toNat ≤ 39 by omega)
  have e2 : (2 : Nat) ^ 39 = 549755813888 := by decide
  rw [e2] at hl
  omega
theorem sz1 {v : Int} (h : 0 ≤ v ∧ v < 17) : Sz 41 (v - 8) := Sz.of41 (by omega) (by omega)
theorem sz2 {v : Int} (h : 0 ≤ v ∧ v < 2 ^ Int.toNat 40) : Sz 41 (v - 2 ^ Int.toNat 39) := by
  have e39 : (2 : Int) ^ Int.toNat 39 = 549755813888 := by decide
  have e40 : (2 : Int) ^ Int.toNat 40 = 1099511627776 := by decide
  rw [e40] at h; rw [e39]
  exact Sz.of41 (by omega) (by omega)
theorem sz3 {v u : Int} (h : 0 ≤ v ∧ v < 40) (hu : 0 ≤ u ∧ u < 3) : Sz 41 (2 ^ v.toNat + (u - 1)) := by
  have := pow_range h.1 h.2
  exact Sz.of41 (by omega) (by omega)
theorem sz4 {v u : Int} (h : 0 ≤ v ∧ v < 40) (hu : 0 ≤ u ∧ u < 3) : Sz 41 (u - 1 - 2 ^ v.toNat) := by
  have := pow_range h.1 h.2
  exact Sz.of41 (by omega) (by omega)
local macro_rules | `(tactic| walk_at "call ref") => `(tactic| (k_here; k_dflt (refine' draw_spec _ _ _ _ _ _ _ _ _ ?hI ?hlen ?hPX ?hoff _ _ _ _ _ _ _ ?hd ?hi ?hc _ _ ?hl ?hl2 _ _ _ _ _ _ _ _ _ _ _ _ _ _ _ _ _ ?k1 ?k2 ?k3 ?k4 ?k5 ?kK ?kd ?ku ?_; (case k1 => k_asm); (case k2 => k_asm); (case k3 => k_asm); (case k4 => k_asm); (case k5 => k_asm); (case kK => first | exact rfl | assumption); (case hI => assumption); (case hlen => assumption); (case hPX => assumption); (case hoff => assumption); (case hd => omega); (case hi => omega); (case hc => omega); (case hl => first | omega | decide); (case hl2 => first | omega | decide); (case kd => ktr_room); (case ku => ktr_units)); intro r9 l9 h9 tk9 F9 N9 hp9; obtain ⟨v9, t9, d9, i9, c9, u19, u29, u39, k9, e9, hv9, hd9, hi9, hc9, el9⟩ := hp9; subst e9; subst el9; dsimp only [poolL] at N9; (try dsimp only); (try k_fold)))

theorem whole_spec (w : World) (mean : ExcName → Option Value) (mg mb : Str → Option Value) (P X : Addr) (ws : List Value) (ns : List Int) (rest : Ledger) (hI : IntsAre ws ns) (hlen : ns.length ≤ 63) (hPX : @Ne Nat P X) (hoff : OwnOff rest [P, X])
    (d i c : Int) (u1 u2 u3 : Tok) (k : Nat) (hd : 0 ≤ d) (hi : -1 ≤ i) (hc : 0 ≤ c) :
    Spec w mean mg mb 242 12 (poolL P X ws rest d i c u1 u2 u3 k) [.ref P] (PoolPost P X ws rest (Sz 41)) := by
  w_top off; unfold Spec; k_fill
  intro dp un gd cn cs a ccd cl outer A₀ base h₀ L m s Q E B F KX N T hk hd1 hu1 hret
  dsimp only [poolL] at N
  refine wpAny_call ?_
  k_dflt cell_enter
  k_steps
  all_goals exact hret _ _ _ _ (by k_asm) (by k_asm) ⟨_, _, _, _, _, _, _, _, _, rfl, by first | exact sz1 (by assumption) | exact sz2 (by assumption) | exact sz3 (by assumption) (by assumption) | exact sz4 (by assumption) (by assumption), by assumption, by assumption, by assumption, rfl⟩
end
section
open PySem PySem.W PyProof.Rows PyProof.V PySem.Spec
abbrev Pg : Program := PySem.Challenge.rw_rh0069_01.row.prog
theorem c_di : Value.type "dict" ≠ Value.type "tuple_iterator" := by decide
theorem c_li : Value.type "list" ≠ Value.type "tuple_iterator" := by decide
theorem c_ti : Value.type "tuple" ≠ Value.type "tuple_iterator" := by decide
theorem c_dl : Value.type "dict" ≠ Value.type "list" := by decide
theorem c_ld : Value.type "list" ≠ Value.type "dict" := by decide
theorem c_lt : Value.type "list" ≠ Value.type "tuple" := by decide
theorem c_dt : Value.type "dict" ≠ Value.type "tuple" := by decide
section
variable {h₀ h : Heap} {L : Addr} {m : Str → Option Value} {news news' : List (Addr × Obj)}
theorem ne_of_cls (N : News h₀ L h news) {p q : Addr × Obj} (hp : p ∈ news) (hq : q ∈ news) (hc : p.2.cls ≠ q.2.cls) : p.1 ≠ q.1 := by
  intro e
  have h1 := (N p hp).1
  have h2 := (N q hq).1
  rw [e, h2] at h1
  exact hc (congrArg Obj.cls (Option.some.inj h1).symm)
variable {prog : Program} {w : World} {A : Around} {E : Value → Shared → Prop} {s : Shared}
theorem app_mem {D : Addr} {its : Array Value} {n : Nat} {x : Value} {Q : Value → Shared → Prop} (F : Fr h₀ L s.heap m) (N : News h₀ L s.heap news) (hm : (D, W.listOf its n) ∈ news)
    (h : ∀ h' news', Fr h₀ L h' m → News h₀ L h' news' → (D, W.listOf (its.push x) (n + 1)) ∈ news' → (∀ p ∈ news, p.1 ≠ D → p ∈ news') → Q .none { s with heap := h' }) (hsz : its.size ≤ sizeLine) :
    wpAny (model prog w) A (call (.builtin "list.append") [.ref D, x]) Q E s := by
  have z := N _ hm
  exact append_at (hsz := hsz) z.1 fun h' hs ho' => h h' (news.map fun p => if p.1 = D then (D, W.listOf (its.push x) (n + 1)) else p) (F.change hs z.2.1 z.2.2) (N.replace hs ho')
    (List.mem_map.mpr ⟨_, hm, by simp⟩) fun p hp hne => List.mem_map.mpr ⟨p, hp, by simp [hne]⟩
theorem set_mem {d : Addr} {o : Obj} {k : Str} {t : Tok} {v : Value} {dv : PyData} {kvs : List (Str × Value)} {D : List (PyData × PyData)} {Q : Unit → Shared → Prop} (hv : Flat v dv)
    (F : Fr h₀ L s.heap m) (N : News h₀ L s.heap news) (hm : (d, o) ∈ news) (hd : o.IsDictOf (PySem.strKind prog w) kvs) (hf : FlatPairs PyData.str kvs D) (hsz : D.length ≤ sizeLine)
    (h : ∀ h' news' o', Fr h₀ L h' m → News h₀ L h' news' → (d, o') ∈ news' → (∀ p ∈ news, p.1 ≠ d → p ∈ news') → o'.IsDictOf (PySem.strKind prog w) (stored kvs k v) → FlatPairs PyData.str (stored kvs k v) (putD (.str k) dv D) → Q () { s with heap := h', toks := s.toks + 1 }) :
    wpAny (model prog w) A (setItem (.ref d) (.str k t) v) Q E s := by
  have z := N _ hm
  refine wpAny_setItem_pairs (hsz := by rw [← hf.length]; exact hsz) (strKind_is prog w k t) (Heap.dictOf_iff.mpr ⟨o, z.1, hd⟩) fun h' hmm hs => ?_
  obtain ⟨o', ho', hd'⟩ := Heap.dictOf_iff.mp hmm
  exact h h' (news.map fun p => if p.1 = d then (d, o') else p) o' (F.change hs z.2.1 z.2.2) (N.replace hs ho')
    (List.mem_map.mpr ⟨_, hm, by simp⟩) (fun p hp hne => List.mem_map.mpr ⟨p, hp, by simp [hne]⟩) hd' (hf.stored PyProof.V.same_str k hv)
theorem newtup_mem {vs : List Value} {Q : Value → Shared → Prop} (F : Fr h₀ L s.heap m) (N : News h₀ L s.heap news)
    (h : ∀ T h' news', Fr h₀ L h' m → News h₀ L h' news' → (T, ({ cls := .type "tuple", data := .seq vs.toArray } : Obj)) ∈ news' → (∀ p ∈ news, p ∈ news') → Q (.ref T) { s with heap := h' }) (hz : vs.length ≤ sizeLine) : wpAny (model prog w) A (newTuple vs) Q E s :=
  kup_newTuple F N (fun D h' F' N' _ => h D h' _ F' N' List.mem_cons_self fun p hp => List.mem_cons_of_mem _ hp) hz
theorem tup_keep {K : Type} [DecidableEq K] {knd : PySem.KeyKind prog w K} {enc : K → PyData} {d a : Addr} {o : Obj} {D : List (PyData × PyData)} (N : News h₀ L h news) (T : TupTab knd enc news d D) (hm : (a, o) ∈ news) (hne : d ≠ a) (hc : o.cls ≠ .type "tuple")
    (hk : ∀ p ∈ news, p.1 ≠ a → p ∈ news') : TupTab knd enc news' d D := by
  obtain ⟨lo, od, es, ep, xs, h1, h2, h3, h4, h5, h6, h7⟩ := T
  refine ⟨lo, od, es, ep, xs, hk _ h1 hne, h2, h3, h4, h5, fun x hx => ?_, h7⟩
  obtain ⟨ok, hok, tk⟩ := h6 x hx
  exact ⟨ok, hk _ hok (ne_of_cls N hok hm (by rw [tk.1]; exact fun e => hc e.symm)), tk⟩
theorem tup_sub {K : Type} [DecidableEq K] {knd : PySem.KeyKind prog w K} {enc : K → PyData} {d : Addr} {D : List (PyData × PyData)} (T : TupTab knd enc news d D)
    (hk : ∀ p ∈ news, p.2.cls ≠ .type "tuple_iterator" → p ∈ news') : TupTab knd enc news' d D := by
  obtain ⟨lo, od, es, ep, xs, h1, h2, h3, h4, h5, h6, h7⟩ := T
  refine ⟨lo, od, es, ep, xs, hk _ h1 (by rw [h2.1]; decide), h2, h3, h4, h5, fun x hx => ?_, h7⟩
  obtain ⟨ok, hok, tk⟩ := h6 x hx
  exact ⟨ok, hk _ hok (by rw [tk.1]; decide), tk⟩
end
/-- the Symbols object and what it holds, over a ledger -/
structure SI (w : World) (S dS Lt Da Lf Df : Addr) (n : Nat) (news : Ledger) : Prop where
  inst : (S, instObj 154 dS) ∈ news
  dict : ∃ t1 t2 t3 t4 : Tok, (dS, W.dictOf [{ hash := PyData.keyHash w.params (Str.ofString "texts"), key := .str (Str.ofString "texts") t1, val := .ref Lt },
    { hash := PyData.keyHash w.params (Str.ofString "atom_numbers"), key := .str (Str.ofString "atom_numbers") t2, val := .ref Da },
    { hash := PyData.keyHash w.params (Str.ofString "functors"), key := .str (Str.ofString "functors") t3, val := .ref Lf },
    { hash := PyData.keyHash w.params (Str.ofString "functor_numbers"), key := .str (Str.ofString "functor_numbers") t4, val := .ref Df }] 4) ∈ news
  lt : ∃ ts k, (Lt, W.listOf ts k) ∈ news ∧ ts.size ≤ n
  da : ∃ o kvs D, (Da, o) ∈ news ∧ o.IsDictOf (PySem.strKind Pg w) kvs ∧ FlatPairs PyData.str kvs D ∧ Shaped .str .int D ∧ D.length ≤ n
  lf : ∃ ts k, (Lf, W.listOf ts k) ∈ news ∧ ts.size ≤ n
  df : ∃ D, TupTab (PySem.intKind Pg w) PyData.int news Df D ∧ Shaped .any .int D ∧ D.length ≤ n
  lo : (Da == sysModules) = false
  d1 : @Ne Nat Lt Lf
  d2 : @Ne Nat dS Da
  d3 : @Ne Nat dS Df
  d4 : @Ne Nat Da Df
theorem SI.sub {w : World} {S dS Lt Da Lf Df : Addr} {n : Nat} {news news' : Ledger} (I : SI w S dS Lt Da Lf Df n news) (hk : ∀ p ∈ news, p.2.cls ≠ .type "tuple_iterator" → p ∈ news') : SI w S dS Lt Da Lf Df n news' := by
  obtain ⟨i1, ⟨t1, t2, t3, t4, i2⟩, ⟨ts, k, i3, i3'⟩, ⟨o, kvs, D, i4, i4a, i4b, i4c, i4d⟩, ⟨fs, k2, i5, i5'⟩, ⟨D2, i6, i6a, i6b⟩, lo, d1, d2, d3, d4⟩ := I
  refine ⟨hk _ i1 (by intro e; cases e), ⟨t1, t2, t3, t4, hk _ i2 c_di⟩, ⟨ts, k, hk _ i3 c_li, i3'⟩, ⟨o, kvs, D, hk _ i4 ?_, i4a, i4b, i4c, i4d⟩, ⟨fs, k2, hk _ i5 c_li, i5'⟩, ⟨D2, tup_sub i6 hk, i6a, i6b⟩, lo, d1, d2, d3, d4⟩
  obtain ⟨_, _, h, _⟩ := i4a
  rw [h.1]; exact c_di
theorem SI.le {w : World} {S dS Lt Da Lf Df : Addr} {n n' : Nat} {news : Ledger} (I : SI w S dS Lt Da Lf Df n news) (h : n ≤ n') : SI w S dS Lt Da Lf Df n' news := by
  obtain ⟨i1, i2, ⟨ts, k, i3, i3'⟩, ⟨o, kvs, D, i4, i4a, i4b, i4c, i4d⟩, ⟨fs, k2, i5, i5'⟩, ⟨D2, i6, i6a, i6b⟩, lo, d1, d2, d3, d4⟩ := I
  exact ⟨i1, i2, ⟨ts, k, i3, by omega⟩, ⟨o, kvs, D, i4, i4a, i4b, i4c, by omega⟩, ⟨fs, k2, i5, by omega⟩, ⟨D2, i6, i6a, by omega⟩, lo, d1, d2, d3, d4⟩
theorem dict_cls {prog : Program} {w : World} {K : Type} [DecidableEq K] {knd : PySem.KeyKind prog w K} {o : Obj} {kvs : List (K × Value)} (h : o.IsDictOf knd kvs) : o.cls = .type "dict" := by
  obtain ⟨_, _, h, _⟩ := h; exact h.1
section
variable {w : World} {S dS Lt Da Lf Df : Addr} {n : Nat} {news news' : Ledger} {h₀ h : Heap} {L : Addr}
theorem SI.dfm (I : SI w S dS Lt Da Lf Df n news) : ∃ o, (Df, o) ∈ news ∧ o.cls = .type "dict" := by
  obtain ⟨D2, ⟨_, od, es, ep, xs, h1, h2, _⟩, _, _⟩ := I.df
  exact ⟨od, h1, h2.1⟩
theorem SI.put_lt {ts : Array Value} {k : Nat} {x : Value} (keep : ∀ p ∈ news, p.1 ≠ Lt → p ∈ news') (hnew : (Lt, W.listOf (ts.push x) (k + 1)) ∈ news') (hz : ts.size ≤ n) (hm : (Lt, W.listOf ts k) ∈ news) (N : News h₀ L h news) (I : SI w S dS Lt Da Lf Df n news) :
    SI w S dS Lt Da Lf Df (n + 1) news' := by
  obtain ⟨i1, ⟨t1, t2, t3, t4, i2⟩, _, ⟨o, kvs, D, i4, i4a, i4b, i4c, i4d⟩, ⟨fs, k2, i5, i5'⟩, ⟨D2, i6, i6a, i6b⟩, lo, d1, d2, d3, d4⟩ := id I
  obtain ⟨od, hod, hodc⟩ := I.dfm
  refine ⟨keep _ i1 (ne_of_cls N i1 hm (by intro e; cases e)), ⟨t1, t2, t3, t4, keep _ i2 (ne_of_cls N i2 hm c_dl)⟩, ⟨_, _, hnew, by rw [Array.size_push]; omega⟩,
    ⟨o, kvs, D, keep _ i4 (ne_of_cls N i4 hm (by rw [dict_cls i4a]; exact c_dl)), i4a, i4b, i4c, by omega⟩, ⟨fs, k2, keep _ i5 (Ne.symm d1), by omega⟩,
    ⟨D2, tup_keep N i6 hm (ne_of_cls N hod hm (by rw [hodc]; exact c_dl)) c_lt keep, i6a, by omega⟩, lo, d1, d2, d3, d4⟩
theorem SI.put_lf {ts : Array Value} {k : Nat} {x : Value} (keep : ∀ p ∈ news, p.1 ≠ Lf → p ∈ news') (hnew : (Lf, W.listOf (ts.push x) (k + 1)) ∈ news') (hz : ts.size ≤ n) (hm : (Lf, W.listOf ts k) ∈ news) (N : News h₀ L h news) (I : SI w S dS Lt Da Lf Df n news) :
    SI w S dS Lt Da Lf Df (n + 1) news' := by
  obtain ⟨i1, ⟨t1, t2, t3, t4, i2⟩, ⟨fs, k2, i5, i5'⟩, ⟨o, kvs, D, i4, i4a, i4b, i4c, i4d⟩, _, ⟨D2, i6, i6a, i6b⟩, lo, d1, d2, d3, d4⟩ := id I
  obtain ⟨od, hod, hodc⟩ := I.dfm
  refine ⟨keep _ i1 (ne_of_cls N i1 hm (by intro e; cases e)), ⟨t1, t2, t3, t4, keep _ i2 (ne_of_cls N i2 hm c_dl)⟩, ⟨fs, k2, keep _ i5 d1, by omega⟩,
    ⟨o, kvs, D, keep _ i4 (ne_of_cls N i4 hm (by rw [dict_cls i4a]; exact c_dl)), i4a, i4b, i4c, by omega⟩, ⟨_, _, hnew, by rw [Array.size_push]; omega⟩,
    ⟨D2, tup_keep N i6 hm (ne_of_cls N hod hm (by rw [hodc]; exact c_dl)) c_lt keep, i6a, by omega⟩, lo, d1, d2, d3, d4⟩
theorem len_putD_le (a b : PyData) (D : List (PyData × PyData)) : (putD a b D).length ≤ D.length + 1 := by
  rw [length_putD]; split <;> omega
theorem SI.put_da {o o' : Obj} {kvs : List (Str × Value)} {D : List (PyData × PyData)} {k : Str} {z : Int} {t : Tok} (keep : ∀ p ∈ news, p.1 ≠ Da → p ∈ news') (hnew : (Da, o') ∈ news') (hd' : o'.IsDictOf (PySem.strKind Pg w) (stored kvs k (.int z t)))
    (hf' : FlatPairs PyData.str (stored kvs k (.int z t)) (putD (.str k) (.int z) D)) (hs : Shaped .str .int D) (hz : D.length ≤ n) (hm : (Da, o) ∈ news) (hd : o.IsDictOf (PySem.strKind Pg w) kvs) (N : News h₀ L h news) (I : SI w S dS Lt Da Lf Df n news) :
    SI w S dS Lt Da Lf Df (n + 1) news' := by
  obtain ⟨i1, ⟨t1, t2, t3, t4, i2⟩, ⟨ts, k1, i3, i3'⟩, _, ⟨fs, k2, i5, i5'⟩, ⟨D2, i6, i6a, i6b⟩, lo, d1, d2, d3, d4⟩ := id I
  have hc := dict_cls hd
  have hl := len_putD_le (.str k) (.int z) D
  refine ⟨keep _ i1 (ne_of_cls N i1 hm (by rw [hc]; intro e; cases e)), ⟨t1, t2, t3, t4, keep _ i2 d2⟩, ⟨ts, k1, keep _ i3 (ne_of_cls N i3 hm (by rw [hc]; exact c_ld)), by omega⟩,
    ⟨o', _, _, hnew, hd', hf', hs.put rfl rfl, by omega⟩, ⟨fs, k2, keep _ i5 (ne_of_cls N i5 hm (by rw [hc]; exact c_ld)), by omega⟩,
    ⟨D2, tup_keep N i6 hm (Ne.symm d4) (by rw [hc]; exact c_dt) keep, i6a, by omega⟩, lo, d1, d2, d3, d4⟩
theorem SI.put_df {D : List (PyData × PyData)} {ks : List Int} {z : Int} (keep : ∀ p ∈ news, p.1 ≠ Df → p ∈ news') (T' : TupTab (PySem.intKind Pg w) PyData.int news' Df (putD (encTuple PyData.int ks) (.int z) D)) (hs : Shaped .any .int D) (hz : D.length ≤ n)
    (N : News h₀ L h news) (I : SI w S dS Lt Da Lf Df n news) : SI w S dS Lt Da Lf Df (n + 1) news' := by
  obtain ⟨i1, ⟨t1, t2, t3, t4, i2⟩, ⟨ts, k1, i3, i3'⟩, ⟨o, kvs, D1, i4, i4a, i4b, i4c, i4d⟩, ⟨fs, k2, i5, i5'⟩, _, lo, d1, d2, d3, d4⟩ := id I
  obtain ⟨od, hod, hodc⟩ := I.dfm
  have hl := len_putD_le (encTuple PyData.int ks) (.int z) D
  refine ⟨keep _ i1 (ne_of_cls N i1 hod (by rw [hodc]; intro e; cases e)), ⟨t1, t2, t3, t4, keep _ i2 d3⟩, ⟨ts, k1, keep _ i3 (ne_of_cls N i3 hod (by rw [hodc]; exact c_ld)), by omega⟩,
    ⟨o, kvs, D1, keep _ i4 d4, i4a, i4b, i4c, by omega⟩, ⟨fs, k2, keep _ i5 (ne_of_cls N i5 hod (by rw [hodc]; exact c_ld)), by omega⟩,
    ⟨_, T', hs.put rfl rfl, by omega⟩, lo, d1, d2, d3, d4⟩
end
def Kept (l : List Addr) (news news' : Ledger) : Prop := ∀ p ∈ news, p.1 ∉ l → p ∈ news'
theorem Kept.refl {l : List Addr} {news : Ledger} : Kept l news news := fun _ h _ => h
theorem Kept.trans {l : List Addr} {a b c : Ledger} (h : Kept l a b) (g : Kept l b c) : Kept l a c := fun p hp hn => g p (h p hp hn) hn
theorem Kept.of {l : List Addr} {d : Addr} {a b : Ledger} (hk : ∀ p ∈ a, p.1 ≠ d → p ∈ b) (hd : d ∈ l) : Kept l a b := fun p hp hn => hk p hp fun e => hn (e ▸ hd)
theorem Kept.ofSub {l : List Addr} {a b : Ledger} (hk : ∀ p ∈ a, p ∈ b) : Kept l a b := fun p hp _ => hk p hp
end
section
local macro_rules | `(tactic| walk_at "no step SymB 0") => `(tactic| fail)
local macro_rules | `(tactic| walk_at "no step SymB 1") => `(tactic| fail)
local macro_rules | `(tactic| walk_at "call builtin:dict.get") => `(tactic| (k_here; (with_reducible show wpAny _ _ (PySem.call (Value.builtin "dict.get") [Value.ref _, Value.str _ _, Value.int _ _]) _ _ _); k_dflt (refine' call_get2_tab_int (knd := PySem.strKind _ _) (enc := PyData.str) PyProof.V.same_str (strKind_is _ _ _ _) ?T ?S ?_; (case T => k_tabat); (case S => assumption)); intro t9))
local macro_rules | `(tactic| walk_at "call builtin:len") => `(tactic| (k_here; k_dflt (refine' len_list (News.isList ?N ?m) ?z ?_; (case N => k_asm); (case m => assumption); (case z => omega))))
local macro_rules | `(tactic| walk_at "setItem ref str int") => `(tactic| (k_here; k_dflt (refine' set_mem (PyProof.V.Flat.int _ _) ?F ?N ?m ?d ?f ?z ?_; (case F => k_asm); (case N => k_asm); (case m => assumption); (case d => assumption); (case f => assumption); (case z => (rw [sizeLine_eq]; omega))); intro h' nw' o' F' N' hnew' hkeep' hd' hf'; have hI9 := SI.put_da hkeep' hnew' hd' hf' (by assumption) (by assumption) (by assumption) (by assumption) (by assumption) (by assumption)))
local macro_rules | `(tactic| walk_at "call builtin:list.append") => `(tactic| (k_here; (with_reducible show wpAny _ _ (PySem.call (Value.builtin _) [Value.ref _, _]) _ _ _); k_dflt (refine' app_mem ?F ?N ?m ?_ ?z; (case F => k_asm); (case N => k_asm); (case m => assumption); (case z => (rw [sizeLine_eq]; omega))); intro h' nw' F' N' hnew' hkeep'; have hI9 := SI.put_lt hkeep' hnew' (by assumption) (by assumption) (by assumption) (by assumption); obtain ⟨j1, ⟨_, _, _, _, j2⟩, ⟨_, _, j3, j3z⟩, ⟨_, _, _, j4, j4a, j4b, j4c, j4z⟩, ⟨_, _, j5, j5z⟩, ⟨_, j6, j6a, j6z⟩, jlo, jd1, jd2, jd3, jd4⟩ := id hI9))
theorem atom_spec (w : World) (mean : ExcName → Option Value) (mg mb : Str → Option Value) (S dS Lt Da Lf Df : Addr) (n : Nat) (news : Ledger) (I : SI w S dS Lt Da Lf Df n news) (hn : n ≤ 100000) (x : Str) (t : Tok) :
    Spec w mean mg mb 88 9 news [.ref S, .str x t] (fun r news' => (∃ k t', r = .int k t') ∧ SI w S dS Lt Da Lf Df (n + 2) news' ∧ Kept [Lt, Da, Lf, Df] news news') := by
  w_top off; unfold Spec; k_fill
  obtain ⟨i1, ⟨_, _, _, _, i2⟩, ⟨_, _, i3, i3z⟩, ⟨_, _, _, i4, i4a, i4b, i4c, i4z⟩, ⟨_, _, i5, i5z⟩, ⟨_, i6, i6a, i6z⟩, ilo, id1, id2, id3, id4⟩ := id I
  intro dp un gd cn cs a ccd cl outer A₀ base h₀ L m s Q E B F KX N T hk hd1 hu1 hret
  refine wpAny_call ?_
  k_dflt cell_enter
  k_steps
  · exact hret _ _ _ _ (by k_asm) (by k_asm) ⟨⟨_, _, rfl⟩, SI.le (by assumption) (by omega), Kept.refl⟩
  · exact hret _ _ _ _ (by k_asm) (by k_asm) ⟨⟨_, _, rfl⟩, SI.le (by assumption) (by omega), Kept.trans (Kept.of (by assumption) (by simp)) (Kept.of (by assumption) (by simp))⟩
end
section
local macro_rules | `(tactic| walk_at "no step SymC 0") => `(tactic| fail)
section
variable {h₀ : Heap} {L : Addr} {m : Str → Option Value} {news : List (Addr × Obj)} {prog : Program} {w : World} {A : Around} {E : Value → Shared → Prop} {s : Shared}
theorem get_tup_int {d a : Addr} {ok : Obj} {ks : List Int} {D : List (PyData × PyData)} {sk : PySem.Spec.Shape} {z : Int} {tz : Tok} {Q : Value → Shared → Prop} (hu : A.units + 1 < cLine) (N : News h₀ L s.heap news) (T : TupTab (PySem.intKind prog w) PyData.int news d D)
    (hka : (a, ok) ∈ news) (tk : TupKeyObj (PySem.intKind prog w) ks ok) (hs : Shaped sk .int D) (h : ∀ x t, Q (.int x t) { s with toks := s.toks + (ks.length + 1) }) :
    wpAny (model prog w) A (call (.builtin "dict.get") [.ref d, .ref a, .int z tz]) Q E s :=
  call_get2_tupTab PyProof.V.same_int hu N T hka tk (PyProof.V.Flat.int z tz) fun v hv => by
    obtain ⟨t, rfl⟩ := flat_getD_int hs hv
    exact h _ t
end
theorem c_tl : Value.type "tuple" ≠ Value.type "list" := by decide
theorem keep_tup {h₀ h : Heap} {L D T : Addr} {news news' : Ledger} {ts : Array Value} {k : Nat} {vs : List Value} (keep : ∀ p ∈ news, p.1 ≠ D → p ∈ news') (hm : (D, W.listOf ts k) ∈ news) (N : News h₀ L h news)
    (hT : (T, ({ cls := .type "tuple", data := .seq vs.toArray } : Obj)) ∈ news) : (T, ({ cls := .type "tuple", data := .seq vs.toArray } : Obj)) ∈ news' :=
  keep _ hT (ne_of_cls N hT hm c_tl)
local macro_rules | `(tactic| walk_at "newTuple") => `(tactic| (k_here; k_dflt (refine' newtup_mem ?F ?N ?_ ?z; (case F => k_asm); (case N => k_asm); (case z => (rw [sizeLine_eq]; simp))); intro T' h' nw' F' N' hT' hsub'; have hI9 := SI.sub (by assumption) (fun p hp _ => hsub' p hp); obtain ⟨q1, ⟨_, _, _, _, q2⟩, ⟨_, _, q3, q3z⟩, ⟨_, _, _, q4, q4a, q4b, q4c, q4z⟩, ⟨_, _, q5, q5z⟩, ⟨_, q6, q6a, q6z⟩, qlo, qd1, qd2, qd3, qd4⟩ := id hI9))
local macro_rules | `(tactic| walk_at "getMethod ref") => `(tactic| (k_here; k_dflt (refine' getMethod_tupTab_get ?N ?T ?_; (case N => k_asm); (case T => assumption))))
local macro_rules | `(tactic| walk_at "call builtin:dict.get") => `(tactic| (k_here; (with_reducible show wpAny _ _ (PySem.call (Value.builtin "dict.get") [Value.ref _, Value.ref _, Value.int _ _]) _ _ _); k_dflt (refine' get_tup_int ?u ?N ?T ?ka ?tk ?S ?_; (case N => k_asm); (case T => assumption); (case ka => assumption); (case tk => exact TupKeyObj.made (.cons (intKind_is _ _ _ _) (.cons (intKind_is _ _ _ _) .nil))); (case S => assumption); (case u => ktr_units)); intro x9 t9))
local macro_rules | `(tactic| walk_at "call builtin:len") => `(tactic| (k_here; k_dflt (refine' len_list (News.isList ?N ?m) ?z ?_; (case N => k_asm); (case m => assumption); (case z => omega))))
local macro_rules | `(tactic| walk_at "setItem ref ref int") => `(tactic| (k_here; k_dflt (refine' setItem_tupTab PyProof.V.same_int ?u (PyProof.V.Flat.int _ _) ?F ?N ?T ?ka ?tk ?_ ?z; (case F => k_asm); (case N => k_asm); (case T => assumption); (case ka => assumption); (case tk => exact TupKeyObj.made (.cons (intKind_is _ _ _ _) (.cons (intKind_is _ _ _ _) .nil))); (case z => (rw [sizeLine_eq]; omega)); (case u => ktr_units)); intro h' nw' F' N' hT' hka' hkeep'; have hI9 := SI.put_df hkeep' hT' (by assumption) (by assumption) (by assumption) (by assumption)))
local macro_rules | `(tactic| walk_at "call builtin:list.append") => `(tactic| (k_here; (with_reducible show wpAny _ _ (PySem.call (Value.builtin _) [Value.ref _, _]) _ _ _); k_dflt (refine' app_mem ?F ?N ?m ?_ ?z; (case F => k_asm); (case N => k_asm); (case m => assumption); (case z => (rw [sizeLine_eq]; omega))); intro h' nw' F' N' hnew' hkeep'; have hT9 := keep_tup hkeep' (by assumption) (by assumption) (by assumption); have hI9 := SI.put_lf hkeep' hnew' (by assumption) (by assumption) (by assumption) (by assumption); obtain ⟨j1, ⟨_, _, _, _, j2⟩, ⟨_, _, j3, j3z⟩, ⟨_, _, _, j4, j4a, j4b, j4c, j4z⟩, ⟨_, _, j5, j5z⟩, ⟨_, j6, j6a, j6z⟩, jlo, jd1, jd2, jd3, jd4⟩ := id hI9))
theorem functor_spec (w : World) (mean : ExcName → Option Value) (mg mb : Str → Option Value) (S dS Lt Da Lf Df : Addr) (n : Nat) (news : Ledger) (I : SI w S dS Lt Da Lf Df n news) (hn : n ≤ 100000) (x y : Int) (t u : Tok) :
    Spec w mean mg mb 102 9 news [.ref S, .int x t, .int y u] (fun r news' => (∃ k t', r = .int k t') ∧ SI w S dS Lt Da Lf Df (n + 2) news' ∧ Kept [Lt, Da, Lf, Df] news news') := by
  w_top off; unfold Spec; k_fill
  obtain ⟨i1, ⟨_, _, _, _, i2⟩, ⟨_, _, i3, i3z⟩, ⟨_, _, _, i4, i4a, i4b, i4c, i4z⟩, ⟨_, _, i5, i5z⟩, ⟨_, i6, i6a, i6z⟩, ilo, id1, id2, id3, id4⟩ := id I
  intro dp un gd cn cs a ccd cl outer A₀ base h₀ L m s Q E B F KX N T hk hd1 hu1 hret
  refine wpAny_call ?_
  k_dflt cell_enter
  k_steps
  · exact hret _ _ _ _ (by k_asm) (by k_asm) ⟨⟨_, _, rfl⟩, SI.le (by assumption) (by omega), Kept.ofSub (by assumption)⟩
  · exact hret _ _ _ _ (by k_asm) (by k_asm) ⟨⟨_, _, rfl⟩, SI.le (by assumption) (by omega), Kept.trans (Kept.ofSub (by assumption)) (Kept.trans (Kept.of (by assumption) (by simp)) (Kept.of (by assumption) (by simp)))⟩
end
section
local macro_rules | `(tactic| walk_at "no step SymD 0") => `(tactic| fail)
local macro_rules | `(tactic| walk_at "no step SymD 1") => `(tactic| fail)
local macro_rules | `(tactic| walk_at "no step SymD 2") => `(tactic| fail)
local macro_rules | `(tactic| walk_at "no step SymD 3") => `(tactic| fail)
local macro_rules | `(tactic| walk_at "no step SymD 4") => `(tactic| fail)
local macro_rules | `(tactic| walk_at "no step SymD 5") => `(tactic| fail)
local macro_rules | `(tactic| walk_at "call ref") => `(tactic| (k_here; (with_reducible show wpAny _ _ (PySem.call (Value.ref 88) [_, _]) _ _ _); k_dflt (refine' atom_spec _ _ _ _ _ _ _ _ _ _ _ _ ?hI ?hn _ _ _ _ _ _ _ _ _ _ _ _ _ _ _ _ _ _ _ ?k1 ?k2 ?k3 ?k4 ?k5 ?kK ?kd ?ku ?_; (case k1 => k_asm); (case k2 => k_asm); (case k3 => k_asm); (case k4 => k_asm); (case k5 => k_asm); (case kK => first | exact rfl | assumption); (case hI => assumption); (case hn => omega); (case kd => ktr_room); (case ku => ktr_units)); intro r9 l9 h9 tk9 F9 N9 hp9; obtain ⟨⟨k9, t9, e9⟩, hI9, hK9⟩ := hp9; subst e9; obtain ⟨q1, ⟨_, _, _, _, q2⟩, ⟨_, _, q3, q3z⟩, ⟨_, _, _, q4, q4a, q4b, q4c, q4z⟩, ⟨_, _, q5, q5z⟩, ⟨_, q6, q6a, q6z⟩, qlo, qd1, qd2, qd3, qd4⟩ := id hI9; (try dsimp only); (try k_fold)))
local macro_rules | `(tactic| walk_at "call ref") => `(tactic| (k_here; (with_reducible show wpAny _ _ (PySem.call (Value.ref 102) [_, _, _]) _ _ _); k_dflt (refine' functor_spec _ _ _ _ _ _ _ _ _ _ _ _ ?hI ?hn _ _ _ _ _ _ _ _ _ _ _ _ _ _ _ _ _ _ _ _ _ ?k1 ?k2 ?k3 ?k4 ?k5 ?kK ?kd ?ku ?_; (case k1 => k_asm); (case k2 => k_asm); (case k3 => k_asm); (case k4 => k_asm); (case k5 => k_asm); (case kK => first | exact rfl | assumption); (case hI => assumption); (case hn => omega); (case kd => ktr_room); (case ku => ktr_units)); intro r9 l9 h9 tk9 F9 N9 hp9; obtain ⟨⟨k9, t9, e9⟩, hI9, hK9⟩ := hp9; subst e9; obtain ⟨q1, ⟨_, _, _, _, q2⟩, ⟨_, _, q3, q3z⟩, ⟨_, _, _, q4, q4a, q4b, q4c, q4z⟩, ⟨_, _, q5, q5z⟩, ⟨_, q6, q6a, q6z⟩, qlo, qd1, qd2, qd3, qd4⟩ := id hI9; (try dsimp only); (try k_fold)))
theorem func_spec (w : World) (mean : ExcName → Option Value) (mg mb : Str → Option Value) (S dS Lt Da Lf Df : Addr) (n : Nat) (news : Ledger) (I : SI w S dS Lt Da Lf Df n news) (hn : n ≤ 90000) (x : Str) (y : Int) (t u : Tok) :
    Spec w mean mg mb 109 12 news [.ref S, .str x t, .int y u] (fun r news' => (∃ k t', r = .int k t') ∧ SI w S dS Lt Da Lf Df (n + 4) news' ∧ Kept [Lt, Da, Lf, Df] news news') := by
  w_top off; unfold Spec; k_fill
  obtain ⟨i1, ⟨_, _, _, _, i2⟩, ⟨_, _, i3, i3z⟩, ⟨_, _, _, i4, i4a, i4b, i4c, i4z⟩, ⟨_, _, i5, i5z⟩, ⟨_, i6, i6a, i6z⟩, ilo, id1, id2, id3, id4⟩ := id I
  intro dp un gd cn cs a ccd cl outer A₀ base h₀ L m s Q E B F KX N T hk hd1 hu1 hret
  refine wpAny_call ?_
  k_dflt cell_enter
  k_steps
  all_goals exact hret _ _ _ _ (by k_asm) (by k_asm) ⟨⟨_, _, rfl⟩, SI.le (by assumption) (by omega), Kept.trans (by assumption) (by assumption)⟩
/-- what the second table's rows are -/
def Rows (items : Array Value) (news : Ledger) : Prop := ∀ v ∈ items.toList, ∃ T x t k u n, v = Value.ref T ∧ (T, ({ cls := .type "tuple", data := .seq #[.str x t, .int k u] n } : Obj)) ∈ news
theorem Rows.sub {items : Array Value} {news news' : Ledger} (h : Rows items news) (hk : ∀ p ∈ news, p.2.cls = .type "tuple" → p ∈ news') : Rows items news' := by
  intro v hv
  obtain ⟨T, x, t, k, u, n, e, hm⟩ := h v hv
  exact ⟨T, x, t, k, u, n, e, hk _ hm rfl⟩
def Strs (items : Array Value) : Prop := ∀ v ∈ items.toList, ∃ x t, v = Value.str x t
theorem atoms_spec (w : World) (mean : ExcName → Option Value) (mg mb : Str → Option Value) (news : Ledger) :
    Spec w mean mg mb 60 9 news [] (fun r news' => ∃ T items n, r = .ref T ∧ (T, ({ cls := .type "tuple", data := .seq items n } : Obj)) ∈ news' ∧ Strs items ∧ items.size = 29 ∧ ∀ p ∈ news, p ∈ news') := by
  w_top off; unfold Spec; k_fill
  intro dp un gd cn cs a ccd cl outer A₀ base h₀ L m s Q E B F KX N T hk hd1 hu1 hret
  refine wpAny_call ?_
  k_dflt cell_enter
  k_steps
  all_goals exact hret _ _ _ _ (by k_asm) (by k_asm) ⟨_, _, _, rfl, List.mem_cons_self, by
    unfold Strs
    simp only [List.forall_mem_cons]
    repeat' (first | exact ⟨⟨_, _, rfl⟩, List.forall_mem_nil _⟩ | refine ⟨⟨_, _, rfl⟩, ?_⟩), rfl, fun p hp => List.mem_cons_of_mem _ hp⟩
theorem functors_spec (w : World) (mean : ExcName → Option Value) (mg mb : Str → Option Value) (news : Ledger) :
    Spec w mean mg mb 67 9 news [] (fun r news' => ∃ T items n, r = .ref T ∧ (T, ({ cls := .type "tuple", data := .seq items n } : Obj)) ∈ news' ∧ Rows items news' ∧ items.size = 32 ∧ ∀ p ∈ news, p ∈ news') := by
  w_top off; unfold Spec; k_fill
  intro dp un gd cn cs a ccd cl outer A₀ base h₀ L m s Q E B F KX N T hk hd1 hu1 hret
  refine wpAny_call ?_
  k_dflt cell_enter
  k_steps
  all_goals exact hret _ _ _ _ (by k_asm) (by k_asm) ⟨_, _, _, rfl, List.mem_cons_self, by
    unfold Rows
    simp only [List.forall_mem_cons]
    repeat' (first | exact List.forall_mem_nil _ | refine ⟨⟨_, _, _, _, _, _, rfl, by k_mem⟩, ?_⟩), rfl, fun p hp => by
      repeat (first | exact List.mem_cons_of_mem _ hp | refine List.mem_cons_of_mem _ ?_)⟩
end
section
local macro_rules | `(tactic| walk_at "no step SymF 0") => `(tactic| fail)
local macro_rules | `(tactic| walk_at "no step SymF 1") => `(tactic| fail)
local macro_rules | `(tactic| walk_at "no step SymF 2") => `(tactic| fail)
local macro_rules | `(tactic| walk_at "no step SymF 3") => `(tactic| fail)
local macro_rules | `(tactic| walk_at "no step SymF 4") => `(tactic| fail)
local macro_rules | `(tactic| walk_at "no step SymF 5") => `(tactic| fail)
local macro_rules | `(tactic| walk_at "no step SymF 6") => `(tactic| fail)
section
variable {prog : Program} {w : World} {A : Around} {E : Value → Shared → Prop} {s : Shared} {env : Env} {h₀ : Heap} {x : Str} {body : List Stmt} {Q : Flow → Shared → Prop}
def TurnEnd (h₀ : Heap) (L : Addr) (own : Ledger) (I : Addr) (Jn : (Str → Option Value) → Ledger → Prop) (s₁ s₂ : Shared) : Prop :=
  ∃ h' tk m' nw, s₂ = { s₁ with heap := h', toks := tk } ∧ Fr h₀ L h' m' ∧ News h₀ L h' nw ∧ (∀ p ∈ own, p ∈ nw) ∧ Jn m' (nw.filter fun p => p.1 != I)
def TurnPost (h₀ : Heap) (L : Addr) (own : Ledger) (I : Addr) (Jn : (Str → Option Value) → Ledger → Prop) (s₁ : Shared) (Q : Flow → Shared → Prop) (f : Flow) (s₂ : Shared) : Prop :=
  match f with
  | .ret v => Q (.ret v) s₂
  | .brk => Q .next s₂
  | _ => TurnEnd h₀ L own I Jn s₁ s₂
theorem loop_inv {ax : Addr} {items : Array Value} {n : Nat} {m₀ : Str → Option Value} {news : Ledger} (J : Nat → (Str → Option Value) → Ledger → Prop)
    (hh : A.handled = none) (F : Fr h₀ env.locals s.heap m₀) (N : News h₀ env.locals s.heap news) (hm : (ax, ({ cls := .type "tuple", data := .seq items n } : Obj)) ∈ news) (j0 : J 0 m₀ news)
    (turn : ∀ i v m₁ news₁ h tk own I oI, i < items.size → items[i]? = some v → J i m₁ news₁ → (∀ p ∈ news₁, p.1 ≠ I) → (I, oI) ∈ own → oI.cls = .type "tuple_iterator" → (∀ p ∈ own, p.2.cls = .type "tuple_iterator" ∨ p.2.cls = .type "tuple") →
      Fr h₀ env.locals h (fun y => if y = x then some v else m₁ y) → News h₀ env.locals h (own ++ news₁) →
      wpAny (model prog w) A (execs body env) (TurnPost h₀ env.locals own I (J (i + 1)) { s with heap := h, toks := tk } Q) E { s with heap := h, toks := tk })
    (done : ∀ m₁ nw h tk, J items.size m₁ nw → Fr h₀ env.locals h m₁ → News h₀ env.locals h nw → Q .next { s with heap := h, toks := tk }) :
    wpAny (model prog w) A (pyIter (.ref ax)) (fun it s₂ => LoopAtV prog w A h₀ env x body Q E it s₂) E s := by
  have hax := N _ hm
  have hl : s.heap.IsTuple ax items := ⟨_, hax.1, rfl, n, rfl⟩
  have hlt : ax < s.heap.objs.size := Heap.lt_size hax.1
  have hne : ax ≠ s.heap.objs.size := Nat.ne_of_lt hlt
  refine wpAny_pyIter_tuple hl ?_
  have W := Walks.tuple (prog := prog) (w := w) hh s.heap.objs.size ax hne items
  refine ⟨_, _, _, items.size, _, _, m₀, news, J, rfl, W, ?_, ?_, ?_, ⟨⟨_, Heap.get?_push_size _ rfl, rfl, rfl⟩, hl.at fun o e => Heap.get?_push_of_some _ e⟩, F.push _, (fun p hp => ⟨Heap.get?_push_of_some _ (N p hp).1, (N p hp).2⟩), j0, ?_, ?_⟩
  · intro hI
    rcases List.mem_cons.mp hI with e | hI
    · exact absurd F.ns.lt (e ▸ Nat.lt_irrefl _)
    · exact hax.2.1 (List.mem_singleton.mp hI).symm
  · intro b hb
    rw [List.mem_singleton.mp hb]
    exact next_is_new F
  · intro p hp hI
    exact absurd (Heap.lt_size (N p hp).1) ((List.mem_singleton.mp hI) ▸ Nat.lt_irrefl _)
  · rintro i v m₁ news₁ s₁ own ⟨h₁, tk₁, rfl⟩ hin hP hJ hoff hown hget hall hst F₁ N₁
    obtain ⟨it, hit, hic, _⟩ := hst.1
    obtain ⟨ot, hot, hoc, _⟩ := hst.2
    have hIm : (s.heap.objs.size, it) ∈ own := hall _ (by simp) (next_is_new F) it hit
    refine wpAny_mono (turn i v m₁ news₁ h₁ tk₁ own s.heap.objs.size it hin hP hJ (fun p hp e => hoff p hp (by rw [e]; simp)) hIm hic (fun p hp => ?_) F₁ N₁) (fun f s₂ p => ?_) fun _ _ e => e
    · have g := hget p hp
      rcases List.mem_cons.mp (hown p hp) with e | e
      · rw [e] at g
        have : p.2 = it := Option.some.inj (g.symm.trans hit)
        exact .inl (by rw [this]; exact hic)
      · rw [List.mem_singleton.mp e] at g
        have : p.2 = ot := Option.some.inj (g.symm.trans hot)
        exact .inr (by rw [this]; exact hoc)
    · have fin : TurnEnd h₀ env.locals own s.heap.objs.size (J (i + 1)) { s with heap := h₁, toks := tk₁ } s₂ → LoopStepU h₀ env.locals [s.heap.objs.size] own (J (i + 1)) { s with heap := h₁, toks := tk₁ } .next s₂ := by
        rintro ⟨h', tk, m', nw, e, F', N', ho, hj⟩
        refine ⟨rfl, h', tk, m', _, e, F', fun p hp => N' p ((List.mem_append.mp hp).elim (ho p) fun q => (List.mem_filter.mp q).1), fun p hp hI => ?_, hj⟩
        have q := (List.mem_filter.mp hp).2
        rw [List.mem_singleton.mp hI] at q
        simp at q
      cases f with
      | ret v => exact .ret p
      | brk => exact .brk p
      | next => exact .next (fin p)
      | cont => exact .cont (fin p)
  · rintro h' tk m' news' F' N' _ hJ
    exact done m' news' h' tk hJ F' N'
end
theorem SI.off {w : World} {S dS Lt Da Lf Df : Addr} {n : Nat} {news : Ledger} {h₀ h : Heap} {L : Addr} (I : SI w S dS Lt Da Lf Df n news) (N : News h₀ L h news) {p : Addr × Obj} (hp : p ∈ news) (hc : p.2.cls = .type "tuple_iterator" ∨ p.2.cls = .type "tuple") :
    p.1 ∉ [Lt, Da, Lf, Df] := by
  obtain ⟨_, _, ⟨ts, k, i3, _⟩, ⟨o, kvs, D, i4, i4a, _⟩, ⟨fs, k2, i5, _⟩, _, _⟩ := id I
  obtain ⟨od, hod, hodc⟩ := I.dfm
  have a1 : p.2.cls ≠ .type "list" := by rcases hc with e | e <;> rw [e] <;> decide
  have a2 : p.2.cls ≠ .type "dict" := by rcases hc with e | e <;> rw [e] <;> decide
  simp only [List.mem_cons, List.not_mem_nil, or_false, not_or]
  exact ⟨ne_of_cls N hp i3 a1, ne_of_cls N hp i4 (by rw [dict_cls i4a]; exact a2), ne_of_cls N hp i5 a1, ne_of_cls N hp hod (by rw [hodc]; exact a2)⟩
theorem SI.filt {w : World} {S dS Lt Da Lf Df I : Addr} {oI : Obj} {n : Nat} {news : Ledger} {h₀ h : Heap} {L : Addr} (i : SI w S dS Lt Da Lf Df n news) (N : News h₀ L h news) (hI : (I, oI) ∈ news) (hc : oI.cls = .type "tuple_iterator") :
    SI w S dS Lt Da Lf Df n (news.filter fun p => p.1 != I) :=
  i.sub fun p hp hpc => List.mem_filter.mpr ⟨hp, by simpa using ne_of_cls N hp hI (by rw [hc]; exact hpc)⟩
theorem SI.start {w : World} {S dS Lt Da Lf Df : Addr} {oa od : Obj} {t1 t2 t3 t4 : Tok} {rest l9 : Ledger}
    (sub : ∀ p ∈ ((Df, od) :: (Lf, W.listOf #[] 0) :: (Da, oa) :: (Lt, W.listOf #[] 0) :: (S, instObj 154 dS) :: (dS, W.dictOf [{ hash := PyData.keyHash w.params (Str.ofString "texts"), key := .str (Str.ofString "texts") t1, val := .ref Lt },
      { hash := PyData.keyHash w.params (Str.ofString "atom_numbers"), key := .str (Str.ofString "atom_numbers") t2, val := .ref Da },
      { hash := PyData.keyHash w.params (Str.ofString "functors"), key := .str (Str.ofString "functors") t3, val := .ref Lf },
      { hash := PyData.keyHash w.params (Str.ofString "functor_numbers"), key := .str (Str.ofString "functor_numbers") t4, val := .ref Df }] 4) :: rest : Ledger), p ∈ l9)
    (ha : oa.IsDictOf (PySem.strKind Pg w) []) (fa : PyProof.V.FlatPairs PyData.str [] []) (hd : od.IsDictOf (PySem.strKind Pg w) []) (lo1 : (Da == sysModules) = false) (lo2 : (Df == sysModules) = false)
    (d1 : @Ne Nat Lt Lf) (d2 : @Ne Nat dS Da) (d3 : @Ne Nat dS Df) (d4 : @Ne Nat Da Df) : SI w S dS Lt Da Lf Df 0 l9 where
  inst := sub _ (by simp)
  dict := ⟨t1, t2, t3, t4, sub _ (by simp)⟩
  lt := ⟨_, _, sub (Lt, W.listOf #[] 0) (by simp), by simp⟩
  da := ⟨oa, [], [], sub _ (by simp), ha, fa, Shaped.nil, by simp⟩
  lf := ⟨_, _, sub (Lf, W.listOf #[] 0) (by simp), by simp⟩
  df := ⟨[], TupTab.ofEmpty (sub (Df, od) (by simp)) lo2 hd, Shaped.nil, by simp⟩
  lo := lo1
  d1 := d1
  d2 := d2
  d3 := d3
  d4 := d4
theorem offb {Lt Da Lf Df : Addr} {rest : Ledger} {a1 a2 b1 b2 b3 c1 c2 c3 c4 e1 e2 e3 e4 e5 : Prop} (h1 : a1 ∧ a2 ∧ AllLt Lt rest) (h2 : b1 ∧ b2 ∧ b3 ∧ AllLt Da rest) (h3 : c1 ∧ c2 ∧ c3 ∧ c4 ∧ AllLt Lf rest) (h4 : e1 ∧ e2 ∧ e3 ∧ e4 ∧ e5 ∧ AllLt Df rest) :
    ∀ p ∈ rest, p.1 ∉ [Lt, Da, Lf, Df] := by
  intro p hp
  simp only [List.mem_cons, List.not_mem_nil, or_false, not_or]
  exact ⟨Nat.ne_of_lt (ktn_ltOf h1.2.2 p hp), Nat.ne_of_lt (ktn_ltOf h2.2.2.2 p hp), Nat.ne_of_lt (ktn_ltOf h3.2.2.2.2 p hp), Nat.ne_of_lt (ktn_ltOf h4.2.2.2.2.2 p hp)⟩
theorem fr_self {h₀ h : Heap} {L : Addr} {x y : Str} {v V : Value} {m₁ : Str → Option Value} (hs : m₁ y = some V) (F : Fr h₀ L h (fun z => if z = x then some v else m₁ z)) : Fr h₀ L h (fun z => if z = x then some v else if z = y then some V else m₁ z) := by
  have e : (fun z => if z = x then some v else m₁ z) = fun z => if z = x then some v else if z = y then some V else m₁ z := by
    funext z
    by_cases h1 : z = x
    · simp [h1]
    · by_cases h2 : z = y
      · simp [h2, hs]
      · simp [h1, h2]
  rw [← e]; exact F
section
variable {w : World} {S dS Lt Da Lf Df I : Addr} {oI : Obj} {n n' : Nat} {base own news₁ nw : Ledger} {h₀ h h' : Heap} {L : Addr} {m' : Str → Option Value}
theorem turn_facts (Nt : News h₀ L h (own ++ news₁)) (hS : SI w S dS Lt Da Lf Df n (own ++ news₁)) (hb : ∀ p ∈ base, p ∈ news₁) (hoff : ∀ p ∈ base, p.1 ∉ [Lt, Da, Lf, Df]) (hne : ∀ p ∈ news₁, p.1 ≠ I)
    (hI : (I, oI) ∈ own) (hc : oI.cls = .type "tuple_iterator") (hcl : ∀ p ∈ own, p.2.cls = .type "tuple_iterator" ∨ p.2.cls = .type "tuple") (hS' : SI w S dS Lt Da Lf Df n' nw) (N' : News h₀ L h' nw) (hK : Kept [Lt, Da, Lf, Df] (own ++ news₁) nw) :
    (∀ p ∈ own, p ∈ nw) ∧ SI w S dS Lt Da Lf Df n' (nw.filter fun p => p.1 != I) ∧ (∀ p ∈ base, p ∈ nw.filter fun p => p.1 != I) ∧ (∀ p ∈ news₁, p.2.cls = .type "tuple" → p ∈ nw.filter fun p => p.1 != I) := by
  have ho : ∀ p ∈ own, p ∈ nw := fun p hp => hK p (List.mem_append_left _ hp) (hS.off Nt (List.mem_append_left _ hp) (hcl p hp))
  refine ⟨ho, hS'.filt N' (ho _ hI) hc, fun p hp => List.mem_filter.mpr ⟨hK p (List.mem_append_right _ (hb p hp)) (hoff p hp), by simpa using hne p (hb p hp)⟩,
    fun p hp hpc => List.mem_filter.mpr ⟨hK p (List.mem_append_right _ hp) (hS.off Nt (List.mem_append_right _ hp) (.inr hpc)), by simpa using hne p hp⟩⟩
end
local macro_rules | `(tactic| walk_at "call ref") => `(tactic| (k_here; (with_reducible show wpAny _ _ (PySem.call (Value.ref 88) [_, _]) _ _ _); k_dflt (refine' atom_spec _ _ _ _ _ _ _ _ _ _ _ _ ?hI ?hn _ _ _ _ _ _ _ _ _ _ _ _ _ _ _ _ _ _ _ ?k1 ?k2 ?k3 ?k4 ?k5 ?kK ?kd ?ku ?_; (case k1 => k_asm); (case k2 => k_asm); (case k3 => k_asm); (case k4 => k_asm); (case k5 => k_asm); (case kK => first | exact rfl | assumption); (case hI => assumption); (case hn => omega); (case kd => ktr_room); (case ku => (first | (simp only [units_under_make, units_deeper, units_in1]; omega) | ktr_units))); intro r9 l9 h9 tk9 F9 N9 hp9; obtain ⟨⟨k9, t9, e9⟩, hI9, hK9⟩ := hp9; subst e9; (try dsimp only); (try k_fold)))
local macro_rules | `(tactic| walk_at "call ref") => `(tactic| (k_here; (with_reducible show wpAny _ _ (PySem.call (Value.ref 109) [_, _, _]) _ _ _); k_dflt (refine' func_spec _ _ _ _ _ _ _ _ _ _ _ _ ?hI ?hn _ _ _ _ _ _ _ _ _ _ _ _ _ _ _ _ _ _ _ _ _ ?k1 ?k2 ?k3 ?k4 ?k5 ?kK ?kd ?ku ?_; (case k1 => k_asm); (case k2 => k_asm); (case k3 => k_asm); (case k4 => k_asm); (case k5 => k_asm); (case kK => first | exact rfl | assumption); (case hI => assumption); (case hn => omega); (case kd => ktr_room); (case ku => (first | (simp only [units_under_make, units_deeper, units_in1]; omega) | ktr_units))); intro r9 l9 h9 tk9 F9 N9 hp9; obtain ⟨⟨k9, t9, e9⟩, hI9, hK9⟩ := hp9; subst e9; (try dsimp only); (try k_fold)))
theorem sym_spec (w : World) (mean : ExcName → Option Value) (mg mb : Str → Option Value) (news : Ledger) :
    Spec w mean mg mb 154 20 news [] (fun r news' => (∃ a, r = .ref a) ∧ news' = news) := by
  w_top off; unfold Spec; k_fill
  intro dp un gd cn cs a ccd cl outer A₀ base h₀ L m s Q E B F KX N T hk hd1 hu1 hret
  k_dflt (refine' call_cls ?k1 ?k2 ?k3 ?k4 ?k5 ?k6 ?_)
  case k1 => k_asm
  case k2 => k_asm
  case k3 => k_asm
  case k4 => k_dflt k_is
  case k5 => k_dflt k_is
  case k6 => k_dflt k_is
  intro x' d' h' F' N' l1 l2
  (try k_lt l1); (try k_lt2 l2); (try k_sweep)
  k_dflt (refine' code_def ?k1 ?k2 ?k3 ?k4 ?k5 ?kA ?kF ?kK ?k6 ?k7 ?k8 ?k9 ?kB ?_ ?c2 ?c3 ?c4 ?c5; (case kA => exact rfl); (case kF => exact rfl); (case kK => first | exact rfl | assumption); (case k1 => k_asm); (case k2 => k_asm); (case k3 => k_asm); (case k4 => k_asm); (case k5 => k_asm); (case k6 => k_is); (case k7 => k_is); (case k8 => ktr_room); (case k9 => exact BindsTo.of_eq rfl); (case c5 => decide); (case kB => exact locs rfl); (case c2 => exact rfl); (case c3 => exact rfl); (case c4 => exact rfl); k_whole; intro g' L' h' FG' F' N' B' X' T'; (try dsimp only); (try k_lift B'); (try k_fold))
  k_steps
  k_dflt (refine' atoms_spec _ _ _ _ _ _ _ _ _ _ _ _ _ _ _ _ _ _ _ _ _ _ ?k1 ?k2 ?k3 ?k4 ?k5 ?kK ?kd ?ku ?_)
  case k1 => k_asm
  case k2 => k_asm
  case k3 => k_asm
  case k4 => k_asm
  case k5 => k_asm
  case kK => first | exact rfl | assumption
  case kd => ktr_room
  case ku => (simp only [units_under_make, units_deeper, units_in1]; omega)
  intro r9 l9 h9 tk9 F9 N9 hp9
  obtain ⟨T9, its9, n9, e9, hT9, hS9, hz9, hs9⟩ := hp9
  subst e9
  (try dsimp only); (try k_fold)
  obtain ⟨Lt, Da, Lf, Df, hI9, hoff⟩ : ∃ Lt Da Lf Df, SI w x' d' Lt Da Lf Df 0 l9 ∧ ∀ p ∈ news, p.1 ∉ [Lt, Da, Lf, Df] :=
    ⟨_, _, _, _, SI.start hs9 (by assumption) (by assumption) (by assumption) (by assumption) (by assumption) (by omega) (by omega) (by omega) (by omega), offb (by assumption) (by assumption) (by assumption) (by assumption)⟩
  have hb9 : ∀ p ∈ news, p ∈ l9 := fun p hp => hs9 p (by simp [hp])
  clear hs9
  refine loop_inv (fun i m nx => m (Str.ofString "self") = some (.ref x') ∧ SI w x' d' Lt Da Lf Df (2 * i) nx ∧ ∀ p ∈ news, p ∈ nx) rfl F9 N9 hT9 ⟨by first | rfl | with_unfolding_all rfl, hI9, hb9⟩ ?turn ?done
  case turn =>
    intro i v m₁ news₁ h tk own I oI hi hv hJ hne hI hc hcl Ft Nt
    obtain ⟨hself, hSI, hb⟩ := hJ
    obtain ⟨x, t, rfl⟩ := hS9 v (by rw [Array.mem_toList_iff]; exact Array.mem_of_getElem? hv)
    have hS2 : SI w x' d' Lt Da Lf Df (2 * i) (own ++ news₁) := hSI.sub fun p hp _ => List.mem_append_right _ hp
    have Ft' := fr_self hself Ft
    clear Ft
    obtain ⟨q1, ⟨_, _, _, _, q2⟩, ⟨_, _, q3, q3z⟩, ⟨_, _, _, q4, q4a, q4b, q4c, q4z⟩, ⟨_, _, q5, q5z⟩, ⟨_, q6, q6a, q6z⟩, qlo, qd1, qd2, qd3, qd4⟩ := id hS2
    rw [hz9] at hi
    clear F9 N9
    k_steps
    obtain ⟨e1, e2, e3, _⟩ := turn_facts Nt hS2 hb hoff hne hI hc hcl (by assumption) (by assumption) (by assumption)
    exact ⟨_, _, _, _, rfl, by k_asm, by k_asm, e1, by first | rfl | simp, e2.le (by omega), e3⟩
  case done =>
    intro m₁ l2 h2 tk2 hJ F2 N2
    obtain ⟨hself, hSI, hb⟩ := hJ
    rw [hz9] at hSI
    clear F9 N9 hT9 hI9 hb9
    k_steps
    k_dflt (refine' functors_spec _ _ _ _ _ _ _ _ _ _ _ _ _ _ _ _ _ _ _ _ _ _ ?k1 ?k2 ?k3 ?k4 ?k5 ?kK ?kd ?ku ?_)
    case k1 => k_asm
    case k2 => k_asm
    case k3 => k_asm
    case k4 => k_asm
    case k5 => k_asm
    case kK => first | exact rfl | assumption
    case kd => ktr_room
    case ku => (simp only [units_under_make, units_deeper, units_in1]; omega)
    intro r8 l8 h8 tk8 F8 N8 hp8
    obtain ⟨T8, its8, n8, e8, hT8, hS8, hz8, hs8⟩ := hp8
    subst e8
    (try dsimp only); (try k_fold)
    refine loop_inv (fun i m nx => m (Str.ofString "self") = some (.ref x') ∧ SI w x' d' Lt Da Lf Df (58 + 4 * i) nx ∧ (∀ p ∈ news, p ∈ nx) ∧ Rows its8 nx) rfl F8 N8 hT8 ⟨hself, (hSI.sub fun p hp _ => hs8 p hp).le (by omega), fun p hp => hs8 p (hb p hp), hS8⟩ ?turn2 ?done2
    case turn2 =>
      intro i v m₁ news₁ h tk own I oI hi hv hJ hne hI hc hcl Ft Nt
      obtain ⟨hself, hSI, hb, hR⟩ := hJ
      obtain ⟨Tr, x, t, kr, ur, nr, rfl, hrow⟩ := hR v (by rw [Array.mem_toList_iff]; exact Array.mem_of_getElem? hv)
      have hrow2 := List.mem_append_right own hrow
      have hS2 : SI w x' d' Lt Da Lf Df (58 + 4 * i) (own ++ news₁) := hSI.sub fun p hp _ => List.mem_append_right _ hp
      have Ft' := fr_self hself Ft
      clear Ft
      obtain ⟨q1, ⟨_, _, _, _, q2⟩, ⟨_, _, q3, q3z⟩, ⟨_, _, _, q4, q4a, q4b, q4c, q4z⟩, ⟨_, _, q5, q5z⟩, ⟨_, q6, q6a, q6z⟩, qlo, qd1, qd2, qd3, qd4⟩ := id hS2
      rw [hz8] at hi
      clear F8 N8
      k_steps
      obtain ⟨e1, e2, e3, e4⟩ := turn_facts Nt hS2 hb hoff hne hI hc hcl (by assumption) (by assumption) (by assumption)
      exact ⟨_, _, _, _, rfl, by k_asm, by k_asm, e1, by first | rfl | simp, e2.le (by omega), e3, hR.sub e4⟩
    case done2 =>
      intro m₁ l7 h7 tk7 hJ F7 N7
      obtain ⟨_, _, hb7, _⟩ := hJ
      clear F8 N8
      k_steps
      all_goals exact hret _ _ _ _ (by k_asm) (cb_drop (by assumption) hb7) ⟨⟨_, rfl⟩, rfl⟩
end
section
theorem off1 {c P X : Addr} {o : Obj} (h1 : @Ne Nat c P) (h2 : @Ne Nat c X) : OwnOff [(c, o)] [P, X] := by
  intro p hp b hb
  rw [List.mem_singleton.mp hp]
  rcases List.mem_cons.mp hb with rfl | hb
  · exact h1
  · rw [List.mem_singleton.mp hb]; exact h2
section
variable {prog : Program} {w : World} {A : Around} {E : Value → Shared → Prop} {s : Shared} {Q : Value → Shared → Prop} {a b : Int} {t u : Tok}
theorem ne_same (e : a = b) (h : Q (.bool false) s) : wpAny (model prog w) A (compareOp .NotEq (.int a t) (.int b u)) Q E s :=
  ne_int (by have q : (a != b) = false := by rw [e]; simp
             rw [q]; exact h)
theorem eq_same (e : a = b) (h : Q (.bool true) s) : wpAny (model prog w) A (compareOp .Eq (.int a t) (.int b u)) Q E s :=
  eq_int (by have q : (a == b) = true := by rw [e]; simp
             rw [q]; exact h)
end
theorem turned_or (x y : Int) : Builtin.bitOr ((List.map (fun z => -z - 1) [x, y, Builtin.bitAnd x y]).getD (Int.toNat 0) 0) ((List.map (fun z => -z - 1) [x, y, Builtin.bitAnd x y]).getD (Int.toNat 1) 0) =
    (List.map (fun z => -z - 1) [x, y, Builtin.bitAnd x y]).getD (Int.toNat 2) 0 := or_not x y
theorem turned_xor (x y z : Int) : Builtin.bitXor x (-1) = (List.map (fun z => -z - 1) [x, y, z]).getD (Int.toNat 0) 0 := xor_m1 x
theorem last_eq (x k : Int) : Builtin.bitAnd (shr x k) 1 = (x.fdiv (2 ^ k.toNat)).fmod 2 := by
  unfold shr
  rw [fm2, Int.fdiv_eq_ediv_of_nonneg _ (Int.le_of_lt (kbt_pos k.toNat)), bitAnd_m1]
local macro_rules | `(tactic| walk_at "call ref") => `(tactic| (k_here; (with_reducible show wpAny _ _ (PySem.call (Value.ref 154) _ _) _ _ _); k_dflt (refine' sym_spec _ _ _ _ _ _ _ _ _ _ _ _ _ _ _ _ _ _ _ _ _ _ ?k1 ?k2 ?k3 ?k4 ?k5 ?kK ?kd ?ku ?_; (case k1 => k_asm); (case k2 => k_asm); (case k3 => k_asm); (case k4 => k_asm); (case k5 => k_asm); (case kK => first | exact rfl | assumption); (case kd => ktr_room); (case ku => ktr_units)); intro r9 l9 h9 tk9 F9 N9 hp9; obtain ⟨⟨t9, e9⟩, el9⟩ := hp9; subst e9; subst el9; (try dsimp only); (try k_fold)))
local macro_rules | `(tactic| walk_at "call ref") => `(tactic| (k_here; (with_reducible show wpAny _ _ (PySem.call (Value.ref 221) [_, _, _]) _ _ _); k_dflt (refine' un_not _ _ _ _ _ _ _ _ _ _ _ _ _ _ _ _ _ _ _ _ _ _ _ _ _ _ ?k1 ?k2 ?k3 ?k4 ?k5 ?kK ?kd ?ku ?_; (case k1 => k_asm); (case k2 => k_asm); (case k3 => k_asm); (case k4 => k_asm); (case k5 => k_asm); (case kK => first | exact rfl | assumption); (case kd => ktr_room); (case ku => ktr_units)); intro r9 l9 h9 tk9 F9 N9 hp9; obtain ⟨⟨t9, e9⟩, el9⟩ := hp9; subst e9; subst el9; (try dsimp only); (try k_fold)))
local macro_rules | `(tactic| walk_at "call ref") => `(tactic| (k_here; (with_reducible show wpAny _ _ (PySem.call (Value.ref 263) [_, Value.str (PySem.Str.ofString "/\\") _, _, _]) _ _ _); k_dflt (refine' of_and _ _ _ _ _ _ _ _ _ _ _ _ _ _ _ _ _ _ _ _ _ _ _ _ _ _ _ _ ?k1 ?k2 ?k3 ?k4 ?k5 ?kK ?kd ?ku ?_; (case k1 => k_asm); (case k2 => k_asm); (case k3 => k_asm); (case k4 => k_asm); (case k5 => k_asm); (case kK => first | exact rfl | assumption); (case kd => ktr_room); (case ku => ktr_units)); intro r9 l9 h9 tk9 F9 N9 hp9; obtain ⟨⟨t9, e9⟩, el9⟩ := hp9; subst e9; subst el9; (try dsimp only); (try k_fold)))
local macro_rules | `(tactic| walk_at "call ref") => `(tactic| (k_here; (with_reducible show wpAny _ _ (PySem.call (Value.ref 263) [_, Value.str (PySem.Str.ofString "\\/") _, _, _]) _ _ _); k_dflt (refine' of_or _ _ _ _ _ _ _ _ _ _ _ _ _ _ _ _ _ _ _ _ _ _ _ _ _ _ _ _ ?k1 ?k2 ?k3 ?k4 ?k5 ?kK ?kd ?ku ?_; (case k1 => k_asm); (case k2 => k_asm); (case k3 => k_asm); (case k4 => k_asm); (case k5 => k_asm); (case kK => first | exact rfl | assumption); (case kd => ktr_room); (case ku => ktr_units)); intro r9 l9 h9 tk9 F9 N9 hp9; obtain ⟨⟨t9, e9⟩, el9⟩ := hp9; subst e9; subst el9; (try dsimp only); (try k_fold)))
local macro_rules | `(tactic| walk_at "call ref") => `(tactic| (k_here; (with_reducible show wpAny _ _ (PySem.call (Value.ref 263) [_, Value.str (PySem.Str.ofString "xor") _, _, _]) _ _ _); k_dflt (refine' of_xor _ _ _ _ _ _ _ _ _ _ _ _ _ _ _ _ _ _ _ _ _ _ _ _ _ _ _ _ ?k1 ?k2 ?k3 ?k4 ?k5 ?kK ?kd ?ku ?_; (case k1 => k_asm); (case k2 => k_asm); (case k3 => k_asm); (case k4 => k_asm); (case k5 => k_asm); (case kK => first | exact rfl | assumption); (case kd => ktr_room); (case ku => ktr_units)); intro r9 l9 h9 tk9 F9 N9 hp9; obtain ⟨⟨t9, e9⟩, el9⟩ := hp9; subst e9; subst el9; (try dsimp only); (try k_fold)))
local macro_rules | `(tactic| walk_at "call ref") => `(tactic| (k_here; (with_reducible show wpAny _ _ (PySem.call (Value.ref 263) [_, Value.str (PySem.Str.ofString "<<") _, _, _]) _ _ _); k_dflt (refine' of_shl _ _ _ _ _ _ _ _ _ _ _ ?s0 ?s1 ?s2 _ _ _ _ _ _ _ _ _ _ _ _ _ _ _ _ _ ?k1 ?k2 ?k3 ?k4 ?k5 ?kK ?kd ?ku ?_; (case k1 => k_asm); (case k2 => k_asm); (case k3 => k_asm); (case k4 => k_asm); (case k5 => k_asm); (case kK => first | exact rfl | assumption); (case s0 => omega); (case s1 => omega); (case s2 => exact Sz.bits (by with_reducible first | assumption | exact Sz.and (by assumption) (by assumption) | exact Sz.or (by assumption) (by assumption) | exact Sz.xor (by assumption) (by assumption))); (case kd => ktr_room); (case ku => ktr_units)); intro r9 l9 h9 tk9 F9 N9 hp9; obtain ⟨⟨t9, e9⟩, el9⟩ := hp9; subst e9; subst el9; (try dsimp only); (try k_fold)))
local macro_rules | `(tactic| walk_at "call ref") => `(tactic| (k_here; (with_reducible show wpAny _ _ (PySem.call (Value.ref 263) [_, Value.str (PySem.Str.ofString ">>") _, _, _]) _ _ _); k_dflt (refine' of_shr _ _ _ _ _ _ _ _ _ _ _ ?s0 ?s1 ?s2 _ _ _ _ _ _ _ _ _ _ _ _ _ _ _ _ _ ?k1 ?k2 ?k3 ?k4 ?k5 ?kK ?kd ?ku ?_; (case k1 => k_asm); (case k2 => k_asm); (case k3 => k_asm); (case k4 => k_asm); (case k5 => k_asm); (case kK => first | exact rfl | assumption); (case s0 => omega); (case s1 => omega); (case s2 => exact Sz.bits (by with_reducible first | assumption | exact Sz.and (by assumption) (by assumption) | exact Sz.or (by assumption) (by assumption) | exact Sz.xor (by assumption) (by assumption))); (case kd => ktr_room); (case ku => ktr_units)); intro r9 l9 h9 tk9 F9 N9 hp9; obtain ⟨⟨t9, e9⟩, el9⟩ := hp9; subst e9; subst el9; (try dsimp only); (try k_fold)))
local macro_rules | `(tactic| walk_at "call ref") => `(tactic| (k_here; (with_reducible show wpAny _ _ (PySem.call (Value.ref 256) [Value.str (PySem.Str.ofString "/\\") _, _, _]) _ _ _); k_dflt (refine' read_and _ _ _ _ _ _ _ _ _ _ ?s0 ?s1 _ _ _ _ _ _ _ _ _ _ _ _ _ _ _ _ _ ?k1 ?k2 ?k3 ?k4 ?k5 ?kK ?kd ?ku ?_; (case k1 => k_asm); (case k2 => k_asm); (case k3 => k_asm); (case k4 => k_asm); (case k5 => k_asm); (case kK => first | exact rfl | assumption); (case s0 => assumption); (case s1 => assumption); (case kd => ktr_room); (case ku => ktr_units)); intro r9 l9 h9 tk9 F9 N9 hp9; obtain ⟨⟨t9, e9⟩, el9⟩ := hp9; subst e9; subst el9; (try dsimp only); (try k_fold)))
local macro_rules | `(tactic| walk_at "call ref") => `(tactic| (k_here; (with_reducible show wpAny _ _ (PySem.call (Value.ref 256) [Value.str (PySem.Str.ofString "\\/") _, _, _]) _ _ _); k_dflt (refine' read_or _ _ _ _ _ _ _ _ _ _ ?s0 ?s1 _ _ _ _ _ _ _ _ _ _ _ _ _ _ _ _ _ ?k1 ?k2 ?k3 ?k4 ?k5 ?kK ?kd ?ku ?_; (case k1 => k_asm); (case k2 => k_asm); (case k3 => k_asm); (case k4 => k_asm); (case k5 => k_asm); (case kK => first | exact rfl | assumption); (case s0 => assumption); (case s1 => assumption); (case kd => ktr_room); (case ku => ktr_units)); intro r9 l9 h9 tk9 F9 N9 hp9; obtain ⟨⟨t9, e9⟩, el9⟩ := hp9; subst e9; subst el9; (try dsimp only); (try k_fold)))
local macro_rules | `(tactic| walk_at "call ref") => `(tactic| (k_here; (with_reducible show wpAny _ _ (PySem.call (Value.ref 256) [Value.str (PySem.Str.ofString "xor") _, _, _]) _ _ _); k_dflt (refine' read_xor _ _ _ _ _ _ _ _ _ _ ?s0 ?s1 _ _ _ _ _ _ _ _ _ _ _ _ _ _ _ _ _ ?k1 ?k2 ?k3 ?k4 ?k5 ?kK ?kd ?ku ?_; (case k1 => k_asm); (case k2 => k_asm); (case k3 => k_asm); (case k4 => k_asm); (case k5 => k_asm); (case kK => first | exact rfl | assumption); (case s0 => assumption); (case s1 => assumption); (case kd => ktr_room); (case ku => ktr_units)); intro r9 l9 h9 tk9 F9 N9 hp9; obtain ⟨⟨t9, e9⟩, el9⟩ := hp9; subst e9; subst el9; (try dsimp only); (try k_fold)))
local macro_rules | `(tactic| walk_at "call ref") => `(tactic| (k_here; (with_reducible show wpAny _ _ (PySem.call (Value.ref 235) [_, _]) _ _ _); k_dflt (refine' draw_spec _ _ _ _ _ _ _ _ _ ?hI ?hlen ?hPX ?hoff _ _ _ _ _ _ _ ?hd ?hi ?hc _ _ ?hl ?hl2 _ _ _ _ _ _ _ _ _ _ _ _ _ _ _ _ _ ?k1 ?k2 ?k3 ?k4 ?k5 ?kK ?kd ?ku ?_; (case k1 => k_asm); (case k2 => k_asm); (case k3 => k_asm); (case k4 => k_asm); (case k5 => k_asm); (case kK => first | exact rfl | assumption); (case hI => assumption); (case hlen => first | assumption | exact List.length_take_le _ _); (case hPX => omega); (case hoff => first | assumption | exact off1 (by omega) (by omega)); (case hd => omega); (case hi => omega); (case hc => omega); (case hl => first | omega | decide); (case hl2 => first | omega | decide); (case kd => ktr_room); (case ku => ktr_units)); intro r9 l9 h9 tk9 F9 N9 hp9; obtain ⟨v9, t9, d9, i9, c9, u19, u29, u39, k9, e9, hv9, hd9, hi9, hc9, el9⟩ := hp9; subst e9; subst el9; dsimp only [poolL] at N9; (try dsimp only); (try k_fold)))
local macro_rules | `(tactic| walk_at "call ref") => `(tactic| (k_here; (with_reducible show wpAny _ _ (PySem.call (Value.ref 242) [_]) _ _ _); k_dflt (refine' whole_spec _ _ _ _ _ _ _ _ _ ?hI ?hlen ?hPX ?hoff _ _ _ _ _ _ _ ?hd ?hi ?hc _ _ _ _ _ _ _ _ _ _ _ _ _ _ _ _ _ ?k1 ?k2 ?k3 ?k4 ?k5 ?kK ?kd ?ku ?_; (case k1 => k_asm); (case k2 => k_asm); (case k3 => k_asm); (case k4 => k_asm); (case k5 => k_asm); (case kK => first | exact rfl | assumption); (case hI => assumption); (case hlen => first | assumption | exact List.length_take_le _ _); (case hPX => omega); (case hoff => first | assumption | exact off1 (by omega) (by omega)); (case hd => omega); (case hi => omega); (case hc => omega); (case kd => ktr_room); (case ku => ktr_units)); intro r9 l9 h9 tk9 F9 N9 hp9; obtain ⟨v9, t9, d9, i9, c9, u19, u29, u39, k9, e9, hv9, hd9, hi9, hc9, el9⟩ := hp9; subst e9; subst el9; dsimp only [poolL] at N9; (try dsimp only); (try k_fold)))
local macro_rules | `(tactic| walk_at "compareOp NotEq int int") => `(tactic| (k_here; refine ne_same ?ne ?_; (case ne => with_reducible (first
  | rfl | exact bitAnd_comm _ _ | exact bitOr_comm _ _ | exact xor_comm' _ _ | exact and_assoc' _ _ _ | exact or_assoc' _ _ _ | exact xor_assoc' _ _ _
  | exact and_shl' _ _ _ | exact or_shl' _ _ _ | exact xor_shl' _ _ _ | exact and_shr' _ _ _ | exact or_shr' _ _ _ | exact xor_shr' _ _ _
  | exact and_absorb _ _ | exact or_absorb _ _ | exact and_or_dist _ _ _ | exact and_xor_dist _ _ _ | exact xor_undo _ _ | exact or_not _ _ | exact turned_or _ _ | exact turned_xor _ _ _))))
local macro_rules | `(tactic| walk_at "compareOp Eq int int") => `(tactic| (k_here; refine eq_same (last_eq _ _) ?_))
local macro_rules | `(tactic| walk_at "exec Assign cons ListComp") => `(tactic| (k_here; k_dflt (refine LCg.Assign_ListComp_U (F₀ := by k_asm) (by rfl) (by with_unfolding_all rfl) (by with_unfolding_all rfl) (by decide) (by rfl) (by decide) (by rfl) (by rfl) (by rfl) ?_)))
local macro_rules | `(tactic| walk_at "CompSrc") => `(tactic| (k_here; k_dflt (refine LCg.CompSrc.ledger (by rfl) (by k_asm) (by k_asm) (by k_mem) (by size_fits) ?_; intro g'; refine' kcf_list (fun z => -z - 1) (.cons _ _ (.cons _ _ (.cons _ _ .nil))) (fun k' t' I' oI' C' oC' D' m' ys' h' tk' E' hk' hC' hx' F' N' off' ne' hMark' => ?_) ?_); (all_goals (try (simp only [LCg.Off3, and_true] at off')))))
theorem law_of (left : LeftO PySem.Challenge.pw_rh0069_01 vw [] (fun s => xlAt vw [] s && recOk (RowW.records PySem.Challenge.rw_rh0069_01.row.toRowW) s) (Hook.obs (kHook kk kAs kE)) (Hook.val (kHook kk kAs kE)) 3378) : PySem.Challenge.rw_rh0069_01.Holds := by
  w_on; o_law
  refine holds_open (q := vw) (loose := []) (Xt := fun s => xlAt vw [] s && recOk (RowW.records PySem.Challenge.rw_rh0069_01.row.toRowW) s) (XP := XL vw []) (Yf := Hook.obs (kHook kk kAs kE)) (Ya := Hook.val (kHook kk kAs kE)) (YP := Hook.says (kHook kk kAs kE)) (N := 3378) left (Hook.of (kHook kk kAs kE)) (Hook.keeps (kHook kk kAs kE)) (fun s e => xl_of s (Bool.and_eq_true_iff.mp e).1) XL.keeps (by rfl) (by rfl) (by rfl) (fun s e => recFacts_of (Bool.and_eq_true_iff.mp e).2) (by rfl) (by first | assumption | decide +kernel) (by decide +kernel) ⟨rfl, rfl, rfl, rfl, rfl, by decide +kernel⟩ ?hw ?hc
  case hw => w_witness2
  case hc =>
    rename_i said; clear said left
    w_top off
    k_go0; (all_goals try k_fold); k_steps
    all_goals w_report
theorem law_holds : PySem.Challenge.rw_rh0069_01.Holds := law_of left
end
end Mine
theorem PySem.Challenge.cw_rh0069_01_holds : PySem.Challenge.rw_rh0069_01.Holds :=
  Mine.law_holds
