import PyProof.Rows.All
import Wide.All
import OpenK.AllK
import Wide.FinOn
import PySem.Challenge.RW_xm0164_01
set_option Elab.async false
set_option maxRecDepth 100000
namespace Mine
/- part K0 -/
section
open PySem PySem.W PyProof.Rows
abbrev PR : Program := PySem.Challenge.pw_xm0164_01
def fdOf : Stmt → Arguments × List Stmt × Scope
  | .FunctionDef _ a b _ _ _ s _ _ _ => (a, b, s)
  | .ClassDef _ _ _ (.FunctionDef _ a b _ _ _ s _ _ _ :: _) _ _ _ _ _ _ _ => (a, b, s)
  | _ => (default, [], default)
def stAt : List Stmt → Nat → Stmt
  | [], _ => .Pass default
  | x :: _, 0 => x
  | _ :: r, n + 1 => stAt r n
noncomputable def fdAt (n : Nat) : Arguments × List Stmt × Scope := fdOf (stAt PR.main.body n)
noncomputable def KK : Params → Frag :=
  fun P =>
  (nat_lit 2,
      { cls := Value.none,
        data :=
          Data.dict
            #[{ hash := PyData.keyHash P (Str.ofString "type.__subclasses__.Exception.0"),
                key := Value.str (Str.ofString "type.__subclasses__.Exception.0") 217, val := Value.int 32 0 },
              { hash := PyData.keyHash P (Str.ofString "type.__subclasses__.Exception.n"),
                key := Value.str (Str.ofString "type.__subclasses__.Exception.n") 218, val := Value.int 1 0 }]
            2 }) ::
    (nat_lit 3,
      { cls := Value.type "dict",
        data :=
          Data.dict
            #[{ hash := PyData.keyHash P (Str.ofString "__name__"), key := Value.str (Str.ofString "__name__") 165,
                val := Value.str (Str.ofString "law_xm0164_01") 331 },
              { hash := PyData.keyHash P (Str.ofString "__doc__"), key := Value.str (Str.ofString "__doc__") 166,
                val := Value.none },
              { hash := PyData.keyHash P (Str.ofString "__package__"),
                key := Value.str (Str.ofString "__package__") 167, val := Value.none },
              { hash := PyData.keyHash P (Str.ofString "__loader__"), key := Value.str (Str.ofString "__loader__") 168,
                val := Value.builtin "__main__.__loader__#opaque" },
              { hash := PyData.keyHash P (Str.ofString "__spec__"), key := Value.str (Str.ofString "__spec__") 169,
                val := Value.none },
              { hash := PyData.keyHash P (Str.ofString "__annotations__"),
                key := Value.str (Str.ofString "__annotations__") 170, val := Value.ref 6 },
              { hash := PyData.keyHash P (Str.ofString "__builtins__"),
                key := Value.str (Str.ofString "__builtins__") 171, val := Value.ref 4 },
              { hash := PyData.keyHash P (Str.ofString "__file__"), key := Value.str (Str.ofString "__file__") 173,
                val := Value.str (Str.ofString "/claim/cut.py") 172 },
              { hash := PyData.keyHash P (Str.ofString "__cached__"), key := Value.str (Str.ofString "__cached__") 174,
                val := Value.none },
              { hash := PyData.keyHash P (Str.ofString "ChanError"), key := Value.str (Str.ofString "ChanError") 220,
                val := Value.ref 32 },
              { hash := PyData.keyHash P (Str.ofString "GrammarFault"),
                key := Value.str (Str.ofString "GrammarFault") 236, val := Value.ref 45 },
              { hash := PyData.keyHash P (Str.ofString "TypeFault"), key := Value.str (Str.ofString "TypeFault") 252,
                val := Value.ref 57 },
              { hash := PyData.keyHash P (Str.ofString "TYPE_WORDS"), key := Value.str (Str.ofString "TYPE_WORDS") 258,
                val := Value.ref 60 },
              { hash := PyData.keyHash P (Str.ofString "OPENING_SIGNS"),
                key := Value.str (Str.ofString "OPENING_SIGNS") 264, val := Value.ref 61 },
              { hash := PyData.keyHash P (Str.ofString "CLOSING_SIGNS"),
                key := Value.str (Str.ofString "CLOSING_SIGNS") 268, val := Value.ref 62 },
              { hash := PyData.keyHash P (Str.ofString "OPERAND_KINDS"),
                key := Value.str (Str.ofString "OPERAND_KINDS") 273, val := Value.ref 63 },
              { hash := PyData.keyHash P (Str.ofString "check_words"),
                key := Value.str (Str.ofString "check_words") 286, val := Value.ref 70 },
              { hash := PyData.keyHash P (Str.ofString "signs_ahead"),
                key := Value.str (Str.ofString "signs_ahead") 297, val := Value.ref 77 },
              { hash := PyData.keyHash P (Str.ofString "ends_operand"),
                key := Value.str (Str.ofString "ends_operand") 304, val := Value.ref 84 },
              { hash := PyData.keyHash P (Str.ofString "starts_node"),
                key := Value.str (Str.ofString "starts_node") 311, val := Value.ref 91 },
              { hash := PyData.keyHash P (Str.ofString "levels_of"), key := Value.str (Str.ofString "levels_of") 317,
                val := Value.ref 96 },
              { hash := PyData.keyHash P (Str.ofString "is_typed"), key := Value.str (Str.ofString "is_typed") 324,
                val := Value.ref 103 },
              { hash := PyData.keyHash P (Str.ofString "check_typed"),
                key := Value.str (Str.ofString "check_typed") 330, val := Value.ref 108 },
              { hash := PyData.keyHash P (Str.ofString "_law_pool"), key := Value.str (Str.ofString "_law_pool") 341,
                val := Value.ref 115 },
              { hash := PyData.keyHash P (Str.ofString "_law_take"), key := Value.str (Str.ofString "_law_take") 350,
                val := Value.ref 122 },
              { hash := PyData.keyHash P (Str.ofString "_law_one"), key := Value.str (Str.ofString "_law_one") 358,
                val := Value.ref 129 },
              { hash := PyData.keyHash P (Str.ofString "_law_word"), key := Value.str (Str.ofString "_law_word") 369,
                val := Value.ref 136 },
              { hash := PyData.keyHash P (Str.ofString "_law_is_operand"),
                key := Value.str (Str.ofString "_law_is_operand") 376, val := Value.ref 143 },
              { hash := PyData.keyHash P (Str.ofString "_law_waiting"),
                key := Value.str (Str.ofString "_law_waiting") 387, val := Value.ref 150 },
              { hash := PyData.keyHash P (Str.ofString "_law_due"), key := Value.str (Str.ofString "_law_due") 399,
                val := Value.ref 157 },
              { hash := PyData.keyHash P (Str.ofString "_law_told"), key := Value.str (Str.ofString "_law_told") 409,
                val := Value.ref 164 },
              { hash := PyData.keyHash P (Str.ofString "_law_begin"), key := Value.str (Str.ofString "_law_begin") 417,
                val := Value.ref 171 },
              { hash := PyData.keyHash P (Str.ofString "_law_tree"), key := Value.str (Str.ofString "_law_tree") 423,
                val := Value.ref 176 },
              { hash := PyData.keyHash P (Str.ofString "_law_is_refused"),
                key := Value.str (Str.ofString "_law_is_refused") 431, val := Value.ref 183 },
              { hash := PyData.keyHash P (Str.ofString "law"), key := Value.str (Str.ofString "law") 437,
                val := Value.ref 188 }]
            35 }) ::
    (nat_lit 15, { cls := Value.type "tuple", data := Data.seq #[Value.type "Exception"] }) ::
    (nat_lit 22, { cls := Value.type "tuple", data := Data.seq #[Value.int 0 201] }) ::
    (nat_lit 23, { cls := Value.type "tuple", data := Data.seq #[] }) ::
    (nat_lit 25,
      { cls := Value.type "tuple",
        data :=
          Data.seq
            #[Value.str (Str.ofString "self") 205, Value.str (Str.ofString "message") 206,
              Value.str (Str.ofString "spot") 207] }) ::
    (nat_lit 26, { cls := Value.type "tuple", data := Data.seq #[] }) ::
    (nat_lit 28,
      { cls := Value.type "code",
        data :=
          Data.fields
            #[Value.str (Str.ofString "__init__") 202, Value.str (Str.ofString "ChanError.__init__") 203,
              Value.str (Str.ofString "/claim/cut.py") 204, Value.int 4 0, Value.int 3 0, Value.int 0 0, Value.int 0 0,
              Value.int 3 0, Value.ref 23, Value.bool true, Value.int 181 0, Value.ref 24, Value.none, Value.ref 25,
              Value.ref 26, Value.ref 27, Value.int 208 0, Value.int 4 0,
              Value.str (Str.ofString "/claim/cut.py") 209] }) ::
    (nat_lit 29,
      { cls := Value.type "function",
        data :=
          Data.func
            { name := Str.ofString "__init__", qualname := Str.ofString "ChanError.__init__", params := (fdAt 1).1, body := FuncBody.stmts (fdAt 1).2.1, scope := (fdAt 1).2.2, globals := 3, closure := [], defaults := Value.ref 22, kwdefaults := Value.none,
              pyModule := Value.str (Str.ofString "chancore.errors") 187, code := Value.ref 28 } }) ::
    (nat_lit 30,
      { cls := Value.type "tuple",
        data := Data.seq #[Value.str (Str.ofString "message") 211, Value.str (Str.ofString "spot") 212] }) ::
    (nat_lit 31,
      { cls := Value.type "dict",
        data :=
          Data.dict
            #[{ hash := PyData.keyHash P (Str.ofString "__module__"), key := Value.str (Str.ofString "__module__") 196,
                val := Value.str (Str.ofString "chancore.errors") 187 },
              { hash := PyData.keyHash P (Str.ofString "__firstlineno__"),
                key := Value.str (Str.ofString "__firstlineno__") 200, val := Value.int 2 199 },
              { hash := PyData.keyHash P (Str.ofString "__init__"), key := Value.str (Str.ofString "__init__") 210,
                val := Value.ref 29 },
              { hash := PyData.keyHash P (Str.ofString "__static_attributes__"),
                key := Value.str (Str.ofString "__static_attributes__") 213, val := Value.ref 30 },
              { hash := PyData.keyHash P (Str.ofString "__weakref__"),
                key := Value.str (Str.ofString "__weakref__") 215, val := Value.ref 33 },
              { hash := PyData.keyHash P (Str.ofString "__doc__"), key := Value.str (Str.ofString "__doc__") 216,
                val := Value.none }]
            3 }) ::
    (nat_lit 32,
      { cls := Value.type "type",
        data :=
          Data.cls
            { name := Str.ofString "ChanError", bases := [Value.type "Exception"],
              mro := [Value.ref 32, Value.type "Exception", Value.type "BaseException", Value.type "object"], ns := 31,
              qualname := Str.ofString "ChanError", subclasses := [Value.ref 45, Value.ref 57] },
        slots :=
          #[some (Value.ref 15), none, some (Value.str (Str.ofString "ChanError") 189),
            some (Value.str (Str.ofString "ChanError") 197), some (Value.builtin "Exception.__new__"),
            some (Value.bool true)] }) ::
    (nat_lit 33,
      { cls := Value.type "getset_descriptor",
        data :=
          Data.fields
            #[Value.str (Str.ofString "__weakref__") 214, Value.ref 32, Value.builtin "ExceptionGroup.__weakref__",
              Value.none] }) ::
    (nat_lit 36, { cls := Value.type "tuple", data := Data.seq #[Value.ref 32] }) ::
    (nat_lit 43, { cls := Value.type "tuple", data := Data.seq #[] }) ::
    (nat_lit 44,
      { cls := Value.type "dict",
        data :=
          Data.dict
            #[{ hash := PyData.keyHash P (Str.ofString "__module__"), key := Value.str (Str.ofString "__module__") 228,
                val := Value.str (Str.ofString "chancore.errors") 187 },
              { hash := PyData.keyHash P (Str.ofString "__firstlineno__"),
                key := Value.str (Str.ofString "__firstlineno__") 232, val := Value.int 8 231 },
              { hash := PyData.keyHash P (Str.ofString "__static_attributes__"),
                key := Value.str (Str.ofString "__static_attributes__") 233, val := Value.ref 43 },
              { hash := PyData.keyHash P (Str.ofString "__doc__"), key := Value.str (Str.ofString "__doc__") 234,
                val := Value.none }]
            2 }) ::
    (nat_lit 45,
      { cls := Value.type "type",
        data :=
          Data.cls
            { name := Str.ofString "GrammarFault", bases := [Value.ref 32],
              mro :=
                [Value.ref 45, Value.ref 32, Value.type "Exception", Value.type "BaseException", Value.type "object"],
              ns := 44, qualname := Str.ofString "GrammarFault" },
        slots :=
          #[some (Value.ref 36), none, some (Value.str (Str.ofString "GrammarFault") 221),
            some (Value.str (Str.ofString "GrammarFault") 229), some (Value.builtin "Exception.__new__"),
            some (Value.bool true)] }) ::
    (nat_lit 48, { cls := Value.type "tuple", data := Data.seq #[Value.ref 32] }) ::
    (nat_lit 55, { cls := Value.type "tuple", data := Data.seq #[] }) ::
    (nat_lit 56,
      { cls := Value.type "dict",
        data :=
          Data.dict
            #[{ hash := PyData.keyHash P (Str.ofString "__module__"), key := Value.str (Str.ofString "__module__") 244,
                val := Value.str (Str.ofString "chancore.errors") 187 },
              { hash := PyData.keyHash P (Str.ofString "__firstlineno__"),
                key := Value.str (Str.ofString "__firstlineno__") 248, val := Value.int 10 247 },
              { hash := PyData.keyHash P (Str.ofString "__static_attributes__"),
                key := Value.str (Str.ofString "__static_attributes__") 249, val := Value.ref 55 },
              { hash := PyData.keyHash P (Str.ofString "__doc__"), key := Value.str (Str.ofString "__doc__") 250,
                val := Value.none }]
            2 }) ::
    (nat_lit 57,
      { cls := Value.type "type",
        data :=
          Data.cls
            { name := Str.ofString "TypeFault", bases := [Value.ref 32],
              mro :=
                [Value.ref 57, Value.ref 32, Value.type "Exception", Value.type "BaseException", Value.type "object"],
              ns := 56, qualname := Str.ofString "TypeFault" },
        slots :=
          #[some (Value.ref 48), none, some (Value.str (Str.ofString "TypeFault") 237),
            some (Value.str (Str.ofString "TypeFault") 245), some (Value.builtin "Exception.__new__"),
            some (Value.bool true)] }) ::
    (nat_lit 60,
      { cls := Value.type "tuple",
        data :=
          Data.seq
            #[Value.str (Str.ofString "chan") 253, Value.str (Str.ofString "func") 254,
              Value.str (Str.ofString "interface") 255, Value.str (Str.ofString "map") 256,
              Value.str (Str.ofString "struct") 257] }) ::
    (nat_lit 61,
      { cls := Value.type "tuple",
        data :=
          Data.seq
            #[Value.str (Str.ofString "(") 261, Value.str (Str.ofString "[") 262, Value.str (Str.ofString "{") 263] }) ::
    (nat_lit 62,
      { cls := Value.type "tuple",
        data :=
          Data.seq
            #[Value.str (Str.ofString ")") 265, Value.str (Str.ofString "]") 266, Value.str (Str.ofString "}") 267] }) ::
    (nat_lit 63,
      { cls := Value.type "tuple",
        data :=
          Data.seq
            #[Value.str (Str.ofString "name") 269, Value.str (Str.ofString "int") 270,
              Value.str (Str.ofString "rune") 271, Value.str (Str.ofString "text") 272] }) ::
    (nat_lit 64, { cls := Value.type "tuple", data := Data.seq #[] }) ::
    (nat_lit 66,
      { cls := Value.type "tuple",
        data :=
          Data.seq
            #[Value.str (Str.ofString "rows") 277, Value.str (Str.ofString "most_open") 278,
              Value.str (Str.ofString "most_ahead") 279, Value.str (Str.ofString "ahead") 280,
              Value.str (Str.ofString "last") 281, Value.str (Str.ofString "word") 282,
              Value.str (Str.ofString "text") 283] }) ::
    (nat_lit 67, { cls := Value.type "tuple", data := Data.seq #[] }) ::
    (nat_lit 69,
      { cls := Value.type "code",
        data :=
          Data.fields
            #[Value.str (Str.ofString "check_words") 274, Value.str (Str.ofString "check_words") 275,
              Value.str (Str.ofString "/claim/cut.py") 276, Value.int 17 0, Value.int 3 0, Value.int 0 0, Value.int 0 0,
              Value.int 3 0, Value.ref 64, Value.bool true, Value.int 181 0, Value.ref 65, Value.none, Value.ref 66,
              Value.ref 67, Value.ref 68, Value.int 284 0, Value.int 17 0,
              Value.str (Str.ofString "/claim/cut.py") 285] }) ::
    (nat_lit 70,
      { cls := Value.type "function",
        data :=
          Data.func
            { name := Str.ofString "check_words", qualname := Str.ofString "check_words", params := (fdAt 9).1, body := FuncBody.stmts (fdAt 9).2.1, scope := (fdAt 9).2.2, globals := 3, closure := [],
              defaults := Value.none, kwdefaults := Value.none,
              pyModule := Value.str (Str.ofString "chancore.depth") 259, code := Value.ref 69 } }) ::
    (nat_lit 71, { cls := Value.type "tuple", data := Data.seq #[] }) ::
    (nat_lit 73,
      { cls := Value.type "tuple",
        data :=
          Data.seq
            #[Value.str (Str.ofString "many") 290, Value.str (Str.ofString "last") 291,
              Value.str (Str.ofString "word") 292, Value.str (Str.ofString "kind") 293,
              Value.str (Str.ofString "text") 294] }) ::
    (nat_lit 74, { cls := Value.type "tuple", data := Data.seq #[] }) ::
    (nat_lit 76,
      { cls := Value.type "code",
        data :=
          Data.fields
            #[Value.str (Str.ofString "signs_ahead") 287, Value.str (Str.ofString "signs_ahead") 288,
              Value.str (Str.ofString "/claim/cut.py") 289, Value.int 34 0, Value.int 3 0, Value.int 0 0, Value.int 0 0,
              Value.int 3 0, Value.ref 71, Value.bool true, Value.int 181 0, Value.ref 72, Value.none, Value.ref 73,
              Value.ref 74, Value.ref 75, Value.int 295 0, Value.int 34 0,
              Value.str (Str.ofString "/claim/cut.py") 296] }) ::
    (nat_lit 77,
      { cls := Value.type "function",
        data :=
          Data.func
            { name := Str.ofString "signs_ahead", qualname := Str.ofString "signs_ahead", params := (fdAt 10).1, body := FuncBody.stmts (fdAt 10).2.1, scope := (fdAt 10).2.2, globals := 3,
              closure := [], defaults := Value.none, kwdefaults := Value.none,
              pyModule := Value.str (Str.ofString "chancore.depth") 259, code := Value.ref 76 } }) ::
    (nat_lit 78, { cls := Value.type "tuple", data := Data.seq #[] }) ::
    (nat_lit 80, { cls := Value.type "tuple", data := Data.seq #[Value.str (Str.ofString "word") 301] }) ::
    (nat_lit 81, { cls := Value.type "tuple", data := Data.seq #[] }) ::
    (nat_lit 83,
      { cls := Value.type "code",
        data :=
          Data.fields
            #[Value.str (Str.ofString "ends_operand") 298, Value.str (Str.ofString "ends_operand") 299,
              Value.str (Str.ofString "/claim/cut.py") 300, Value.int 49 0, Value.int 1 0, Value.int 0 0, Value.int 0 0,
              Value.int 3 0, Value.ref 78, Value.bool true, Value.int 181 0, Value.ref 79, Value.none, Value.ref 80,
              Value.ref 81, Value.ref 82, Value.int 302 0, Value.int 49 0,
              Value.str (Str.ofString "/claim/cut.py") 303] }) ::
    (nat_lit 84,
      { cls := Value.type "function",
        data :=
          Data.func
            { name := Str.ofString "ends_operand", qualname := Str.ofString "ends_operand", params := (fdAt 11).1, body := FuncBody.stmts (fdAt 11).2.1, scope := (fdAt 11).2.2, globals := 3, closure := [], defaults := Value.none,
              kwdefaults := Value.none, pyModule := Value.str (Str.ofString "chancore.depth") 259,
              code := Value.ref 83 } }) ::
    (nat_lit 85, { cls := Value.type "tuple", data := Data.seq #[] }) ::
    (nat_lit 87, { cls := Value.type "tuple", data := Data.seq #[Value.str (Str.ofString "part") 308] }) ::
    (nat_lit 88, { cls := Value.type "tuple", data := Data.seq #[] }) ::
    (nat_lit 90,
      { cls := Value.type "code",
        data :=
          Data.fields
            #[Value.str (Str.ofString "starts_node") 305, Value.str (Str.ofString "starts_node") 306,
              Value.str (Str.ofString "/claim/cut.py") 307, Value.int 51 0, Value.int 1 0, Value.int 0 0, Value.int 0 0,
              Value.int 3 0, Value.ref 85, Value.bool true, Value.int 181 0, Value.ref 86, Value.none, Value.ref 87,
              Value.ref 88, Value.ref 89, Value.int 309 0, Value.int 51 0,
              Value.str (Str.ofString "/claim/cut.py") 310] }) ::
    (nat_lit 91,
      { cls := Value.type "function",
        data :=
          Data.func
            { name := Str.ofString "starts_node", qualname := Str.ofString "starts_node", params := (fdAt 12).1, body := FuncBody.stmts (fdAt 12).2.1, scope := (fdAt 12).2.2, globals := 3, closure := [], defaults := Value.none,
              kwdefaults := Value.none, pyModule := Value.str (Str.ofString "chancore.depth") 259,
              code := Value.ref 90 } }) ::
    (nat_lit 92, { cls := Value.type "tuple", data := Data.seq #[] }) ::
    (nat_lit 95,
      { cls := Value.type "code",
        data :=
          Data.fields
            #[Value.str (Str.ofString "levels_of") 312, Value.str (Str.ofString "levels_of") 313,
              Value.str (Str.ofString "/claim/cut.py") 314, Value.int 53 0, Value.int 1 0, Value.int 0 0, Value.int 0 0,
              Value.int 3 0, Value.ref 92, Value.bool true, Value.int 181 0, Value.ref 93, Value.none, Value.none,
              Value.none, Value.ref 94, Value.int 315 0, Value.int 53 0,
              Value.str (Str.ofString "/claim/cut.py") 316] }) ::
    (nat_lit 96,
      { cls := Value.type "function",
        data :=
          Data.func
            { name := Str.ofString "levels_of", qualname := Str.ofString "levels_of", params := (fdAt 13).1, body := FuncBody.stmts (fdAt 13).2.1, scope := (fdAt 13).2.2, globals := 3, closure := [],
              defaults := Value.none, kwdefaults := Value.none,
              pyModule := Value.str (Str.ofString "chancore.depth") 259, code := Value.ref 95 } }) ::
    (nat_lit 97, { cls := Value.type "tuple", data := Data.seq #[] }) ::
    (nat_lit 99, { cls := Value.type "tuple", data := Data.seq #[Value.str (Str.ofString "part") 321] }) ::
    (nat_lit 100, { cls := Value.type "tuple", data := Data.seq #[] }) ::
    (nat_lit 102,
      { cls := Value.type "code",
        data :=
          Data.fields
            #[Value.str (Str.ofString "is_typed") 318, Value.str (Str.ofString "is_typed") 319,
              Value.str (Str.ofString "/claim/cut.py") 320, Value.int 62 0, Value.int 1 0, Value.int 0 0, Value.int 0 0,
              Value.int 3 0, Value.ref 97, Value.bool true, Value.int 181 0, Value.ref 98, Value.none, Value.ref 99,
              Value.ref 100, Value.ref 101, Value.int 322 0, Value.int 62 0,
              Value.str (Str.ofString "/claim/cut.py") 323] }) ::
    (nat_lit 103,
      { cls := Value.type "function",
        data :=
          Data.func
            { name := Str.ofString "is_typed", qualname := Str.ofString "is_typed", params := (fdAt 14).1, body := FuncBody.stmts (fdAt 14).2.1, scope := (fdAt 14).2.2, globals := 3, closure := [], defaults := Value.none,
              kwdefaults := Value.none, pyModule := Value.str (Str.ofString "chancore.depth") 259,
              code := Value.ref 102 } }) ::
    (nat_lit 104, { cls := Value.type "tuple", data := Data.seq #[] }) ::
    (nat_lit 107,
      { cls := Value.type "code",
        data :=
          Data.fields
            #[Value.str (Str.ofString "check_typed") 325, Value.str (Str.ofString "check_typed") 326,
              Value.str (Str.ofString "/claim/cut.py") 327, Value.int 64 0, Value.int 2 0, Value.int 0 0, Value.int 0 0,
              Value.int 3 0, Value.ref 104, Value.bool true, Value.int 181 0, Value.ref 105, Value.none, Value.none,
              Value.none, Value.ref 106, Value.int 328 0, Value.int 64 0,
              Value.str (Str.ofString "/claim/cut.py") 329] }) ::
    (nat_lit 108,
      { cls := Value.type "function",
        data :=
          Data.func
            { name := Str.ofString "check_typed", qualname := Str.ofString "check_typed", params := (fdAt 15).1, body := FuncBody.stmts (fdAt 15).2.1, scope := (fdAt 15).2.2, globals := 3, closure := [],
              defaults := Value.none, kwdefaults := Value.none,
              pyModule := Value.str (Str.ofString "chancore.depth") 259, code := Value.ref 107 } }) ::
    (nat_lit 109, { cls := Value.type "tuple", data := Data.seq #[] }) ::
    (nat_lit 111,
      { cls := Value.type "tuple",
        data :=
          Data.seq
            #[Value.str (Str.ofString "script") 336, Value.str (Str.ofString "cell") 337,
              Value.str (Str.ofString "size") 338] }) ::
    (nat_lit 112, { cls := Value.type "tuple", data := Data.seq #[] }) ::
    (nat_lit 114,
      { cls := Value.type "code",
        data :=
          Data.fields
            #[Value.str (Str.ofString "_law_pool") 333, Value.str (Str.ofString "_law_pool") 334,
              Value.str (Str.ofString "/claim/cut.py") 335, Value.int 76 0, Value.int 1 0, Value.int 0 0, Value.int 0 0,
              Value.int 3 0, Value.ref 109, Value.bool true, Value.int 181 0, Value.ref 110, Value.none, Value.ref 111,
              Value.ref 112, Value.ref 113, Value.int 339 0, Value.int 76 0,
              Value.str (Str.ofString "/claim/cut.py") 340] }) ::
    (nat_lit 115,
      { cls := Value.type "function",
        data :=
          Data.func
            { name := Str.ofString "_law_pool", qualname := Str.ofString "_law_pool", params := (fdAt 17).1, body := FuncBody.stmts (fdAt 17).2.1, scope := (fdAt 17).2.2, globals := 3, closure := [],
              defaults := Value.none, kwdefaults := Value.none,
              pyModule := Value.str (Str.ofString "law_xm0164_01") 331, code := Value.ref 114 } }) ::
    (nat_lit 116, { cls := Value.type "tuple", data := Data.seq #[] }) ::
    (nat_lit 118,
      { cls := Value.type "tuple",
        data :=
          Data.seq
            #[Value.str (Str.ofString "source") 345, Value.str (Str.ofString "top") 346,
              Value.str (Str.ofString "figure") 347] }) ::
    (nat_lit 119, { cls := Value.type "tuple", data := Data.seq #[] }) ::
    (nat_lit 121,
      { cls := Value.type "code",
        data :=
          Data.fields
            #[Value.str (Str.ofString "_law_take") 342, Value.str (Str.ofString "_law_take") 343,
              Value.str (Str.ofString "/claim/cut.py") 344, Value.int 80 0, Value.int 2 0, Value.int 0 0, Value.int 0 0,
              Value.int 3 0, Value.ref 116, Value.bool true, Value.int 181 0, Value.ref 117, Value.none, Value.ref 118,
              Value.ref 119, Value.ref 120, Value.int 348 0, Value.int 80 0,
              Value.str (Str.ofString "/claim/cut.py") 349] }) ::
    (nat_lit 122,
      { cls := Value.type "function",
        data :=
          Data.func
            { name := Str.ofString "_law_take", qualname := Str.ofString "_law_take", params := (fdAt 18).1, body := FuncBody.stmts (fdAt 18).2.1, scope := (fdAt 18).2.2, globals := 3, closure := [],
              defaults := Value.none, kwdefaults := Value.none,
              pyModule := Value.str (Str.ofString "law_xm0164_01") 331, code := Value.ref 121 } }) ::
    (nat_lit 123, { cls := Value.type "tuple", data := Data.seq #[] }) ::
    (nat_lit 125,
      { cls := Value.type "tuple",
        data := Data.seq #[Value.str (Str.ofString "source") 354, Value.str (Str.ofString "things") 355] }) ::
    (nat_lit 126, { cls := Value.type "tuple", data := Data.seq #[] }) ::
    (nat_lit 128,
      { cls := Value.type "code",
        data :=
          Data.fields
            #[Value.str (Str.ofString "_law_one") 351, Value.str (Str.ofString "_law_one") 352,
              Value.str (Str.ofString "/claim/cut.py") 353, Value.int 87 0, Value.int 2 0, Value.int 0 0, Value.int 0 0,
              Value.int 3 0, Value.ref 123, Value.bool true, Value.int 181 0, Value.ref 124, Value.none, Value.ref 125,
              Value.ref 126, Value.ref 127, Value.int 356 0, Value.int 87 0,
              Value.str (Str.ofString "/claim/cut.py") 357] }) ::
    (nat_lit 129,
      { cls := Value.type "function",
        data :=
          Data.func
            { name := Str.ofString "_law_one", qualname := Str.ofString "_law_one", params := (fdAt 19).1, body := FuncBody.stmts (fdAt 19).2.1, scope := (fdAt 19).2.2, globals := 3, closure := [], defaults := Value.none,
              kwdefaults := Value.none, pyModule := Value.str (Str.ofString "law_xm0164_01") 331,
              code := Value.ref 128 } }) ::
    (nat_lit 130, { cls := Value.type "tuple", data := Data.seq #[] }) ::
    (nat_lit 132,
      { cls := Value.type "tuple",
        data :=
          Data.seq
            #[Value.str (Str.ofString "source") 362, Value.str (Str.ofString "spot") 363,
              Value.str (Str.ofString "kind") 364, Value.str (Str.ofString "text") 365,
              Value.str (Str.ofString "signs") 366] }) ::
    (nat_lit 133, { cls := Value.type "tuple", data := Data.seq #[] }) ::
    (nat_lit 135,
      { cls := Value.type "code",
        data :=
          Data.fields
            #[Value.str (Str.ofString "_law_word") 359, Value.str (Str.ofString "_law_word") 360,
              Value.str (Str.ofString "/claim/cut.py") 361, Value.int 89 0, Value.int 2 0, Value.int 0 0, Value.int 0 0,
              Value.int 3 0, Value.ref 130, Value.bool true, Value.int 181 0, Value.ref 131, Value.none, Value.ref 132,
              Value.ref 133, Value.ref 134, Value.int 367 0, Value.int 89 0,
              Value.str (Str.ofString "/claim/cut.py") 368] }) ::
    (nat_lit 136,
      { cls := Value.type "function",
        data :=
          Data.func
            { name := Str.ofString "_law_word", qualname := Str.ofString "_law_word", params := (fdAt 20).1, body := FuncBody.stmts (fdAt 20).2.1, scope := (fdAt 20).2.2, globals := 3, closure := [],
              defaults := Value.none, kwdefaults := Value.none,
              pyModule := Value.str (Str.ofString "law_xm0164_01") 331, code := Value.ref 135 } }) ::
    (nat_lit 137, { cls := Value.type "tuple", data := Data.seq #[] }) ::
    (nat_lit 139, { cls := Value.type "tuple", data := Data.seq #[Value.str (Str.ofString "word") 373] }) ::
    (nat_lit 140, { cls := Value.type "tuple", data := Data.seq #[] }) ::
    (nat_lit 142,
      { cls := Value.type "code",
        data :=
          Data.fields
            #[Value.str (Str.ofString "_law_is_operand") 370, Value.str (Str.ofString "_law_is_operand") 371,
              Value.str (Str.ofString "/claim/cut.py") 372, Value.int 98 0, Value.int 1 0, Value.int 0 0, Value.int 0 0,
              Value.int 3 0, Value.ref 137, Value.bool true, Value.int 181 0, Value.ref 138, Value.none, Value.ref 139,
              Value.ref 140, Value.ref 141, Value.int 374 0, Value.int 98 0,
              Value.str (Str.ofString "/claim/cut.py") 375] }) ::
    (nat_lit 143,
      { cls := Value.type "function",
        data :=
          Data.func
            { name := Str.ofString "_law_is_operand", qualname := Str.ofString "_law_is_operand", params := (fdAt 21).1, body := FuncBody.stmts (fdAt 21).2.1, scope := (fdAt 21).2.2, globals := 3, closure := [], defaults := Value.none,
              kwdefaults := Value.none, pyModule := Value.str (Str.ofString "law_xm0164_01") 331,
              code := Value.ref 142 } }) ::
    (nat_lit 144, { cls := Value.type "tuple", data := Data.seq #[] }) ::
    (nat_lit 146,
      { cls := Value.type "tuple",
        data :=
          Data.seq
            #[Value.str (Str.ofString "many") 380, Value.str (Str.ofString "last") 381,
              Value.str (Str.ofString "word") 382, Value.str (Str.ofString "kind") 383,
              Value.str (Str.ofString "text") 384] }) ::
    (nat_lit 147, { cls := Value.type "tuple", data := Data.seq #[] }) ::
    (nat_lit 149,
      { cls := Value.type "code",
        data :=
          Data.fields
            #[Value.str (Str.ofString "_law_waiting") 377, Value.str (Str.ofString "_law_waiting") 378,
              Value.str (Str.ofString "/claim/cut.py") 379, Value.int 100 0, Value.int 3 0, Value.int 0 0,
              Value.int 0 0, Value.int 3 0, Value.ref 144, Value.bool true, Value.int 181 0, Value.ref 145, Value.none,
              Value.ref 146, Value.ref 147, Value.ref 148, Value.int 385 0, Value.int 100 0,
              Value.str (Str.ofString "/claim/cut.py") 386] }) ::
    (nat_lit 150,
      { cls := Value.type "function",
        data :=
          Data.func
            { name := Str.ofString "_law_waiting", qualname := Str.ofString "_law_waiting", params := (fdAt 22).1, body := FuncBody.stmts (fdAt 22).2.1, scope := (fdAt 22).2.2, globals := 3,
              closure := [], defaults := Value.none, kwdefaults := Value.none,
              pyModule := Value.str (Str.ofString "law_xm0164_01") 331, code := Value.ref 149 } }) ::
    (nat_lit 151, { cls := Value.type "tuple", data := Data.seq #[] }) ::
    (nat_lit 153,
      { cls := Value.type "tuple",
        data :=
          Data.seq
            #[Value.str (Str.ofString "rows") 391, Value.str (Str.ofString "most_open") 392,
              Value.str (Str.ofString "most_ahead") 393, Value.str (Str.ofString "waits") 394,
              Value.str (Str.ofString "last") 395, Value.str (Str.ofString "word") 396] }) ::
    (nat_lit 154, { cls := Value.type "tuple", data := Data.seq #[] }) ::
    (nat_lit 156,
      { cls := Value.type "code",
        data :=
          Data.fields
            #[Value.str (Str.ofString "_law_due") 388, Value.str (Str.ofString "_law_due") 389,
              Value.str (Str.ofString "/claim/cut.py") 390, Value.int 111 0, Value.int 3 0, Value.int 0 0,
              Value.int 0 0, Value.int 3 0, Value.ref 151, Value.bool true, Value.int 181 0, Value.ref 152, Value.none,
              Value.ref 153, Value.ref 154, Value.ref 155, Value.int 397 0, Value.int 111 0,
              Value.str (Str.ofString "/claim/cut.py") 398] }) ::
    (nat_lit 157,
      { cls := Value.type "function",
        data :=
          Data.func
            { name := Str.ofString "_law_due", qualname := Str.ofString "_law_due", params := (fdAt 23).1, body := FuncBody.stmts (fdAt 23).2.1, scope := (fdAt 23).2.2, globals := 3, closure := [],
              defaults := Value.none, kwdefaults := Value.none,
              pyModule := Value.str (Str.ofString "law_xm0164_01") 331, code := Value.ref 156 } }) ::
    (nat_lit 158, { cls := Value.type "tuple", data := Data.seq #[] }) ::
    (nat_lit 160,
      { cls := Value.type "tuple",
        data :=
          Data.seq
            #[Value.str (Str.ofString "rows") 403, Value.str (Str.ofString "most_open") 404,
              Value.str (Str.ofString "most_ahead") 405, Value.str (Str.ofString "fault") 406] }) ::
    (nat_lit 161, { cls := Value.type "tuple", data := Data.seq #[] }) ::
    (nat_lit 163,
      { cls := Value.type "code",
        data :=
          Data.fields
            #[Value.str (Str.ofString "_law_told") 400, Value.str (Str.ofString "_law_told") 401,
              Value.str (Str.ofString "/claim/cut.py") 402, Value.int 126 0, Value.int 3 0, Value.int 0 0,
              Value.int 0 0, Value.int 3 0, Value.ref 158, Value.bool true, Value.int 181 0, Value.ref 159, Value.none,
              Value.ref 160, Value.ref 161, Value.ref 162, Value.int 407 0, Value.int 126 0,
              Value.str (Str.ofString "/claim/cut.py") 408] }) ::
    (nat_lit 164,
      { cls := Value.type "function",
        data :=
          Data.func
            { name := Str.ofString "_law_told", qualname := Str.ofString "_law_told", params := (fdAt 24).1, body := FuncBody.stmts (fdAt 24).2.1, scope := (fdAt 24).2.2, globals := 3, closure := [],
              defaults := Value.none, kwdefaults := Value.none,
              pyModule := Value.str (Str.ofString "law_xm0164_01") 331, code := Value.ref 163 } }) ::
    (nat_lit 165, { cls := Value.type "tuple", data := Data.seq #[] }) ::
    (nat_lit 167,
      { cls := Value.type "tuple",
        data := Data.seq #[Value.str (Str.ofString "source") 413, Value.str (Str.ofString "some") 414] }) ::
    (nat_lit 168, { cls := Value.type "tuple", data := Data.seq #[] }) ::
    (nat_lit 170,
      { cls := Value.type "code",
        data :=
          Data.fields
            #[Value.str (Str.ofString "_law_begin") 410, Value.str (Str.ofString "_law_begin") 411,
              Value.str (Str.ofString "/claim/cut.py") 412, Value.int 132 0, Value.int 1 0, Value.int 0 0,
              Value.int 0 0, Value.int 3 0, Value.ref 165, Value.bool true, Value.int 181 0, Value.ref 166, Value.none,
              Value.ref 167, Value.ref 168, Value.ref 169, Value.int 415 0, Value.int 132 0,
              Value.str (Str.ofString "/claim/cut.py") 416] }) ::
    (nat_lit 171,
      { cls := Value.type "function",
        data :=
          Data.func
            { name := Str.ofString "_law_begin", qualname := Str.ofString "_law_begin", params := (fdAt 25).1, body := FuncBody.stmts (fdAt 25).2.1, scope := (fdAt 25).2.2, globals := 3, closure := [],
              defaults := Value.none, kwdefaults := Value.none,
              pyModule := Value.str (Str.ofString "law_xm0164_01") 331, code := Value.ref 170 } }) ::
    (nat_lit 172, { cls := Value.type "tuple", data := Data.seq #[] }) ::
    (nat_lit 175,
      { cls := Value.type "code",
        data :=
          Data.fields
            #[Value.str (Str.ofString "_law_tree") 418, Value.str (Str.ofString "_law_tree") 419,
              Value.str (Str.ofString "/claim/cut.py") 420, Value.int 136 0, Value.int 2 0, Value.int 0 0,
              Value.int 0 0, Value.int 3 0, Value.ref 172, Value.bool true, Value.int 181 0, Value.ref 173, Value.none,
              Value.none, Value.none, Value.ref 174, Value.int 421 0, Value.int 136 0,
              Value.str (Str.ofString "/claim/cut.py") 422] }) ::
    (nat_lit 176,
      { cls := Value.type "function",
        data :=
          Data.func
            { name := Str.ofString "_law_tree", qualname := Str.ofString "_law_tree", params := (fdAt 26).1, body := FuncBody.stmts (fdAt 26).2.1, scope := (fdAt 26).2.2,
              globals := 3, closure := [], defaults := Value.none, kwdefaults := Value.none,
              pyModule := Value.str (Str.ofString "law_xm0164_01") 331, code := Value.ref 175 } }) ::
    (nat_lit 177, { cls := Value.type "tuple", data := Data.seq #[] }) ::
    (nat_lit 179,
      { cls := Value.type "tuple",
        data := Data.seq #[Value.str (Str.ofString "rows") 427, Value.str (Str.ofString "most") 428] }) ::
    (nat_lit 180, { cls := Value.type "tuple", data := Data.seq #[] }) ::
    (nat_lit 182,
      { cls := Value.type "code",
        data :=
          Data.fields
            #[Value.str (Str.ofString "_law_is_refused") 424, Value.str (Str.ofString "_law_is_refused") 425,
              Value.str (Str.ofString "/claim/cut.py") 426, Value.int 147 0, Value.int 2 0, Value.int 0 0,
              Value.int 0 0, Value.int 3 0, Value.ref 177, Value.bool true, Value.int 181 0, Value.ref 178, Value.none,
              Value.ref 179, Value.ref 180, Value.ref 181, Value.int 429 0, Value.int 147 0,
              Value.str (Str.ofString "/claim/cut.py") 430] }) ::
    (nat_lit 183,
      { cls := Value.type "function",
        data :=
          Data.func
            { name := Str.ofString "_law_is_refused", qualname := Str.ofString "_law_is_refused", params := (fdAt 27).1, body := FuncBody.stmts (fdAt 27).2.1, scope := (fdAt 27).2.2, globals := 3, closure := [],
              defaults := Value.none, kwdefaults := Value.none,
              pyModule := Value.str (Str.ofString "law_xm0164_01") 331, code := Value.ref 182 } }) ::
    (nat_lit 184, { cls := Value.type "tuple", data := Data.seq #[] }) ::
    (nat_lit 187,
      { cls := Value.type "code",
        data :=
          Data.fields
            #[Value.str (Str.ofString "law") 432, Value.str (Str.ofString "law") 433,
              Value.str (Str.ofString "/claim/cut.py") 434, Value.int 153 0, Value.int 1 0, Value.int 0 0,
              Value.int 0 0, Value.int 3 0, Value.ref 184, Value.bool true, Value.int 181 0, Value.ref 185, Value.none,
              Value.none, Value.none, Value.ref 186, Value.int 435 0, Value.int 153 0,
              Value.str (Str.ofString "/claim/cut.py") 436] }) ::
    (nat_lit 188,
      { cls := Value.type "function",
        data :=
          Data.func
            { name := Str.ofString "law", qualname := Str.ofString "law", params := (fdAt 28).1, body := FuncBody.stmts (fdAt 28).2.1, scope := (fdAt 28).2.2, globals := 3, closure := [], defaults := Value.none, kwdefaults := Value.none,
              pyModule := Value.str (Str.ofString "law_xm0164_01") 331, code := Value.ref 187 } }) :: []
noncomputable def view : Program := { PR with main := { PR.main with body := [1, 2, 3, 4, 6, 7, 8, 9, 10, 11, 12, 13, 14, 15, 17, 18, 19, 20, 21, 22, 23, 24, 25, 26, 27, 28].map (stAt PR.main.body) } }
noncomputable def KAs : List Nat := [nat_lit 2, nat_lit 3, nat_lit 15, nat_lit 22, nat_lit 23, nat_lit 25, nat_lit 26, nat_lit 28, nat_lit 29, nat_lit 30, nat_lit 31, nat_lit 32, nat_lit 33, nat_lit 36, nat_lit 43, nat_lit 44, nat_lit 45, nat_lit 48, nat_lit 55, nat_lit 56, nat_lit 57, nat_lit 60, nat_lit 61, nat_lit 62, nat_lit 63, nat_lit 64, nat_lit 66, nat_lit 67, nat_lit 69, nat_lit 70, nat_lit 71, nat_lit 73, nat_lit 74, nat_lit 76, nat_lit 77, nat_lit 78, nat_lit 80, nat_lit 81, nat_lit 83, nat_lit 84, nat_lit 85, nat_lit 87, nat_lit 88, nat_lit 90, nat_lit 91, nat_lit 92, nat_lit 95, nat_lit 96, nat_lit 97, nat_lit 99, nat_lit 100, nat_lit 102, nat_lit 103, nat_lit 104, nat_lit 107, nat_lit 108, nat_lit 109, nat_lit 111, nat_lit 112, nat_lit 114, nat_lit 115, nat_lit 116, nat_lit 118, nat_lit 119, nat_lit 121, nat_lit 122, nat_lit 123, nat_lit 125, nat_lit 126, nat_lit 128, nat_lit 129, nat_lit 130, nat_lit 132, nat_lit 133, nat_lit 135, nat_lit 136, nat_lit 137, nat_lit 139, nat_lit 140, nat_lit 142, nat_lit 143, nat_lit 144, nat_lit 146, nat_lit 147, nat_lit 149, nat_lit 150, nat_lit 151, nat_lit 153, nat_lit 154, nat_lit 156, nat_lit 157, nat_lit 158, nat_lit 160, nat_lit 161, nat_lit 163, nat_lit 164, nat_lit 165, nat_lit 167, nat_lit 168, nat_lit 170, nat_lit 171, nat_lit 172, nat_lit 175, nat_lit 176, nat_lit 177, nat_lit 179, nat_lit 180, nat_lit 182, nat_lit 183, nat_lit 184, nat_lit 187, nat_lit 188]
noncomputable def HK : Hook := kHook KK KAs (fun _ => by kernel_rfl)
end
/- part B0 -/
section
open PySem PySem.W PyProof.Rows PySem.Calls PySem.Spec
theorem anyQE {α : Type} {M : Model} {A : Around} {x : Sem α} {Q : α → Shared → Prop} {E : Value → Shared → Prop} {s : Shared} (h : ∀ (Q' : α → Shared → Prop) (E' : Value → Shared → Prop), (∀ a s', Q a s' → Q' a s') → (∀ e s', E e s' → E' e s') → wpAny M A x Q' E' s) : wpAny M A x Q E s := h Q E (fun _ _ q => q) fun _ _ q => q
theorem anyQF {α : Type} {M : Model} {A : Around} {x : Sem α} {Q : α → Shared → Prop} {E : Value → Shared → Prop} {s : Shared} (h : ∀ (Q' : α → Shared → Prop), (∀ a s', Q a s' → Q' a s') → wpAny M A x Q' (fun _ _ => False) s) : wpAny M A x Q E s := wpAny_noRaise (h Q fun _ _ q => q)
theorem anyQP {α : Type} {M : Model} {A : Around} {env : Env} {x : Sem α} {Q : α → Shared → Prop} {E : Value → Shared → Prop} {s : Shared} (hp : PassesOwn M A env E) (h : ∀ (Q' : α → Shared → Prop) (E' : Value → Shared → Prop), PassesOwn M A env E' → (∀ a s', Q a s' → Q' a s') → (∀ e s', E e s' → E' e s') → wpAny M A x Q' E' s) : wpAny M A x Q E s := h Q E hp (fun _ _ q => q) fun _ _ q => q
theorem letA {α : Type} {M : Model} {A : Around} {x : Sem α} {Q : α → Shared → Prop} {E : Value → Shared → Prop} {s : Shared} (h : let A' := A; wpAny M A' x Q E s) : wpAny M A x Q E s := h
section
variable {prog : Program} {w : World} {A₀ A : Around} {s : Shared} {base h₀ : Heap} {outer : List Env} {L : Addr} {m : Str → Option Value} {env : Env} {hid : List (Addr × Obj)} {K : Frag}
  {p : Program} {loose : List Str} {mean : ExcName → Option Value} {mg mb : Str → Option Value}
  {R : Result → Shared → Prop} {name qual : Str} {params : Arguments} {body : List Stmt} {scope : Scope} {dV kV doc pm cdv ct oc : Value} {an od : Option Addr} {osl : Array (Option Value)} {f : Addr} {args : Args} {binds : List (Str × Value)}

/-- the entry of a def: the new ground is the heap as it stands, less what is hidden -/
theorem enterS (B : Below A₀ base outer h₀) (F : Fr h₀ L s.heap m) (N : News h₀ L s.heap hid) (X₀ : K.In h₀) (T : Top p loose mean mg mb h₀) (hA : A.frames = some (env :: outer)) (hf : env.frame = some L) (hke : env.scope.kind = .function)
    (ho : K.lookup f = some ⟨oc, od, .func (fnOf name qual params body scope dV kV doc pm an cdv ct), osl⟩) (hcd : codeIn K cdv qual = true) (hroom : A.depth < recursionLimit)
    (hbind : BindsTo s (fnOf name qual params body scope dV kV doc pm an cdv ct) args binds) (hloc : ∀ y ∈ binds, scope.names.lookup y.1 = some .local)
    (h : ∀ g L' h₁ tk₁, (∀ b o, s.heap.get? b = some o → b ∉ hid.map (·.1) → g.get? b = some o) → Fr g L' h₁ (fun y => binds.reverse.lookup y) → News g L' h₁ hid → Below A base (env :: outer) g → K.In g → Top p loose mean mg mb g →
      wpAny (model prog w) (A.deeper (envOf qual scope L' f cdv)) (execs body (envOf qual scope L' f cdv))
        (fun fl s' => R (.ok (.ret (match fl with | .ret v => v | _ => .none))) s')
        (fun e s' => wpAny (model prog w) (A.deeper (envOf qual scope L' f cdv)) (leaving (envOf qual scope L' f cdv) e) (fun _ s'' => R (.error e) s'') (fun e' s'' => R (.error e') s'') s')
        { s with heap := h₁, toks := tk₁ })
    (hco : scope.isCoroutine = false) (hgen : scope.isGenerator = false) (hk : scope.kind = .function)
    (hcell : ∀ x ∈ scope.names, x.2 ≠ .cell) : codeAny (model prog w) A (.call (.ref f) args) R s := by
  obtain ⟨FG, BG, st, _⟩ := groundX (R := R) B F N hA hf hke
  refine codeAny_call_def (fd := fnX name qual params body scope [] dV kV doc pm an cdv ct) (body := body) (binds := binds) hroom ((X₀.keeps F.keep) _ _ ho) rfl (T.nolimit.keeps F.keep) (codeRec_of (X₀.keeps F.keep) hcd) rfl hbind hcell hloc (fun h₁ hns hk₁ => ?_) hco hgen hk
  exact h (hideAll s.heap (hid.map (·.1))) s.heap.objs.size h₁ _ (fun b o e n => hideAll_get _ e n) ⟨hns, fun b o e => hk₁ b o (of_hideAll _ e), Nat.le_of_eq (hideAll_size _ _)⟩
    (fun q hq => ⟨hk₁ _ _ (N q hq).1, Nat.ne_of_lt (Heap.lt_size (N q hq).1), hideAll_none _ (List.mem_map_of_mem hq)⟩) BG (X₀.keeps (h' := hideAll s.heap (hid.map (·.1))) fun b o e => st b o e) (T.keeps (h' := hideAll s.heap (hid.map (·.1))) fun b o e => st b o e)
end
/-- a list display of written strs, in one step -/
inductive ConstS : List Expr → List Str → Prop
  | nil : ConstS [] []
  | cons (x : Str) (k : Nat) (pos : Pos) {es : List Expr} {ss : List Str} : ConstS es ss → ConstS (.Constant (.str x) k pos :: es) (x :: ss)
section
variable {M : Model} {A : Around} {E : Value → Shared → Prop} {env : Env} {pos : Pos}
theorem spliced_strs {es : List Expr} {ss : List Str} (hc : ConstS es ss) : ∀ {Q : List Value → Shared → Prop} {s : Shared}, (∀ vs tk', StrsAre vs ss → Q vs { s with toks := tk' }) → wpAny M A (spliced (backTo pos (starEach es env))) Q E s := by
  induction hc with
  | nil => intro Q s h; exact spliced_none (h [] s.toks .nil)
  | cons x k p _ ih => intro Q s h; exact spliced_more (Constant_str (ih fun vs tk' hs => h _ _ (.cons _ _ hs)))
theorem strs_len {vs : List Value} {ss : List Str} (h : StrsAre vs ss) : vs.length = ss.length := by
  induction h with
  | nil => rfl
  | cons _ _ _ ih => simp [ih]
theorem strs_app {vs ws : List Value} {ss us : List Str} (h : StrsAre vs ss) (k : StrsAre ws us) : StrsAre (vs ++ ws) (ss ++ us) := by
  induction h with
  | nil => exact k
  | cons y t _ ih => exact .cons y t ih
theorem my_strList {es : List Expr} {ss : List Str} {h₀ : Heap} {L : Addr} {m : Str → Option Value} {news : List (Addr × Obj)} {s : Shared} {Q : Value → Shared → Prop} (F : Fr h₀ L s.heap m) (N : News h₀ L s.heap news) (hc : ConstS es ss) (hz : ss.length ≤ 100)
    (h : ∀ l vs h' tk', StrsAre vs ss → Fr h₀ L h' m → News h₀ L h' ((l, listOf vs.toArray 0) :: news) → (∀ p ∈ news, p.1 < l) → Q (.ref l) { s with heap := h', toks := tk' }) : wpAny M A (eval (.List es pos) env) Q E s :=
  List_ (spliced_strs hc fun vs tk' hs => newList_K (s := { s with toks := tk' }) F N (fun l h' F' N' l1 => h l vs h' tk' hs F' N' l1) (by rw [strs_len hs, sizeLine_eq]; omega))
theorem my_addS {prog : Program} {w : World} {s : Shared} {h₀ : Heap} {L l b : Addr} {m : Str → Option Value} {news : List (Addr × Obj)} {vs ws : List Value} {ss us : List Str} {Q : Value → Shared → Prop} (F : Fr h₀ L s.heap m) (N : News h₀ L s.heap news) (hl : s.heap.IsList l vs.toArray) (hb : s.heap.IsList b ws.toArray) (hi : StrsAre vs ss) (hj : StrsAre ws us) (hz : ss.length + us.length ≤ 100)
    (h : ∀ D zs h', StrsAre zs (ss ++ us) → Fr h₀ L h' m → News h₀ L h' ((D, listOf (List.toArray zs) 0) :: news) → (∀ p ∈ news, p.1 < D) → Q (.ref D) { s with heap := h' }) :
    wpAny (model prog w) A (binaryOp .Add (.ref l) (.ref b)) Q E s :=
  add_arrays F N hl hb (fun h' F' N' => h _ _ h' (strs_app hi hj) F' (by simpa using N') fun q hq => Heap.lt_size (N q hq).1) (by have := strs_len hi; have := strs_len hj; rw [sizeLine_eq]; simp; omega)
end
/-- stops of the walk: a label is stopped at while its mark is at hand -/
inductive StopAt (x : String) : Prop
  | mk
def Halt (p : Prop) : Prop := p
theorem Halt.go {p : Prop} (h : Halt p) : p := h
theorem Halt.un {p : Prop} (h : p) : Halt p := h
/-- opaque names of a frame -/
theorem opqF {g h : Heap} {L : Addr} {m : Str → Option Value} {R : Prop} (F : Fr g L h m) (k : ∀ m', (∀ y, m' y = m y) → Fr g L h m' → R) : R := k m (fun _ => rfl) F
theorem unitsLt {u a b c : Nat} (h : u + b < c) (e : Nat.ble a b = true) : u + a < c := Nat.lt_of_le_of_lt (Nat.add_le_add_left (Nat.le_of_ble_eq_true e) u) h
theorem bleN {a b : Nat} (h : Nat.ble a b = true) : a ≤ b := Nat.le_of_ble_eq_true h
theorem frCongr {h₀ h : Heap} {L : Addr} {m m' : Str → Option Value} (F : Fr h₀ L h m) (e : ∀ y, m y = m' y) : Fr h₀ L h m' := by
  have : m = m' := funext e
  subst this; exact F
theorem opq1 {g h : Heap} {L : Addr} {m : Str → Option Value} {R : Prop} (F : Fr g L h m) {x : Str} {v : Value} (e : m x = some v) (k : ∀ m₀ : Str → Option Value, Fr g L h (fun y => if y = x then some v else m₀ y) → R) : R :=
  k m (frCongr F fun y => by
    by_cases h : y = x
    · subst h; rw [if_pos rfl]; exact e
    · rw [if_neg h])
theorem opq2 {g h : Heap} {L : Addr} {m : Str → Option Value} {R : Prop} (F : Fr g L h m) {x y : Str} {v u : Value} (e : m x = some v) (e2 : m y = some u) (k : ∀ m₀ : Str → Option Value, Fr g L h (fun z => if z = x then some v else if z = y then some u else m₀ z) → R) : R :=
  k m (frCongr F fun z => by
    by_cases h : z = x
    · subst h; rw [if_pos rfl]; exact e
    · rw [if_neg h]
      by_cases h : z = y
      · subst h; rw [if_pos rfl]; exact e2
      · rw [if_neg h])
theorem anyQ {α : Type} {M : Model} {A : Around} {x : Sem α} {Q : α → Shared → Prop} {E : Value → Shared → Prop} {s : Shared} (h : ∀ (Q' : α → Shared → Prop), (∀ a s', Q a s' → Q' a s') → wpAny M A x Q' E s) : wpAny M A x Q E s := h Q fun _ _ q => q
theorem midT {M : Model} {A : Around} {E : Value → Shared → Prop} {s : Shared} {x : Sem Flow} {Q : Flow → Shared → Prop} (P : Heap → Prop)
    (step : ∀ (Q' : Flow → Shared → Prop), (∀ h' tk', P h' → Q' .next { s with heap := h', toks := tk' }) → wpAny M A x Q' E s)
    (k : ∀ h' tk', P h' → Q .next { s with heap := h', toks := tk' }) : wpAny M A x Q E s := step Q k
theorem lookup_in {l : List (Str × Value)} {x : Str} {v : Value} (h : List.lookup x l = some v) : (x, v) ∈ l := by
  induction l with
  | nil => cases h
  | cons p l ih =>
    obtain ⟨y, u⟩ := p
    rw [List.lookup_cons] at h
    cases e : x == y with
    | true => rw [e] at h; cases h; rw [eq_of_beq e]; exact .head _
    | false => rw [e] at h; exact .tail _ (ih h)
theorem opqL {g h : Heap} {L : Addr} {m : Str → Option Value} {R : Prop} (F : Fr g L h m) (l : List (Str × Value)) (e : ∀ p ∈ l, m p.1 = some p.2) (k : ∀ m₀ : Str → Option Value, Fr g L h (fun y => match List.lookup y l with | some v => some v | none => m₀ y) → R) : R :=
  k m (frCongr F fun y => by
    cases q : List.lookup y l with
    | none => rfl
    | some v => exact e _ (lookup_in q))
theorem opqE {g h : Heap} {L : Addr} {m : Str → Option Value} {R : Prop} (F : Fr g L h m) (l : List (Str × Value)) (e : ∀ p ∈ l, m p.1 = some p.2) (k : ∀ m₀ : Str → Option Value, (∀ y, (match List.lookup y l with | some v => some v | none => m₀ y) = m y) → Fr g L h (fun y => match List.lookup y l with | some v => some v | none => m₀ y) → R) : R :=
  have q : ∀ y, m y = (match List.lookup y l with | some v => some v | none => m y) := fun y => by
    cases q : List.lookup y l with
    | none => rfl
    | some v => exact e _ (lookup_in q)
  k m (fun y => (q y).symm) (frCongr F q)
theorem fc {p : Str × Value → Prop} {x : Str × Value} {l : List (Str × Value)} (h : p x) (k : ∀ q ∈ l, p q) : ∀ q ∈ x :: l, p q := List.forall_mem_cons.mpr ⟨h, k⟩
theorem fn {p : Str × Value → Prop} : ∀ q ∈ ([] : List (Str × Value)), p q := fun _ h => nomatch h
end
open PySem PySem.W PyProof.Rows PySem.Calls PySem.Spec
local macro_rules | `(tactic| walk_at $x:str) => `(tactic| (with_reducible rename (StopAt $x) => z9; refine Halt.go ?_))
local macro_rules | `(tactic| k_ne) => `(tactic| (refine neN ?_; (try dsimp only); first | exact Nat.ne_of_gt (by assumption) | exact Nat.ne_of_lt (by assumption) | assumption | exact Ne.symm (by assumption) | exact Nat.ne_of_gt (And.left (by assumption)) | exact Nat.ne_of_gt (And.left (And.right (by assumption))) | exact Nat.ne_of_gt (And.left (And.right (And.right (by assumption))))))
local macro_rules | `(tactic| ktr_units) => `(tactic| ((try simp only [units_in1, units_deeper, Around.mark_units, units_caller]); exact unitsLt (by assumption) rfl))
local macro_rules | `(tactic| ktr_room) => `(tactic| ((try simp only [depth_under_make, depth_under_kw, depth_in1, depth_deeper, depth_caller]); first | assumption | exact unitsLt (by assumption) rfl | exact unitsLt (a := 0) (by assumption) rfl))
local macro_rules | `(tactic| k_all) => `(tactic| assumption)
local macro_rules | `(tactic| k_mem) => `(tactic| first | assumption | exact .head _ | exact .tail _ (.head _) | exact .tail _ (.tail _ (.head _)) | exact .tail _ (by assumption) | exact .tail _ (.tail _ (by assumption)) | exact .tail _ (.tail _ (.tail _ (by assumption))))
local macro_rules | `(tactic| size_fits) => `(tactic| exact bleN rfl)
/- part P1 -/
section
open PySem PySem.W PyProof.Rows PySem.Calls PySem.Spec
theorem fillK : PySem.Challenge.rw_xm0164_01.name = PySem.Challenge.rw_xm0164_01.name ∧ KK = KK := by k_fill; exact ⟨rfl, rfl⟩

theorem stayF {h₀ h h' : Heap} {L : Addr} {m : Str → Option Value} (F : Fr h₀ L h m) (st : h.StaysIn h') : Fr h₀ L h' m :=
  ⟨F.ns.keeps st, fun b o e => st b o (F.keep b o e), F.above⟩
theorem stayN {h₀ h h' : Heap} {L : Addr} {news : List (Addr × Obj)} (N : News h₀ L h news) (st : h.StaysIn h') : News h₀ L h' news :=
  fun p hp => ⟨st _ _ (N p hp).1, (N p hp).2⟩
theorem retB {s : Shared} {Q : Value → Shared → Prop} {x y : Bool} {h' : Heap} {tk' : Nat} (hk : ∀ h' tk', s.heap.StaysIn h' → Q (.bool x) { s with heap := h', toks := tk' }) (e : y = x) (st : s.heap.StaysIn h') : Q (.bool y) { s with heap := h', toks := tk' } := by
  subst e; exact hk _ _ st
theorem retI {s : Shared} {Q : Value → Shared → Prop} {x y : Int} {t : Tok} {h' : Heap} {tk' : Nat} (hk : ∀ t h' tk', s.heap.StaysIn h' → Q (.int x t) { s with heap := h', toks := tk' }) (e : y = x) (st : s.heap.StaysIn h') : Q (.int y t) { s with heap := h', toks := tk' } := by
  subst e; exact hk _ _ _ st

def opKinds : List Str := [Str.ofString "name", Str.ofString "int", Str.ofString "rune", Str.ofString "text"]
def closers : List Str := [Str.ofString ")", Str.ofString "]", Str.ofString "}"]
def openers : List Str := [Str.ofString "(", Str.ofString "[", Str.ofString "{"]
def isOp (k : Str) : Bool := opKinds.any (· == k)
def endsOp (k t : Str) : Bool := opKinds.any (· == k) || (k == Str.ofString "sign" && closers.any (· == t))
def signsF (many : Int) (lk lt k t : Str) : Int :=
  if (opKinds.any (· == k) || [Str.ofString ".", Str.ofString "..."].any (· == t)) = true then many
  else if (k == Str.ofString "keyword") = true then
    (if ([Str.ofString "func", Str.ofString "chan"].any (· == t)) = true then many + 1
     else if ([Str.ofString "chan", Str.ofString "func", Str.ofString "interface", Str.ofString "map", Str.ofString "struct"].any (· == t)) = true then many else 0)
  else if (t == Str.ofString "!") = true then many + 1
  else if ([Str.ofString "*", Str.ofString "<-"].any (· == t)) = true then (if (opKinds.any (· == lk)) = true then 1 else many + 1)
  else if ([Str.ofString "+", Str.ofString "-", Str.ofString "^", Str.ofString "&"].any (· == t)) = true then (if endsOp lk lt = true then 0 else many + 1)
  else 0
def waitF (many : Int) (lk lt k t : Str) : Int :=
  if (isOp k || [Str.ofString ".", Str.ofString "...", Str.ofString "map", Str.ofString "struct", Str.ofString "interface"].any (· == t)) = true then many
  else if ([Str.ofString "func", Str.ofString "chan", Str.ofString "!"].any (· == t)) = true then many + 1
  else if ([Str.ofString "*", Str.ofString "<-"].any (· == t)) = true then (if isOp lk = true then 1 else many + 1)
  else if ([Str.ofString "+", Str.ofString "-", Str.ofString "^", Str.ofString "&"].any (· == t)) = true then (if (isOp lk || closers.any (· == lt)) = true then 0 else many + 1)
  else 0

section
variable {w : World} {dp un : Nat} {gd : Option (List Code)} {cn : Str} {cs : Scope} {a : Addr} {ccd : Value} {cl : List (Str × Addr)} {outer : List Env} {A₀ : Around} {base h₀ : Heap} {L : Addr} {m : Str → Option Value} {s : Shared} {Q E : Value → Shared → Prop}
    {p : Program} {loose : List Str} {mean : ExcName → Option Value} {mg mb : Str → Option Value} {wd la : Addr} {kk tt lk lt : Str} {tk tl tk1 tl1 tm : Tok} {v2 v3 v4 v5 : Value} {many : Int}

set_option maxHeartbeats 4000000 in
theorem C_ends (B : Below A₀ base outer h₀) (F : Fr h₀ L s.heap m) (X : (KK w.params).In h₀) (T : Top p loose mean mg mb h₀) (hk : cs.kind = .function) (hd : dp + 1 < recursionLimit) (hu : un + 10 < cLine)
    (ht : IsTup s.heap wd #[.str kk tk, .str tt tl, v2, v3])
    (k : ∀ h' tk', s.heap.StaysIn h' → Q (.bool (endsOp kk tt)) { s with heap := h', toks := tk' }) :
    wpAny (model PR w) (ktrTop dp un gd cn cs L a ccd cl outer) (call (.ref 84) [.ref wd]) Q E s := by
  obtain ⟨sh, sg, sd, sk, so⟩ := s
  dsimp only at F ht k
  refine wpAny_call ?_
  refine' enterS (hid := []) (by assumption) (by assumption) News.nil (by assumption) (by assumption) ?kA ?kF ?kK ?k6 ?k7 ?k8 ?k9 ?kB ?_ ?c2 ?c3 ?c4 ?c5
  (case kA => exact rfl); (case kF => exact rfl); (case kK => assumption); (case k6 => k_dflt k_is); (case k7 => k_dflt k_is); (case k8 => ktr_room); (case k9 => exact BindsTo.of_eq rfl); (case kB => exact locs rfl); (case c2 => exact rfl); (case c3 => exact rfl); (case c4 => exact rfl); (case c5 => decide)
  intro g L' h₁ tk₁ hkeep F' N' B' X' T'
  have hcov : ∀ b o, sh.get? b = some o → g.get? b = some o := fun b o e => hkeep b o e (by simp)
  have ht' : IsTup g wd #[.str kk tk, .str tt tl, v2, v3] := ht.keeps hcov
  clear B F X T ht hk hkeep
  dsimp only
  refine anyQF fun Q9 hQ9 => ?_
  have k9 : ∀ x, x = endsOp kk tt → ∀ h' tk', g.StaysIn h' → Q9 (.ret (.bool x)) ⟨h', sg, sd, tk', so⟩ := fun x e h' tk' st => by subst e; exact hQ9 _ _ (k h' tk' fun b o e => st b o (hcov b o e))
  clear hQ9 k hcov
  have z0 : StopAt "compareOp In str ref" := .mk
  k_steps
  all_goals (repeat' (first
    | (unfold Halt
       refine in_tuple_strs (kun_topT (by k_asm) (by k_asm) (by k_is)) (by repeat constructor) ?_
       k_steps)))
  all_goals (refine k9 _ ?_ _ _ (Fr.keep (by assumption)))
  all_goals (simp only [isOp, endsOp, opKinds, closers, Bool.or_true, Bool.or_false, Bool.and_true, Bool.and_false, Bool.true_or, Bool.false_or, Bool.true_and, Bool.false_and, Bool.not_eq_true, *] at *; done)

set_option maxHeartbeats 4000000 in
theorem C_isop (B : Below A₀ base outer h₀) (F : Fr h₀ L s.heap m) (X : (KK w.params).In h₀) (T : Top p loose mean mg mb h₀) (hk : cs.kind = .function) (hd : dp + 1 < recursionLimit) (hu : un + 10 < cLine)
    (ht : IsTup s.heap wd #[.str kk tk, .str tt tl, v2, v3])
    (k : ∀ h' tk', s.heap.StaysIn h' → Q (.bool (isOp kk)) { s with heap := h', toks := tk' }) :
    wpAny (model PR w) (ktrTop dp un gd cn cs L a ccd cl outer) (call (.ref 143) [.ref wd]) Q E s := by
  obtain ⟨sh, sg, sd, sk, so⟩ := s
  dsimp only at F ht k
  refine wpAny_call ?_
  refine' enterS (hid := []) (by assumption) (by assumption) News.nil (by assumption) (by assumption) ?kA ?kF ?kK ?k6 ?k7 ?k8 ?k9 ?kB ?_ ?c2 ?c3 ?c4 ?c5
  (case kA => exact rfl); (case kF => exact rfl); (case kK => assumption); (case k6 => k_dflt k_is); (case k7 => k_dflt k_is); (case k8 => ktr_room); (case k9 => exact BindsTo.of_eq rfl); (case kB => exact locs rfl); (case c2 => exact rfl); (case c3 => exact rfl); (case c4 => exact rfl); (case c5 => decide)
  intro g L' h₁ tk₁ hkeep F' N' B' X' T'
  have hcov : ∀ b o, sh.get? b = some o → g.get? b = some o := fun b o e => hkeep b o e (by simp)
  have ht' : IsTup g wd #[.str kk tk, .str tt tl, v2, v3] := ht.keeps hcov
  clear B F X T ht hk hkeep
  dsimp only
  refine anyQF fun Q9 hQ9 => ?_
  have k9 : ∀ x, x = isOp kk → ∀ h' tk', g.StaysIn h' → Q9 (.ret (.bool x)) ⟨h', sg, sd, tk', so⟩ := fun x e h' tk' st => by subst e; exact hQ9 _ _ (k h' tk' fun b o e => st b o (hcov b o e))
  clear hQ9 k hcov
  have z0 : StopAt "eval List" := .mk
  k_steps
  all_goals (repeat' (first
    | (unfold Halt
       refine' my_strList ?kF ?kN ?kc ?kz ?_; (case kF => k_asm); (case kN => k_asm); (case kc => repeat constructor); (case kz => exact bleN rfl)
       intro l9 vs9 h9 tk9 hs9 F9 N9 l1; (try dsimp only); (try k_lt l1); (try k_sweep)
       k_steps)))
  all_goals (refine k9 _ ?_ _ _ (Fr.keep (by assumption)))
  all_goals first | rfl | (simp only [isOp, endsOp, opKinds, closers, Bool.or_true, Bool.or_false, Bool.and_true, Bool.and_false, Bool.true_or, Bool.false_or, Bool.true_and, Bool.false_and, Bool.not_eq_true, *] at *; done)

set_option maxHeartbeats 4000000 in
theorem C_signs (B : Below A₀ base outer h₀) (F : Fr h₀ L s.heap m) (X : (KK w.params).In h₀) (T : Top p loose mean mg mb h₀) (hk : cs.kind = .function) (hd : dp + 2 < recursionLimit) (hu : un + 20 < cLine)
    (hl : IsTup s.heap la #[.str lk tk1, .str lt tl1, v4, v5]) (ht : IsTup s.heap wd #[.str kk tk, .str tt tl, v2, v3])
    (k : ∀ t h' tk', s.heap.StaysIn h' → Q (.int (signsF many lk lt kk tt) t) { s with heap := h', toks := tk' }) :
    wpAny (model PR w) (ktrTop dp un gd cn cs L a ccd cl outer) (call (.ref 77) [.int many tm, .ref la, .ref wd]) Q E s := by
  obtain ⟨sh, sg, sd, sk, so⟩ := s
  dsimp only at F ht hl k
  refine wpAny_call ?_
  refine' enterS (hid := []) (by assumption) (by assumption) News.nil (by assumption) (by assumption) ?kA ?kF ?kK ?k6 ?k7 ?k8 ?k9 ?kB ?_ ?c2 ?c3 ?c4 ?c5
  (case kA => exact rfl); (case kF => exact rfl); (case kK => assumption); (case k6 => k_dflt k_is); (case k7 => k_dflt k_is); (case k8 => ktr_room); (case k9 => exact BindsTo.of_eq rfl); (case kB => exact locs rfl); (case c2 => exact rfl); (case c3 => exact rfl); (case c4 => exact rfl); (case c5 => decide)
  intro g L' h₁ tk₁ hkeep F' N' B' X' T'
  have hcov : ∀ b o, sh.get? b = some o → g.get? b = some o := fun b o e => hkeep b o e (by simp)
  have ht' : IsTup g wd #[.str kk tk, .str tt tl, v2, v3] := ht.keeps hcov
  have hl' : IsTup g la #[.str lk tk1, .str lt tl1, v4, v5] := hl.keeps hcov
  clear B F X T ht hk hl hkeep
  dsimp only
  refine anyQF fun Q9 hQ9 => ?_
  have k9 : ∀ x, x = signsF many lk lt kk tt → ∀ t h' tk', g.StaysIn h' → Q9 (.ret (.int x t)) ⟨h', sg, sd, tk', so⟩ := fun x e t h' tk' st => by subst e; exact hQ9 _ _ (k t h' tk' fun b o e => st b o (hcov b o e))
  clear hQ9 k hcov
  have z0 : StopAt "call ref" := .mk
  have z1 : StopAt "compareOp In str ref" := .mk
  k_steps
  all_goals (repeat' (first
    | (unfold Halt
       refine' C_ends ?kB ?kF ?kX ?kT ?kk ?kd ?ku ?kt ?_; (case kt => exact Fr.tup (by assumption) (by assumption))
       (case kB => k_asm); (case kF => k_asm); (case kX => k_asm); (case kT => k_asm); (case kk => first | exact rfl | assumption); (case kd => ktr_room); (case ku => ktr_units)
       intro h' tk' st'; (have F' := stayF (by k_asm) st'); (have N' := stayN (by k_asm) st'); (try dsimp only); (try k_sweep); clear st'
       k_steps)
    | (unfold Halt
       refine in_tuple_strs (kun_topT (by k_asm) (by k_asm) (by k_is)) (by repeat constructor) ?_
       k_steps)
    | (unfold Halt
       refine in_tuple_strs (News.isTup (by k_asm) (by k_mem)) (by repeat constructor) ?_
       k_steps)))
  all_goals (refine k9 _ ?_ _ _ _ (Fr.keep (by assumption)))
  all_goals (simp only [signsF, waitF, opKinds, closers, Bool.or_true, Bool.or_false, Bool.and_true, Bool.and_false, Bool.true_or, Bool.false_or, Bool.true_and, Bool.false_and, Bool.false_eq_true, if_true, if_false, *]; done)

set_option maxHeartbeats 4000000 in
theorem C_wait (B : Below A₀ base outer h₀) (F : Fr h₀ L s.heap m) (X : (KK w.params).In h₀) (T : Top p loose mean mg mb h₀) (hk : cs.kind = .function) (hd : dp + 2 < recursionLimit) (hu : un + 20 < cLine)
    (hl : IsTup s.heap la #[.str lk tk1, .str lt tl1, v4, v5]) (ht : IsTup s.heap wd #[.str kk tk, .str tt tl, v2, v3])
    (k : ∀ t h' tk', s.heap.StaysIn h' → Q (.int (waitF many lk lt kk tt) t) { s with heap := h', toks := tk' }) :
    wpAny (model PR w) (ktrTop dp un gd cn cs L a ccd cl outer) (call (.ref 150) [.int many tm, .ref la, .ref wd]) Q E s := by
  obtain ⟨sh, sg, sd, sk, so⟩ := s
  dsimp only at F ht hl k
  refine wpAny_call ?_
  refine' enterS (hid := []) (by assumption) (by assumption) News.nil (by assumption) (by assumption) ?kA ?kF ?kK ?k6 ?k7 ?k8 ?k9 ?kB ?_ ?c2 ?c3 ?c4 ?c5
  (case kA => exact rfl); (case kF => exact rfl); (case kK => assumption); (case k6 => k_dflt k_is); (case k7 => k_dflt k_is); (case k8 => ktr_room); (case k9 => exact BindsTo.of_eq rfl); (case kB => exact locs rfl); (case c2 => exact rfl); (case c3 => exact rfl); (case c4 => exact rfl); (case c5 => decide)
  intro g L' h₁ tk₁ hkeep F' N' B' X' T'
  have hcov : ∀ b o, sh.get? b = some o → g.get? b = some o := fun b o e => hkeep b o e (by simp)
  have ht' : IsTup g wd #[.str kk tk, .str tt tl, v2, v3] := ht.keeps hcov
  have hl' : IsTup g la #[.str lk tk1, .str lt tl1, v4, v5] := hl.keeps hcov
  clear B F X T ht hk hl hkeep
  dsimp only
  refine anyQF fun Q9 hQ9 => ?_
  have k9 : ∀ x, x = waitF many lk lt kk tt → ∀ t h' tk', g.StaysIn h' → Q9 (.ret (.int x t)) ⟨h', sg, sd, tk', so⟩ := fun x e t h' tk' st => by subst e; exact hQ9 _ _ (k t h' tk' fun b o e => st b o (hcov b o e))
  clear hQ9 k hcov
  have z0 : StopAt "call ref" := .mk
  have z1 : StopAt "eval List" := .mk
  k_steps
  all_goals (repeat' (first
    | (unfold Halt
       refine' C_isop ?kB ?kF ?kX ?kT ?kk ?kd ?ku ?kt ?_; (case kt => exact Fr.tup (by assumption) (by assumption))
       (case kB => k_asm); (case kF => k_asm); (case kX => k_asm); (case kT => k_asm); (case kk => first | exact rfl | assumption); (case kd => ktr_room); (case ku => ktr_units)
       intro h' tk' st'; (have F' := stayF (by k_asm) st'); (have N' := stayN (by k_asm) st'); (try dsimp only); (try k_sweep); clear st'
       k_steps)
    | (unfold Halt
       refine' my_strList ?kF ?kN ?kc ?kz ?_; (case kF => k_asm); (case kN => k_asm); (case kc => repeat constructor); (case kz => exact bleN rfl)
       intro l9 vs9 h9 tk9 hs9 F9 N9 l1; (try dsimp only); (try k_lt l1); (try k_sweep)
       k_steps)))
  all_goals (refine k9 _ ?_ _ _ _ (Fr.keep (by assumption)))
  all_goals (simp only [signsF, waitF, opKinds, closers, Bool.or_true, Bool.or_false, Bool.and_true, Bool.and_false, Bool.true_or, Bool.false_or, Bool.true_and, Bool.false_and, Bool.false_eq_true, if_true, if_false, *]; done)
end
end
/- part P2 -/
section
open PySem PySem.W PyProof.Rows PySem.Calls PySem.Spec

/-- all but the object at one address stays -/
def StaysBut (src : Addr) (h h' : Heap) : Prop := ∀ b o, h.get? b = some o → b ≠ src → h'.get? b = some o
abbrev pool (x y : Int) (tx ty : Tok) (n : Nat) : Obj := listOf #[.int x tx, .int y ty] n
def PoolAt (src : Addr) (h : Heap) : Prop := ∃ x y tx ty n, h.get? src = some (pool x y tx ty n) ∧ 0 ≤ x ∧ 0 ≤ y ∧ y < 2147483647


theorem fm_lo (a : Int) {b : Int} (hb : 0 < b) : 0 ≤ a.fmod b := by rw [Int.fmod_eq_emod_of_nonneg _ (Int.le_of_lt hb)]; exact Int.emod_nonneg _ (Int.ne_of_gt hb)
theorem fm_hi (a : Int) {b : Int} (hb : 0 < b) : a.fmod b < b := by rw [Int.fmod_eq_emod_of_nonneg _ (Int.le_of_lt hb)]; exact Int.emod_lt_of_pos _ hb
theorem fd_lo {a : Int} {b : Int} (ha : 0 ≤ a) (hb : 0 < b) : 0 ≤ a.fdiv b := by rw [Int.fdiv_eq_ediv_of_nonneg _ (Int.le_of_lt hb)]; exact Int.ediv_nonneg ha (Int.le_of_lt hb)
theorem sq_ok (a : Int) : IntMulOk (a.fmod 2147483647) (a.fmod 2147483647) :=
  IntMulOk.of_left (intBits_le_64 (by have := fm_lo a (b := 2147483647) (by decide); omega) (by have := fm_hi a (b := 2147483647) (by decide); omega))
section
variable {w : World} {dp un : Nat} {gd : Option (List Code)} {cn : Str} {cs : Scope} {a : Addr} {ccd : Value} {cl : List (Str × Addr)} {outer : List Env} {A₀ : Around} {base h₀ : Heap} {L : Addr} {m : Str → Option Value} {s : Shared} {Q E : Value → Shared → Prop}
    {p : Program} {loose : List Str} {mean : ExcName → Option Value} {mg mb : Str → Option Value} {src : Addr} {x y top : Int} {tx ty tt : Tok} {n : Nat}

set_option maxHeartbeats 4000000 in
theorem C_take (B : Below A₀ base outer h₀) (F : Fr h₀ L s.heap m) (X : (KK w.params).In h₀) (T : Top p loose mean mg mb h₀) (hk : cs.kind = .function) (hd : dp + 1 < recursionLimit) (hu : un + 10 < cLine)
    (N : News h₀ L s.heap [(src, pool x y tx ty n)]) (hx : 0 ≤ x) (hy : 0 ≤ y) (hy2 : y < 2147483647) (ht : 0 < top) (ht2 : top ≤ 100)
    (k : ∀ v t h' tk', 0 ≤ v → v < top → StaysBut src s.heap h' → PoolAt src h' → Q (.int v t) { s with heap := h', toks := tk' }) :
    wpAny (model PR w) (ktrTop dp un gd cn cs L a ccd cl outer) (call (.ref 122) [.ref src, .int top tt]) Q E s := by
  obtain ⟨sh, sg, sd, sk, so⟩ := s
  dsimp only at F N k
  refine wpAny_call ?_
  refine' enterS (by assumption) (by assumption) (by assumption) (by assumption) (by assumption) ?kA ?kF ?kK ?k6 ?k7 ?k8 ?k9 ?kB ?_ ?c2 ?c3 ?c4 ?c5
  (case kA => exact rfl); (case kF => exact rfl); (case kK => assumption); (case k6 => k_dflt k_is); (case k7 => k_dflt k_is); (case k8 => ktr_room); (case k9 => exact BindsTo.of_eq rfl); (case kB => exact locs rfl); (case c2 => exact rfl); (case c3 => exact rfl); (case c4 => exact rfl); (case c5 => decide)
  intro g L' h₁ tk₁ hkeep F' N' B' X' T'
  dsimp only
  refine anyQF fun Q9 hQ9 => ?_
  have k9 : ∀ v t h' tk' x y tx ty n, 0 ≤ v → v < top → g.StaysIn h' → News g L' h' [(src, pool x y tx ty n)] → 0 ≤ x → 0 ≤ y → y < 2147483647 → Q9 (.ret (.int v t)) ⟨h', sg, sd, tk', so⟩ := fun v t h' tk' x y tx ty n h1 h2 st N9 hx hy hy2 =>
    hQ9 _ _ (k v t h' tk' h1 h2 (fun b o e ne => st b o (hkeep b o e (by simp [ne]))) ⟨x, y, tx, ty, n, News.get N9 (.head _), hx, hy, hy2⟩)
  clear B F X T N hk k hQ9 hkeep
  have z1 : StopAt "binaryOp Mult int int" := .mk
  k_steps
  all_goals (repeat' (first
    | (unfold Halt
       refine mul_int (hm := sq_ok _) ?_
       (try dsimp only)
       k_steps)
    | (unfold Halt
       refine mul_int ?_
       (try dsimp only)
       k_steps)))
  all_goals (refine k9 _ _ _ _ _ _ _ _ _ (fm_lo _ ht) (fm_hi _ ht) (Fr.keep (by assumption)) (by assumption) ?_ ?_ ?_)
  all_goals first | exact fd_lo hx ht | exact hx | exact hy | exact hy2 | exact fm_lo _ (by decide) | exact fm_hi _ (by decide)
end
end
/- part P3 -/
section
open PySem PySem.W PyProof.Rows PySem.Calls PySem.Spec

theorem butF {h₀ h h' : Heap} {L src : Addr} {m : Str → Option Value} {o : Obj} (F : Fr h₀ L h m) (N : News h₀ L h [(src, o)]) (st : StaysBut src h h') : Fr h₀ L h' m := by
  obtain ⟨_, n1, n2⟩ := N _ (.head _)
  obtain ⟨oL, es, ep, hL, r⟩ := F.ns
  exact ⟨⟨oL, es, ep, st _ _ hL (fun e => n1 e.symm), r⟩, fun b o e => st b o (F.keep b o e) (fun q => by rw [q] at e; rw [n2] at e; cases e), F.above⟩
theorem butN {h₀ h h' : Heap} {L src : Addr} {o o' : Obj} {news news' : List (Addr × Obj)} (U : Upd src o o' news news') (N : News h₀ L h news) (st : StaysBut src h h') (ho : h'.get? src = some o') : News h₀ L h' news' := by
  obtain ⟨pre, post, rfl, rfl, a, b⟩ := U.split
  intro q hq
  rcases List.mem_append.mp hq with hq | hq
  · have z := N q (List.mem_append.mpr (.inl hq)); exact ⟨st _ _ z.1 (a q hq), z.2⟩
  · rcases List.mem_cons.mp hq with rfl | hq
    · exact ⟨ho, (N (src, o) (by simp)).2⟩
    · have z := N q (List.mem_append.mpr (.inr (.tail _ hq))); exact ⟨st _ _ z.1 (b q hq), z.2⟩
theorem newsOne {h₀ h : Heap} {L src : Addr} {o o' : Obj} {news news' : List (Addr × Obj)} (U : Upd src o o' news news') (N : News h₀ L h news) : News h₀ L h [(src, o)] := by
  obtain ⟨pre, post, rfl, rfl, a, b⟩ := U.split
  intro q hq
  rw [List.mem_singleton.mp hq]
  exact N (src, o) (by simp)

section
variable {w : World} {dp un : Nat} {gd : Option (List Code)} {cn : Str} {cs : Scope} {a : Addr} {ccd : Value} {cl : List (Str × Addr)} {outer : List Env} {A₀ : Around} {base h₀ : Heap} {L : Addr} {m : Str → Option Value} {s : Shared} {Q E : Value → Shared → Prop}
    {p : Program} {loose : List Str} {mean : ExcName → Option Value} {mg mb : Str → Option Value} {src : Addr} {x y top : Int} {tx ty tt : Tok} {n : Nat} {news : List (Addr × Obj)} {news' : Obj → List (Addr × Obj)}

/-- a draw in a walk: the ledger's list at src is another list of two ints -/
theorem U_take (B : Below A₀ base outer h₀) (F : Fr h₀ L s.heap m) (X : (KK w.params).In h₀) (T : Top p loose mean mg mb h₀) (hk : cs.kind = .function) (hd : dp + 1 < recursionLimit) (hu : un + 10 < cLine)
    (N : News h₀ L s.heap news) (hx : 0 ≤ x) (hy : 0 ≤ y) (hy2 : y < 2147483647) (ht : 0 < top) (ht2 : top ≤ 100) (U : ∀ o', Upd src (pool x y tx ty n) o' news (news' o'))
    (k : ∀ v t h' tk' x' y' tx' ty' n', 0 ≤ v → v < top → 0 ≤ x' → 0 ≤ y' → y' < 2147483647 → Fr h₀ L h' m → News h₀ L h' (news' (pool x' y' tx' ty' n')) → Q (.int v t) { s with heap := h', toks := tk' }) :
    wpAny (model PR w) (ktrTop dp un gd cn cs L a ccd cl outer) (call (.ref 122) [.ref src, .int top tt]) Q E s := by
  have N1 := newsOne (U default) N
  refine C_take B F X T hk hd hu N1 hx hy hy2 ht ht2 fun v t h' tk' v0 v1 st P => ?_
  obtain ⟨x', y', tx', ty', n', ho, p1, p2, p3⟩ := P
  exact k v t h' tk' x' y' tx' ty' n' v0 v1 p1 p2 p3 (butF F N1 st) (butN (U _) N st ho)
end

theorem my_item {prog : Program} {w : World} {A : Around} {E : Value → Shared → Prop} {s : Shared} {value slice : PySem.Expr} {l : Addr} {vs : List Value} {k : Int} {u : Tok} {Q : Value → Shared → Prop}
    (hl : s.heap.IsList l vs.toArray) (h0 : 0 ≤ k) (hhi : k < (vs.length : Int)) (hln : vs.length ≤ 100) (h : ∀ v, vs[k.toNat]? = some v → Q v s)
    (hs : subscripted slice false (.ref l) (.int k u) = operate [.ref l, .int k u] (getItem (.ref l) (.int k u)) := by with_unfolding_all rfl) :
    wpAny (model prog w) A (subscriptTail value slice (.ref l) (.int k u)) Q E s := by
  have hlt : k.toNat < vs.length := by omega
  exact tail_any hl.typeIs slot_list_getitem.lookup (wpAny_getItem_list hl h0 (by omega) (by simpa using List.getElem?_eq_getElem hlt) (h _ (List.getElem?_eq_getElem hlt))) hs

theorem my_len {prog : Program} {w : World} {A : Around} {E : Value → Shared → Prop} {s : Shared} {l : Addr} {vs : List Value} {Q : Value → Shared → Prop}
    (hl : s.heap.IsList l vs.toArray) (hln : vs.length ≤ 100) (h : ∀ t tk', Q (.int (vs.length : Int) t) { s with toks := tk' }) : wpAny (model prog w) A (call (.builtin "len") [.ref l]) Q E s :=
  call_len_list hl (by rw [List.size_toArray]; omega) (by rw [List.size_toArray]; exact h _ _)

section
variable {w : World} {dp un : Nat} {gd : Option (List Code)} {cn : Str} {cs : Scope} {a : Addr} {ccd : Value} {cl : List (Str × Addr)} {outer : List Env} {A₀ : Around} {base h₀ : Heap} {L : Addr} {m : Str → Option Value} {s : Shared} {Q E : Value → Shared → Prop}
    {p : Program} {loose : List Str} {mean : ExcName → Option Value} {mg mb : Str → Option Value} {src l : Addr} {x y top : Int} {tx ty tt : Tok} {n : Nat} {vs : List Value}
set_option maxHeartbeats 4000000 in
theorem C_one (B : Below A₀ base outer h₀) (F : Fr h₀ L s.heap m) (X : (KK w.params).In h₀) (T : Top p loose mean mg mb h₀) (hk : cs.kind = .function) (hd : dp + 2 < recursionLimit) (hu : un + 20 < cLine)
    (N : News h₀ L s.heap [(src, pool x y tx ty n)]) (hx : 0 ≤ x) (hy : 0 ≤ y) (hy2 : y < 2147483647) (hl : s.heap.IsList l vs.toArray) (hsl : l ≠ src) (hn : 0 < vs.length) (hn2 : vs.length ≤ 100)
    (k : ∀ v h' tk', v ∈ vs → StaysBut src s.heap h' → PoolAt src h' → Q v { s with heap := h', toks := tk' }) :
    wpAny (model PR w) (ktrTop dp un gd cn cs L a ccd cl outer) (call (.ref 129) [.ref src, .ref l]) Q E s := by
  obtain ⟨sh, sg, sd, sk, so⟩ := s
  dsimp only at F N k hl
  refine wpAny_call ?_
  refine' enterS (by assumption) (by assumption) (by assumption) (by assumption) (by assumption) ?kA ?kF ?kK ?k6 ?k7 ?k8 ?k9 ?kB ?_ ?c2 ?c3 ?c4 ?c5
  (case kA => exact rfl); (case kF => exact rfl); (case kK => assumption); (case k6 => k_dflt k_is); (case k7 => k_dflt k_is); (case k8 => ktr_room); (case k9 => exact BindsTo.of_eq rfl); (case kB => exact locs rfl); (case c2 => exact rfl); (case c3 => exact rfl); (case c4 => exact rfl); (case c5 => decide)
  intro g L' h₁ tk₁ hkeep F' N' B' X' T'
  have hl' : g.IsList l vs.toArray := hl.at fun o e => hkeep l o e (by simp [hsl])
  dsimp only
  refine anyQF fun Q9 hQ9 => ?_
  have k9 : ∀ v h' tk' x y tx ty n, v ∈ vs → g.StaysIn h' → News g L' h' [(src, pool x y tx ty n)] → 0 ≤ x → 0 ≤ y → y < 2147483647 → Q9 (.ret v) ⟨h', sg, sd, tk', so⟩ := fun v h' tk' x y tx ty n hv st N9 hx hy hy2 =>
    hQ9 _ _ (k v h' tk' hv (fun b o e ne => st b o (hkeep b o e (by simp [ne]))) ⟨x, y, tx, ty, n, News.get N9 (.head _), hx, hy, hy2⟩)
  clear B F X T N hk k hQ9 hkeep hl
  have z1 : StopAt "call ref" := .mk
  have z2 : StopAt "call builtin:len" := .mk
  have z3 : StopAt "subscriptTail" := .mk
  k_steps
  unfold Halt
  refine my_len (Fr.lst (by assumption) (by assumption)) hn2 ?_
  intro t' tk'; (try dsimp only)
  k_steps
  unfold Halt
  have t0 : (0 : Int) < (vs.length : Int) := Int.ofNat_lt.mpr hn
  have t1 : (vs.length : Int) ≤ 100 := Int.ofNat_le.mpr hn2
  refine' U_take ?kB ?kF ?kX ?kT ?kk ?kd ?ku ?kN ?x0 ?y0 ?y1 t0 t1 ?U ?_
  (case kN => k_asm); (case U => intro o'; k_upd); (case x0 => assumption); (case y0 => assumption); (case y1 => assumption)
  (case kB => k_asm); (case kF => k_asm); (case kX => k_asm); (case kT => k_asm); (case kk => first | exact rfl | assumption); (case kd => ktr_room); (case ku => ktr_units)
  intro v' t' h' tk' x' y' tx' ty' n' v0' v1' x0' y0' y1' F' N'; (try dsimp only at N'); (try dsimp only); (try k_sweep)
  k_steps
  unfold Halt
  refine' my_item ?kl ?k0 ?k1 ?k2 ?_ ?k6; (case kl => exact Fr.lst (by assumption) (by assumption)); (case k0 => assumption); (case k1 => assumption); (case k2 => assumption); (case k6 => with_unfolding_all rfl)
  intro v' hv'
  k_steps
  exact k9 _ _ _ _ _ _ _ _ (List.mem_of_getElem? (by assumption)) (Fr.keep (by assumption)) (by assumption) (by assumption) (by assumption) (by assumption)

theorem strs_mem {vs : List Value} {ys : List Str} (h : StrsAre vs ys) {v : Value} (hv : v ∈ vs) : ∃ y t, v = .str y t ∧ y ∈ ys := by
  induction h with
  | nil => cases hv
  | cons =>
    rename_i ih
    rcases List.mem_cons.mp hv with rfl | hv
    · exact ⟨_, _, rfl, .head _⟩
    · obtain ⟨y, t, e, m⟩ := ih hv
      exact ⟨y, t, e, .tail _ m⟩

theorem U_one {ys : List Str} {news : List (Addr × Obj)} {news' : Obj → List (Addr × Obj)} (B : Below A₀ base outer h₀) (F : Fr h₀ L s.heap m) (X : (KK w.params).In h₀) (T : Top p loose mean mg mb h₀) (hk : cs.kind = .function) (hd : dp + 2 < recursionLimit) (hu : un + 20 < cLine)
    (N : News h₀ L s.heap news) (hx : 0 ≤ x) (hy : 0 ≤ y) (hy2 : y < 2147483647) (U : ∀ o', Upd src (pool x y tx ty n) o' news (news' o'))
    (hl : s.heap.IsList l vs.toArray) (hi : StrsAre vs ys) (hsl : l ≠ src) (hn : 0 < ys.length) (hn2 : ys.length ≤ 100)
    (k : ∀ (c : Str) t h' tk' x' y' tx' ty' n', c ∈ ys → 0 ≤ x' → 0 ≤ y' → y' < 2147483647 → Fr h₀ L h' m → News h₀ L h' (news' (pool x' y' tx' ty' n')) → Q (.str c t) { s with heap := h', toks := tk' }) :
    wpAny (model PR w) (ktrTop dp un gd cn cs L a ccd cl outer) (call (.ref 129) [.ref src, .ref l]) Q E s := by
  have N1 := newsOne (U default) N
  refine C_one B F X T hk hd hu N1 hx hy hy2 hl hsl (by rw [strs_len hi]; exact hn) (by rw [strs_len hi]; exact hn2) fun v h' tk' hv st P => ?_
  obtain ⟨x', y', tx', ty', n', ho, p1, p2, p3⟩ := P
  obtain ⟨c, t, rfl, hc⟩ := strs_mem hi hv
  exact k c t h' tk' x' y' tx' ty' n' hc p1 p2 p3 (butF F N1 st) (butN (U _) N st ho)
end
end
/- part P4 -/
section
open PySem PySem.W PyProof.Rows PySem.Calls PySem.Spec

def kinds9 : List Str := [Str.ofString "name", Str.ofString "int", Str.ofString "rune", Str.ofString "text", Str.ofString "sign", Str.ofString "sign", Str.ofString "sign", Str.ofString "sign", Str.ofString "keyword"]
def signs20 : List Str := [Str.ofString "(", Str.ofString ")", Str.ofString "[", Str.ofString "]", Str.ofString "{", Str.ofString "}", Str.ofString "!", Str.ofString "*", Str.ofString "<-", Str.ofString "+", Str.ofString "-", Str.ofString "^", Str.ofString "&", Str.ofString ".", Str.ofString "...", Str.ofString ",", Str.ofString "==", Str.ofString ":=", Str.ofString "(", Str.ofString "*"]
def kws8 : List Str := [Str.ofString "func", Str.ofString "chan", Str.ofString "map", Str.ofString "struct", Str.ofString "interface", Str.ofString "if", Str.ofString "return", Str.ofString "range"]
def IsWord (k t : Str) : Prop := k ∈ kinds9 ∧ (((k == Str.ofString "sign") = true ∧ t ∈ signs20) ∨ ((k == Str.ofString "sign") = false ∧ (k == Str.ofString "keyword") = true ∧ t ∈ kws8) ∨ ((k == Str.ofString "sign") = false ∧ (k == Str.ofString "keyword") = false ∧ t = Str.ofString "a"))


abbrev tup4 (a b c d : Value) : Obj := { cls := .type "tuple", data := .seq #[a, b, c, d] }
theorem freshS {h g h' : Heap} {L : Addr} {hid news : List (Addr × Obj)} {D : Addr} {o : Obj} (hkeep : ∀ b o, h.get? b = some o → b ∉ hid.map (·.1) → g.get? b = some o) (N : News g L h' news) (hD : (D, o) ∈ news) (hn : D ∉ hid.map (·.1)) : h.get? D = none := by
  cases q : h.get? D with
  | none => rfl
  | some o' => have := hkeep D o' q hn; rw [(N _ hD).2.2] at this; cases this
section
variable {w : World} {dp un : Nat} {gd : Option (List Code)} {cn : Str} {cs : Scope} {a : Addr} {ccd : Value} {cl : List (Str × Addr)} {outer : List Env} {A₀ : Around} {base h₀ : Heap} {L : Addr} {m : Str → Option Value} {s : Shared} {Q E : Value → Shared → Prop}
    {p : Program} {loose : List Str} {mean : ExcName → Option Value} {mg mb : Str → Option Value} {src l : Addr} {x y spot : Int} {tx ty tt : Tok} {n : Nat} {vs : List Value}
set_option maxHeartbeats 4000000 in
theorem C_word (B : Below A₀ base outer h₀) (F : Fr h₀ L s.heap m) (X : (KK w.params).In h₀) (T : Top p loose mean mg mb h₀) (hk : cs.kind = .function) (hd : dp + 3 < recursionLimit) (hu : un + 30 < cLine)
    (N : News h₀ L s.heap [(src, pool x y tx ty n)]) (hx : 0 ≤ x) (hy : 0 ≤ y) (hy2 : y < 2147483647)
    (k : ∀ D c t tc t1 t2 h' tk', IsWord c t → StaysBut src s.heap h' → PoolAt src h' → s.heap.get? D = none → IsTup h' D #[.str c tc, .str t t1, .int spot t2, .none] → Q (.ref D) { s with heap := h', toks := tk' }) :
    wpAny (model PR w) (ktrTop dp un gd cn cs L a ccd cl outer) (call (.ref 136) [.ref src, .int spot tt]) Q E s := by
  obtain ⟨sh, sg, sd, sk, so⟩ := s
  dsimp only at F N k
  refine wpAny_call ?_
  refine' enterS (by assumption) (by assumption) (by assumption) (by assumption) (by assumption) ?kA ?kF ?kK ?k6 ?k7 ?k8 ?k9 ?kB ?_ ?c2 ?c3 ?c4 ?c5
  (case kA => exact rfl); (case kF => exact rfl); (case kK => assumption); (case k6 => k_dflt k_is); (case k7 => k_dflt k_is); (case k8 => ktr_room); (case k9 => exact BindsTo.of_eq rfl); (case kB => exact locs rfl); (case c2 => exact rfl); (case c3 => exact rfl); (case c4 => exact rfl); (case c5 => decide)
  intro g L' h₁ tk₁ hkeep F' N' B' X' T'
  dsimp only
  refine anyQF fun Q9 hQ9 => ?_
  have k9 : ∀ D c t tc t1 t2 h' tk' x y tx ty n nw, IsWord c t → g.StaysIn h' → News g L' h' ((D, tup4 (.str c tc) (.str t t1) (.int spot t2) .none) :: nw) → (src, pool x y tx ty n) ∈ nw → D ≠ src → 0 ≤ x → 0 ≤ y → y < 2147483647 → Q9 (.ret (.ref D)) ⟨h', sg, sd, tk', so⟩ := fun D c t tc t1 t2 h' tk' x y tx ty n nw hw st N9 hm ne hx hy hy2 =>
    hQ9 _ _ (k D c t tc t1 t2 h' tk' hw (fun b o e ne => st b o (hkeep b o e (by simp [ne]))) ⟨x, y, tx, ty, n, News.get N9 (.tail _ hm), hx, hy, hy2⟩ (freshS hkeep N9 (.head _) (by simpa using ne)) (News.isTup N9 (.head _)))
  clear B F X T N hk k hQ9 hkeep
  have z1 : StopAt "call ref" := .mk
  have z2 : StopAt "eval List" := .mk
  have z3 : StopAt "binaryOp Add ref ref" := .mk
  k_steps
  all_goals (repeat' (first
    | (unfold Halt
       refine' my_strList ?kF ?kN ?kc ?kz ?_; (case kF => k_asm); (case kN => k_asm); (case kc => repeat constructor); (case kz => exact bleN rfl)
       intro l9 vs9 h9 tk9 hs9 F9 N9 l1; (try dsimp only); (try k_lt l1); (try k_sweep)
       k_steps)
    | (unfold Halt
       refine' my_addS ?kF ?kN ?kl ?kb ?ki ?kj ?kz ?_; (case kF => k_asm); (case kN => k_asm); (case kl => exact News.isList (by k_asm) (by k_mem)); (case kb => exact News.isList (by k_asm) (by k_mem)); (case ki => assumption); (case kj => assumption); (case kz => exact bleN rfl)
       intro D9 zs9 h9 hs9 F9 N9 l1; (try dsimp only at hs9); (try k_lt l1); (try dsimp only); (try k_sweep)
       k_steps)
    | (unfold Halt
       refine' U_one ?kB ?kF ?kX ?kT ?kk ?kd ?ku ?kN ?x0 ?y0 ?y1 ?U ?kl ?ki ?kne ?kn0 ?kn1 ?_; (case kN => k_asm); (case U => intro o'; k_upd); (case kl => exact News.isList (by k_asm) (by k_mem)); (case ki => assumption); (case kne => k_ne); (case kn0 => exact bleN rfl); (case kn1 => exact bleN rfl)
       (case x0 => assumption); (case y0 => assumption); (case y1 => assumption)
       (case kB => k_asm); (case kF => k_asm); (case kX => k_asm); (case kT => k_asm); (case kk => first | exact rfl | assumption); (case kd => ktr_room); (case ku => ktr_units)
       intro c' t' h' tk' x' y' tx' ty' n' hc' x0' y0' y1' F' N'; (try dsimp only at N'); (try dsimp only); (try k_sweep)
       k_steps)))
  all_goals (
    refine' k9 _ _ _ _ _ _ _ _ _ _ _ _ _ _ ?word ?st ?N ?m ?ne ?x0 ?y0 ?y1
    case N => assumption
    case m => repeat (first | exact List.Mem.head _ | refine List.Mem.tail _ ?_)
    case ne => k_ne
    case st => exact Fr.keep (by assumption)
    case x0 => assumption
    case y0 => assumption
    case y1 => assumption
    case word => exact ⟨by assumption, by first | exact .inl ⟨by assumption, by assumption⟩ | exact .inr (.inl ⟨by assumption, by assumption, by assumption⟩) | exact .inr (.inr ⟨by assumption, by assumption, rfl⟩)⟩)
end
end
/- part P5 -/
section
open PySem PySem.W PyProof.Rows PySem.Calls PySem.Spec
section
variable {prog : Program} {w : World} {A : Around} {E : Value → Shared → Prop} {s : Shared} {env : Env} {h₀ : Heap} {x : Str} {body : List Stmt} {Q : Flow → Shared → Prop}

def TurnV (h₀ : Heap) (L I : Addr) (oI : Obj) (Jn : (Str → Option Value) → List (Addr × Obj) → Prop) (s₁ : Shared) (Q : Flow → Shared → Prop) (f : Flow) (s₂ : Shared) : Prop :=
  match f with
  | .ret v => Q (.ret v) s₂
  | .brk => Q .next s₂
  | _ => ∃ h' tk' m' news₂, s₂ = { s₁ with heap := h', toks := tk' } ∧ Fr h₀ L h' m' ∧ News h₀ L h' ((I, oI) :: news₂) ∧ (∀ p ∈ news₂, p.1 ≠ I) ∧ Jn m' news₂

theorem iterV {l : Addr} {vs : List Value} {m₀ : Str → Option Value} {news : List (Addr × Obj)} (J : Nat → (Str → Option Value) → List (Addr × Obj) → Prop)
    (hh : A.handled = none) (hl : h₀.IsList l vs.toArray) (F : Fr h₀ env.locals s.heap m₀) (N : News h₀ env.locals s.heap news) (hj : J 0 m₀ news)
    (turn : ∀ i v m₁ news₁ h tk I oI, vs[i]? = some v → J i m₁ news₁ → (∀ p ∈ news₁, p.1 ≠ I) → Fr h₀ env.locals h (fun y => if y = x then some v else m₁ y) → News h₀ env.locals h ((I, oI) :: news₁) →
      wpAny (model prog w) A (execs body env) (TurnV h₀ env.locals I oI (J (i + 1)) { s with heap := h, toks := tk } Q) E { s with heap := h, toks := tk })
    (done : ∀ m₁ news₁ h tk, J vs.length m₁ news₁ → Fr h₀ env.locals h m₁ → News h₀ env.locals h news₁ → Q .next { s with heap := h, toks := tk }) :
    wpAny (model prog w) A (pyIter (.ref l)) (fun it s₂ => LoopAtV prog w A h₀ env x body Q E it s₂) E s := by
  have hls : s.heap.IsList l vs.toArray := hl.at fun o e => F.keep l o e
  obtain ⟨ol, hol, _⟩ := id hl
  have hlt : l < h₀.objs.size := Heap.lt_size hol
  have hne : l ≠ s.heap.objs.size := Nat.ne_of_lt (Nat.lt_trans (Nat.lt_of_lt_of_le hlt F.above) F.ns.lt)
  refine wpAny_pyIter_list hls ?_
  have W := Walks.list (prog := prog) (w := w) hh s.heap.objs.size l hne vs.toArray
  have hlen : vs.toArray.size = vs.length := by simp
  rw [hlen] at W
  refine ⟨_, _, _, vs.length, _, _, m₀, news, J, rfl, W, ?_, ?_, ?_, ⟨⟨_, Heap.get?_push_size _ rfl, rfl, rfl⟩, hls.at fun o e => Heap.get?_push_of_some _ e⟩, F.push _, (fun p hp => ⟨Heap.get?_push_of_some _ (N p hp).1, (N p hp).2⟩), hj, ?_, ?_⟩
  · intro hm
    rcases List.mem_cons.mp hm with e | hm
    · exact absurd F.ns.lt (e ▸ Nat.lt_irrefl _)
    · exact absurd (Nat.lt_of_lt_of_le hlt F.above) ((List.mem_singleton.mp hm) ▸ Nat.lt_irrefl _)
  · intro b hb
    rw [List.mem_singleton.mp hb]
    exact next_is_new F
  · intro p hp hI
    exact absurd (Heap.lt_size (N p hp).1) ((List.mem_singleton.mp hI) ▸ Nat.lt_irrefl _)
  · rintro i v m₁ news₁ s₁ own ⟨hh', tk', rfl⟩ hin hP hJ hoff hown hget hall hSt F₁ N₁
    obtain ⟨⟨oI, hoI, _⟩, _⟩ := hSt
    have hIn : h₀.get? s.heap.objs.size = none := next_is_new F
    have hmem := hall s.heap.objs.size (by simp) hIn oI hoI
    have hP' : vs[i]? = some v := by simpa using hP
    have N₂ : News h₀ env.locals hh' ((s.heap.objs.size, oI) :: news₁) := fun p hp => by
      rcases List.mem_cons.mp hp with rfl | hp
      · exact N₁ _ (List.mem_append_left _ hmem)
      · exact N₁ p (List.mem_append_right _ hp)
    have hoff' : ∀ p ∈ news₁, p.1 ≠ s.heap.objs.size := fun p hp e => hoff p hp (by rw [e]; simp)
    refine wpAny_mono (turn i v m₁ news₁ hh' tk' s.heap.objs.size oI hP' hJ hoff' F₁ N₂) (fun f s₂ q => ?_) fun _ _ e => e
    have fin : (∃ h' tk' m' news₂, s₂ = { ({ s with heap := hh', toks := tk' } : Shared) with heap := h', toks := tk' } ∧ Fr h₀ env.locals h' m' ∧ News h₀ env.locals h' ((s.heap.objs.size, oI) :: news₂) ∧ (∀ p ∈ news₂, p.1 ≠ s.heap.objs.size) ∧ J (i + 1) m' news₂) →
        LoopStepU h₀ env.locals [s.heap.objs.size] own (J (i + 1)) { s with heap := hh', toks := tk' } .next s₂ := by
      rintro ⟨h', tk, m', news₂, e, F', N', hn, hm⟩
      refine ⟨rfl, h', tk, m', news₂, e, F', fun p hp => ?_, fun p hp hq => hn p hp (List.mem_singleton.mp hq), hm⟩
      rcases List.mem_append.mp hp with hp | hp
      · have hpI : p.1 = s.heap.objs.size := by
          rcases List.mem_cons.mp (hown p hp) with h1 | h1
          · exact h1
          · have h2 := List.mem_singleton.mp h1
            have h3 := (N₁ p (List.mem_append_left _ hp)).2.2
            rw [h2, hol] at h3; cases h3
        have hpo : p = (s.heap.objs.size, oI) := by
          obtain ⟨pa, po⟩ := p
          have hpI' : pa = s.heap.objs.size := hpI
          subst hpI'
          have := hget _ hp
          rw [hoI] at this
          rw [Option.some.inj this]
        rw [hpo]; exact N' _ (.head _)
      · exact N' p (.tail _ hp)
    cases f with
    | ret v => exact .ret q
    | brk => exact .brk q
    | next => exact .next (fin q)
    | cont => exact .cont (fin q)
  · rintro h' tk m' news' F' N' _ hJ
    exact done m' news' h' tk hJ F' N'
end
end
/- part R1 -/
section
open PySem PySem.W PyProof.Rows PySem.Calls PySem.Spec
section
variable {prog : Program} {w : World} {A : Around} {E : Value → Shared → Prop} {s : Shared} {h₀ : Heap} {L l b : Addr} {m : Str → Option Value} {news : List (Addr × Obj)} {value slice : PySem.Expr} {vs ws : List Value} {ns ms : List Int} {u : Tok} {Q : Value → Shared → Prop}

theorem my_init (F : Fr h₀ L s.heap m) (N : News h₀ L s.heap news) (hl : s.heap.IsList l vs.toArray) (hi' : IntsAre vs ns) (hsz : ns.length ≤ 100)
    (h : ∀ D ws h', Fr h₀ L h' m → News h₀ L h' ((D, listOf (List.toArray ws) 0) :: news) → (∀ p ∈ news, p.1 < D) → IntsAre ws ns.dropLast → Q (.ref D) { s with heap := h' })
    (hs : subscripted slice false (.ref l) (.ref s.heap.objs.size) = operate [.ref s.heap.objs.size, .ref l] (getItem (.ref l) (.ref s.heap.objs.size))) (ht : ∀ r, letTemporaryGo value (.ref l) r = pure ()) :
    wpAny (model prog w) A (subscriptTail value slice (.ref l) (.ref s.heap.objs.size)) Q E { s with heap := s.heap.push { cls := .type "slice", data := .fields #[.none, .int (-1) u, .none] } } :=
  kmk_slice_ints (ms := ns.take (ns.length - (-(-1 : Int)).toNat)) F N hl .none (.int (-1) u) hi' (kmk_upto_neg hi' (by decide)) rfl
    (fun D ws h' F' N' l1 hI _ _ => h D ws h' F' N' l1 (by rw [List.dropLast_eq_take]; exact hI)) hs ht (kmk_sz hi' (by rw [sizeLine_eq]; omega))

theorem last_get {vs : List Value} {ns : List Int} (hi : IntsAre vs ns) (h1 : 1 ≤ ns.length) : ∃ t, vs[ns.length - 1]? = some (.int (ns.getLastD 0) t) := by
  have hne : ns ≠ [] := fun e => by rw [e] at h1; simp at h1
  have : ns[ns.length - 1]? = some (ns.getLastD 0) := by
    rw [List.getLastD_eq_getLast?, ← List.getLast?_eq_getElem?, List.getLast?_eq_some_getLast hne]; rfl
  exact hi.get _ _ this

theorem my_last (hl : s.heap.IsList l vs.toArray) (hi' : IntsAre vs ns) (h1 : 1 ≤ ns.length) (h : ∀ t, Q (.int (ns.getLastD 0) t) s)
    (hs : subscripted slice false (.ref l) (.int (-1) u) = operate [.ref l, .int (-1) u] (getItem (.ref l) (.int (-1) u))) :
    wpAny (model prog w) A (subscriptTail value slice (.ref l) (.int (-1) u)) Q E s := by
  obtain ⟨t, e⟩ := last_get hi' h1
  have hlen := hi'.length
  refine kde_neg hl (by decide) (by decide) (j := ns.length - 1) ?_ e (h t) hs
  unfold seqIndex?
  simp only [show ((-1 : Int) < 0) from by decide, if_true]
  rw [if_pos (by simp only [Bool.and_eq_true, decide_eq_true_eq]; omega)]
  congr 1; omega

theorem my_add (F : Fr h₀ L s.heap m) (N : News h₀ L s.heap news) (hl : s.heap.IsList l vs.toArray) (hb : s.heap.IsList b ws.toArray) (hi : IntsAre vs ns) (hj : IntsAre ws ms) (hsz : ns.length + ms.length ≤ 200)
    (h : ∀ D us h', Fr h₀ L h' m → News h₀ L h' ((D, listOf (List.toArray us) 0) :: news) → (∀ p ∈ news, p.1 < D) → IntsAre us (ns ++ ms) → Q (.ref D) { s with heap := h' }) :
    wpAny (model prog w) A (binaryOp .Add (.ref l) (.ref b)) Q E s :=
  add_arrays_ints F N hl hb hi hj (fun h' F' N' I => h _ _ h' F' N' (fun q hq => Heap.lt_size (N q hq).1) I) (by rw [sizeLine_eq]; omega)

theorem my_sum (hh : A.handled = none) (F : Fr h₀ L s.heap m) (N : News h₀ L s.heap news) (hl : s.heap.IsList l vs.toArray) (hi : IntsAre vs ns)
    (h : ∀ t h' tk', Fr h₀ L h' m → News h₀ L h' news → Q (.int ns.sum t) { s with heap := h', toks := tk' }) : wpAny (model prog w) A (call (.builtin "sum") [.ref l]) Q E s := by
  obtain ⟨xs, hxs⟩ := hi.allInts.items
  rw [hxs] at hl
  have hn : numsOf (intItems xs).toList = ns := by rw [← hxs]; exact hi.numsOf
  rw [nums_intItems] at hn
  refine sum_intListG hh hl fun h' tk t' hk => ?_
  rw [preSum_eq, List.take_of_length_le (by simp), hn]
  exact h t' h' tk (stayF F hk) (stayN N hk)

theorem my_lenI (hl : s.heap.IsList l vs.toArray) (hi : IntsAre vs ns) (hln : ns.length ≤ 100) (h : ∀ t tk', Q (.int (ns.length : Int) t) { s with toks := tk' }) : wpAny (model prog w) A (call (.builtin "len") [.ref l]) Q E s := by
  have := hi.length
  exact my_len hl (by omega) (by rw [this]; exact h)
end
end
/- part R2 -/
section
open PySem PySem.W PyProof.Rows PySem.Calls PySem.Spec
theorem last_ix (n : Nat) : (-1 + (n : Int)).toNat = n - 1 := by omega
theorem last_get' {vs : List Value} {ns : List Int} (hi : IntsAre vs ns) (h1 : 1 ≤ ns.length) : ∃ t, vs[ns.length - 1]? = some (.int (ns.getD (-1 + (ns.length : Int)).toNat 0) t) := by
  rw [last_ix]
  have : ns[ns.length - 1]? = some (ns.getD (ns.length - 1) 0) := by
    rw [List.getD_eq_getElem?_getD, List.getElem?_eq_getElem (by omega : ns.length - 1 < ns.length)]; rfl
  exact hi.get _ _ this
theorem ints_set {vs : List Value} {ns : List Int} (hi : IntsAre vs ns) (y : Int) (t : Tok) : ∀ j : Nat, IntsAre (vs.set j (.int y t)) (ns.set j y) := by
  induction hi with
  | nil => intro j; exact .nil
  | cons a b c ih =>
    intro j
    cases j with
    | zero => exact .cons _ _ c
    | succ j => exact .cons _ _ (ih j)
section
variable {prog : Program} {w : World} {A : Around} {E : Value → Shared → Prop} {s : Shared} {h₀ : Heap} {L l D : Addr} {m : Str → Option Value} {news : List (Addr × Obj)} {vs : List Value} {ns : List Int} {t u : Tok} {y : Int} {n : Nat}

theorem my_get1 {Q : Value → Shared → Prop} (hl : s.heap.IsList l vs.toArray) (hi' : IntsAre vs ns) (h1 : 1 ≤ ns.length) (h : ∀ t, Q (.int (ns.getD (-1 + (ns.length : Int)).toNat 0) t) s) :
    wpAny (model prog w) A (getItem (.ref l) (.int (-1) u)) Q E s := by
  obtain ⟨t, e⟩ := last_get' hi' h1
  have hlen := hi'.length
  refine kde_getNeg hl (by decide) (by decide) (j := ns.length - 1) ?_ e (h t)
  rw [PySem.seqIndex_neg (by decide) (by omega)]
  congr 1; omega

theorem my_set1 {news' : List Value → List (Addr × Obj)} {Q : Unit → Shared → Prop} (F : Fr h₀ L s.heap m) (N : News h₀ L s.heap news) (U : ∀ ws, Upd D (listOf vs.toArray n) (listOf (List.toArray ws) n) news (news' ws)) (hi : IntsAre vs ns) (h1 : 1 ≤ ns.length)
    (h : ∀ ws h', Fr h₀ L h' m → News h₀ L h' (news' ws) → IntsAre ws (ns.set (ns.length - 1) y) → Q () { s with heap := h' }) : wpAny (model prog w) A (setItem (.ref D) (.int (-1) u) (.int y t)) Q E s := by
  have hlen := hi.length
  have hs : ki_setL vs (ns.length - 1) (.int y t) = some (vs.set (ns.length - 1) (.int y t)) := by
    have gen : ∀ (l : List Value) (j : Nat) (v : Value), j < l.length → ki_setL l j v = some (l.set j v) := by
      intro l
      induction l with
      | nil => intro j v hj; exact absurd hj (Nat.not_lt_zero _)
      | cons a r ih =>
        intro j v hj
        cases j with
        | zero => rfl
        | succ j =>
          have := ih j v (Nat.lt_of_succ_lt_succ hj)
          show (match ki_setL r j v with | some q => some (a :: q) | none => none) = _
          rw [this]; rfl
    exact gen _ _ _ (by omega)
  refine ki_setNeg F N (by decide) (by decide) (j := ns.length - 1) ?_ hs (U _) fun h' F' N' => h _ h' F' N' (ints_set hi y t _)
  rw [List.size_toArray, PySem.seqIndex_neg (by decide) (by omega)]
  congr 1; omega

theorem my_pop {news' : List Value → List (Addr × Obj)} {Q : Value → Shared → Prop} (F : Fr h₀ L s.heap m) (N : News h₀ L s.heap news) (U : ∀ ws, Upd D (listOf vs.toArray n) (listOf (List.toArray ws) (n + 1)) news (news' ws)) (hi : IntsAre vs ns) (h1 : 1 ≤ ns.length) (h2 : ns.length ≤ 100)
    (h : ∀ ws t h', Fr h₀ L h' m → News h₀ L h' (news' ws) → IntsAre ws (List.take (ns.length - 1) ns) → Q (.int (ns.getLastD 0) t) { s with heap := h' }) : wpAny (model prog w) A (call (.builtin "list.pop") [.ref D]) Q E s := by
  have hlen := hi.length
  refine kpa_pop F N (U _) hi (by omega) (by rw [sizeLine_eq]; omega) fun h' t F' N' I => h _ t h' F' N' ?_
  rw [← List.dropLast_eq_take]; exact I
theorem my_append {news' : List Value → List (Addr × Obj)} {Q : Value → Shared → Prop} (F : Fr h₀ L s.heap m) (N : News h₀ L s.heap news) (U : ∀ ws, Upd D (listOf vs.toArray n) (listOf (List.toArray ws) (n + 1)) news (news' ws)) (hi : IntsAre vs ns) (h2 : ns.length ≤ 100)
    (h : ∀ ws h', Fr h₀ L h' m → News h₀ L h' (news' ws) → IntsAre ws (ns ++ [y]) → Q .none { s with heap := h' }) : wpAny (model prog w) A (call (.builtin "list.append") [.ref D, .int y t]) Q E s := by
  have hlen := hi.length
  have U' := U (vs ++ [.int y t])
  rw [show (vs ++ [Value.int y t]).toArray = vs.toArray.push (.int y t) by simp] at U'
  refine append_K F N U' (fun h' F' N' => h (vs ++ [.int y t]) h' F' N' ?_) (by rw [sizeLine_eq]; simp; omega)
  exact hi.append (.cons y t .nil)
end
end
/- part P6 -/
section
open PySem PySem.W PyProof.Rows PySem.Calls PySem.Spec

structure Wd where
  k : Str
  t : Str
  sp : Int

inductive RowsAre (h : Heap) : List Value → List Wd → Prop
  | nil : RowsAre h [] []
  | cons {D : Addr} {v : Wd} {tk tl ts : Tok} {vs : List Value} {ws : List Wd} : IsTup h D #[.str v.k tk, .str v.t tl, .int v.sp ts, .none] → RowsAre h vs ws → RowsAre h (.ref D :: vs) (v :: ws)
theorem RowsAre.keeps {h h' : Heap} {vs : List Value} {ws : List Wd} (r : RowsAre h vs ws) (st : h.StaysIn h') : RowsAre h' vs ws := by
  induction r with
  | nil => exact .nil
  | cons a _ ih => exact .cons (a.keeps st) ih
theorem RowsAre.length {h : Heap} {vs : List Value} {ws : List Wd} (r : RowsAre h vs ws) : vs.length = ws.length := by
  induction r with
  | nil => rfl
  | cons a _ ih => simp [ih]
theorem RowsAre.get {h : Heap} {vs : List Value} {ws : List Wd} (r : RowsAre h vs ws) : ∀ {i : Nat} {v : Value}, vs[i]? = some v → ∃ D x tk tl ts, v = .ref D ∧ ws[i]? = some x ∧ IsTup h D #[.str x.k tk, .str x.t tl, .int x.sp ts, .none] ∧ ws.drop i = x :: ws.drop (i + 1) := by
  induction r with
  | nil => intro i v e; simp at e
  | cons a _ ih =>
    intro i v e
    cases i with
    | zero => cases e; exact ⟨_, _, _, _, _, rfl, rfl, a, rfl⟩
    | succ i => obtain ⟨D, x, tk, tl, ts, e1, e2, e3, e4⟩ := ih (i := i) (v := v) (by simpa using e); exact ⟨D, x, tk, tl, ts, e1, by simpa using e2, e3, by simpa using e4⟩

def stepW (f : Int → Str → Str → Str → Str → Int) (lk lt : Str) (v : Wd) (st : List Int) : List Int :=
  if (openers.any (· == v.t)) = true then List.take (st.length - 1) st ++ [st.getD (-1 + (st.length : Int)).toNat 0 + (if (v.t == Str.ofString "[") = true then 1 else 0), 0]
  else if (closers.any (· == v.t)) = true then (if (1 : Int) < (st.length : Int) then List.take (st.length - 1) st else st)
  else List.take (st.length - 1) st ++ [f (st.getD (-1 + (st.length : Int)).toNat 0) lk lt v.k v.t]
def due (f : Int → Str → Str → Str → Str → Int) (mo ma : Int) : List Wd → Str → Str → List Int → Option (Bool × Int)
  | [], _, _, _ => none
  | v :: ws, lk, lt, st => if mo + 1 < ((stepW f lk lt v st).length : Int) then some (true, v.sp) else if ma < (stepW f lk lt v st).sum then some (false, v.sp) else due f mo ma ws v.k v.t (stepW f lk lt v st)

abbrev mDue (u : Option Value) (LD Aw rA : Addr) (mo ma : Int) (tmo tma : Tok) : Str → Option Value := fun y =>
  if y = Str.ofString "word" then u else if y = Str.ofString "last" then some (.ref LD) else if y = Str.ofString "waits" then some (.ref Aw) else if y = Str.ofString "rows" then some (.ref rA) else if y = Str.ofString "most_open" then some (.int mo tmo) else if y = Str.ofString "most_ahead" then some (.int ma tma) else none
abbrev tup0 (t1 t2 t3 : Tok) : Obj := { cls := .type "tuple", data := .seq #[.str (Str.ofString "end") t1, .str (Str.ofString "") t2, .int 0 t3, .none] }
section
variable {f : Int → Str → Str → Str → Str → Int} {mo ma : Int} {ws : List Wd} {i : Nat} {lk lt : Str} {st st' : List Int} {x : Wd} {X : Option (Bool × Int)}
theorem step_open (h : ([Str.ofString "(", Str.ofString "[", Str.ofString "{"].any fun y => y == x.t) = true) : stepW f lk lt x st = List.take (st.length - 1) st ++ [st.getD (-1 + (st.length : Int)).toNat 0 + (if (x.t == Str.ofString "[") = true then 1 else 0), 0] := by
  unfold stepW openers; rw [if_pos h]
theorem step_close (h : ([Str.ofString "(", Str.ofString "[", Str.ofString "{"].any fun y => y == x.t) = false) (h2 : ([Str.ofString ")", Str.ofString "]", Str.ofString "}"].any fun y => y == x.t) = true) (h3 : (1 : Int) < (st.length : Int)) : stepW f lk lt x st = List.take (st.length - 1) st := by
  unfold stepW openers closers; rw [if_neg (by rw [h]; decide), if_pos h2, if_pos h3]
theorem step_close' (h : ([Str.ofString "(", Str.ofString "[", Str.ofString "{"].any fun y => y == x.t) = false) (h2 : ([Str.ofString ")", Str.ofString "]", Str.ofString "}"].any fun y => y == x.t) = true) (h3 : ¬ (1 : Int) < (st.length : Int)) : stepW f lk lt x st = st := by
  unfold stepW openers closers; rw [if_neg (by rw [h]; decide), if_pos h2, if_neg h3]
theorem step_else (h : ([Str.ofString "(", Str.ofString "[", Str.ofString "{"].any fun y => y == x.t) = false) (h2 : ([Str.ofString ")", Str.ofString "]", Str.ofString "}"].any fun y => y == x.t) = false) : stepW f lk lt x st = List.take (st.length - 1) st ++ [f (st.getD (-1 + (st.length : Int)).toNat 0) lk lt x.k x.t] := by
  unfold stepW openers closers; rw [if_neg (by rw [h]; decide), if_neg (by rw [h2]; decide)]
theorem due1 (hdue : X = due f mo ma (ws.drop i) lk lt st) (hdrop : ws.drop i = x :: ws.drop (i + 1)) (hst : stepW f lk lt x st = st') (h : mo + 1 < (st'.length : Int)) : X = some (true, x.sp) := by
  subst hst; rw [hdue, hdrop, due, if_pos h]
theorem due2 (hdue : X = due f mo ma (ws.drop i) lk lt st) (hdrop : ws.drop i = x :: ws.drop (i + 1)) (hst : stepW f lk lt x st = st') (h : ¬ mo + 1 < (st'.length : Int)) (h' : ma < st'.sum) : X = some (false, x.sp) := by
  subst hst; rw [hdue, hdrop, due, if_neg h, if_pos h']
theorem due3 (hdue : X = due f mo ma (ws.drop i) lk lt st) (hdrop : ws.drop i = x :: ws.drop (i + 1)) (hst : stepW f lk lt x st = st') (h : ¬ mo + 1 < (st'.length : Int)) (h' : ¬ ma < st'.sum) : X = due f mo ma (ws.drop (i + 1)) x.k x.t st' := by
  subst hst; rw [hdue, hdrop, due, if_neg h, if_neg h']
end
theorem mDue_turn (u c : Option Value) (D D' LD Aw rA : Addr) (mo ma : Int) (tmo tma : Tok) (y : Str) :
    (if y = Str.ofString "last" then some (Value.ref D) else if y = Str.ofString "waits" then some (Value.ref D') else if y = Str.ofString "word" then c else mDue u LD Aw rA mo ma tmo tma y) = mDue c D D' rA mo ma tmo tma y := by
  unfold mDue
  by_cases h1 : y = Str.ofString "word"
  · subst h1
    rw [if_neg (by decide), if_neg (by decide), if_pos rfl, if_pos rfl]
  · by_cases h2 : y = Str.ofString "last"
    · subst h2; rw [if_pos rfl, if_neg (by decide), if_pos rfl]
    · by_cases h3 : y = Str.ofString "waits"
      · subst h3; rw [if_neg (by decide), if_pos rfl, if_neg (by decide), if_neg (by decide), if_pos rfl]
      · rw [if_neg h2, if_neg h3, if_neg h1, if_neg h1, if_neg h2, if_neg h3, if_neg h1, if_neg h2, if_neg h3]
theorem mDue_start (l0 D0 rA : Addr) (mo ma : Int) (tmo tma : Tok) (y : Str) :
    (if y = Str.ofString "waits" then some (Value.ref l0) else if y = Str.ofString "last" then some (Value.ref D0) else List.lookup y [(Str.ofString "most_ahead", Value.int ma tma), (Str.ofString "most_open", Value.int mo tmo), (Str.ofString "rows", Value.ref rA)]) = mDue none D0 l0 rA mo ma tmo tma y := by
  unfold mDue
  by_cases h3 : y = Str.ofString "waits"
  · subst h3; rw [if_pos rfl, if_neg (by decide), if_neg (by decide), if_pos rfl]
  · by_cases h2 : y = Str.ofString "last"
    · subst h2; rw [if_neg (by decide), if_pos rfl, if_neg (by decide), if_pos rfl]
    · rw [if_neg h3, if_neg h2]
      by_cases h1 : y = Str.ofString "word"
      · subst h1; rw [if_pos rfl]; rfl
      · rw [if_neg h1, if_neg h2, if_neg h3]
        simp only [List.lookup]
        by_cases h4 : y = Str.ofString "rows"
        · subst h4; rw [if_pos rfl]; rfl
        · by_cases h5 : y = Str.ofString "most_open"
          · subst h5; rw [if_neg (by decide), if_pos rfl]; rfl
          · by_cases h6 : y = Str.ofString "most_ahead"
            · subst h6; rw [if_neg (by decide), if_neg (by decide), if_pos rfl]; rfl
            · rw [if_neg h4, if_neg h5, if_neg h6]
              rw [show (y == Str.ofString "most_ahead") = false from beq_eq_false_iff_ne.mpr h6, show (y == Str.ofString "most_open") = false from beq_eq_false_iff_ne.mpr h5, show (y == Str.ofString "rows") = false from beq_eq_false_iff_ne.mpr h4]
theorem news3 {h₀ h : Heap} {L : Addr} {news : List (Addr × Obj)} {a b c : Addr × Obj} (N : News h₀ L h news) (ha : a ∈ news) (hb : b ∈ news) (hc : c ∈ news) : News h₀ L h [a, b, c] := by
  intro q hq
  rcases List.mem_cons.mp hq with rfl | hq
  · exact N _ ha
  · rcases List.mem_cons.mp hq with rfl | hq
    · exact N _ hb
    · rw [List.mem_singleton.mp hq]; exact N _ hc
theorem ne2 {A B I : Addr} {o o' : Obj} (h1 : A ≠ I) (h2 : B ≠ I) : ∀ p ∈ [(A, o), (B, o')], p.1 ≠ I := by
  intro p hp
  rcases List.mem_cons.mp hp with rfl | hp
  · exact h1
  · rw [List.mem_singleton.mp hp]; exact h2
theorem lastTup {g h : Heap} {L' LD D0 : Addr} {m : Str → Option Value} {news : List (Addr × Obj)} {lk lt : Str} {t1 t2 t3 : Tok}
    (hL : (D0 = LD ∧ lk = Str.ofString "end" ∧ lt = Str.ofString "") ∨ ∃ tk tl v2 v3, IsTup g LD #[.str lk tk, .str lt tl, v2, v3]) (F : Fr g L' h m) (N : News g L' h news) (hm : (D0, tup0 t1 t2 t3) ∈ news) :
    ∃ tk tl v2 v3, IsTup h LD #[.str lk tk, .str lt tl, v2, v3] := by
  rcases hL with ⟨rfl, rfl, rfl⟩ | ⟨tk, tl, v2, v3, ht⟩
  · exact ⟨_, _, _, _, News.isTup N hm⟩
  · exact ⟨tk, tl, v2, v3, Fr.tup F ht⟩
theorem U_wait {w : World} {dp un : Nat} {gd : Option (List Code)} {cn : Str} {cs : Scope} {a : Addr} {ccd : Value} {cl : List (Str × Addr)} {outer : List Env} {A₀ : Around} {base h₀ : Heap} {L : Addr} {m : Str → Option Value} {s : Shared} {Q E : Value → Shared → Prop}
    {p : Program} {loose : List Str} {mean : ExcName → Option Value} {mg mb : Str → Option Value} {wd la : Addr} {kk tt lk lt : Str} {tk tl tm : Tok} {v2 v3 : Value} {many : Int}
    (B : Below A₀ base outer h₀) (F : Fr h₀ L s.heap m) (X : (KK w.params).In h₀) (T : Top p loose mean mg mb h₀) (hk : cs.kind = .function) (hd : dp + 2 < recursionLimit) (hu : un + 20 < cLine)
    (hl : ∃ tk1 tl1 v4 v5, IsTup s.heap la #[.str lk tk1, .str lt tl1, v4, v5]) (ht : IsTup s.heap wd #[.str kk tk, .str tt tl, v2, v3])
    (k : ∀ t h' tk', s.heap.StaysIn h' → Q (.int (waitF many lk lt kk tt) t) { s with heap := h', toks := tk' }) :
    wpAny (model PR w) (ktrTop dp un gd cn cs L a ccd cl outer) (call (.ref 150) [.int many tm, .ref la, .ref wd]) Q E s := by
  obtain ⟨tk1, tl1, v4, v5, hl⟩ := hl
  exact C_wait B F X T hk hd hu hl ht k
theorem getD_last {st : List Int} (h : 1 ≤ st.length) : st.getLastD 0 = st.getD (-1 + (st.length : Int)).toNat 0 := by
  rw [last_ix, List.getD_eq_getElem?_getD, List.getLastD_eq_getLast?, List.getLast?_eq_getElem?]
theorem take_le {st : List Int} {a b : Int} (hs : st.length ≤ 12) : (List.take (st.length - 1) st).length + [a, b].length ≤ 200 := by simp; omega
theorem take_le1 {st : List Int} {a : Int} (hs : st.length ≤ 12) : (List.take (st.length - 1) st).length + [a].length ≤ 200 := by simp; omega
theorem take_le2 {st : List Int} {a b : Int} (hs : st.length ≤ 12) : (List.take (st.length - 1) st ++ [a, b]).length ≤ 13 := by simp; omega
theorem take_le3 {st : List Int} (hs : st.length ≤ 12) : (List.take (st.length - 1) st).length ≤ 13 := by simp; omega
theorem take_le4 {st : List Int} {a : Int} (hs : st.length ≤ 12) : (List.take (st.length - 1) st ++ [a]).length ≤ 13 := by simp; omega
/-- which of the two limits is passed -/
def due1C (mo ma : Int) (st : List Int) (b : Bool) : Prop := if b = true then mo + 1 < (st.length : Int) else (¬ mo + 1 < (st.length : Int)) ∧ ma < st.sum
noncomputable abbrev envD (L' : Addr) : Env := envOf (Str.ofString "_law_due") (fdAt 23).2.2 L' 157 (.ref 156)
def forBody : Stmt → List Stmt
  | .For _ _ b _ _ => b
  | _ => []
section
variable {w : World} {dp un : Nat} {gd : Option (List Code)} {cn : Str} {cs : Scope} {a : Addr} {ccd : Value} {cl : List (Str × Addr)} {outer : List Env} {base g h : Heap} {L L' : Addr} {m : Str → Option Value} {sg : Array GenState} {sd : Drawn} {tk : Nat} {so : OsState} {Q : Flow → Shared → Prop}
    {p : Program} {loose : List Str} {mean : ExcName → Option Value} {mg mb : Str → Option Value} {nw : List (Addr × Obj)} {W D LD : Addr} {us : List Value} {st : List Int} {n : Nat} {mo ma : Int} {tmo tma tkx tlx tsx : Tok} {x : Wd} {lk lt : Str}
set_option maxHeartbeats 4000000 in
theorem due_tail (B : Below (ktrTop dp un gd cn cs L a ccd cl outer) base (envX cn cs L a ccd cl :: outer) g) (X : (KK w.params).In g) (Tp : Top p loose mean mg mb g) (hd : dp + 3 < recursionLimit) (hu : un + 30 < cLine)
    (F : Fr g L' h m) (e1 : m (Str.ofString "waits") = some (.ref W)) (e2 : m (Str.ofString "most_open") = some (.int mo tmo)) (e3 : m (Str.ofString "most_ahead") = some (.int ma tma)) (e4 : m (Str.ofString "word") = some (.ref D))
    (N : News g L' h nw) (hW : (W, listOf us.toArray n) ∈ nw) (hI : IntsAre us st) (hs : st.length ≤ 13) (hx : IsTup g D #[.str x.k tkx, .str x.t tlx, .int x.sp tsx, .none])
    (k1 : ∀ b, due1C mo ma st b → ∀ D2 h' tk' t1 t2 m', Fr g L' h' m' → News g L' h' ((D2, { cls := .type "tuple", data := .seq #[.str (if b = true then Str.ofString "brackets" else Str.ofString "signs") t1, .int x.sp t2] }) :: nw) → Q (.ret (.ref D2)) ⟨h', sg, sd, tk', so⟩)
    (k3 : ¬ mo + 1 < (st.length : Int) → ¬ ma < st.sum → ∀ h' tk', Fr g L' h' (fun y => if y = Str.ofString "last" then some (.ref D) else m y) → News g L' h' nw → Q .next ⟨h', sg, sd, tk', so⟩) :
    wpAny (model PR w) ((ktrTop dp un gd cn cs L a ccd cl outer).deeper (envD L')) (execs ((forBody (stAt (fdAt 23).2.1 1)).drop 1) (envD L')) Q (fun _ _ => False) ⟨h, sg, sd, tk, so⟩ := by
  refine opqE F [(Str.ofString "waits", .ref W), (Str.ofString "most_open", .int mo tmo), (Str.ofString "most_ahead", .int ma tma), (Str.ofString "word", .ref D)] (fc e1 (fc e2 (fc e3 (fc e4 fn)))) ?_
  intro m₀ hE F0
  clear F e1 e2 e3 e4
  have zz1 : StopAt "call builtin:len" := .mk
  have zz2 : StopAt "call builtin:sum" := .mk
  k_steps
  unfold Halt
  refine my_lenI (News.isList N hW) hI (Nat.le_trans hs (by decide)) ?_
  intro t1 tk1
  dsimp only
  k_steps
  · exact k1 true ‹_› _ _ _ _ _ _ (by assumption) (by assumption)
  unfold Halt
  refine my_sum rfl F0 N (News.isList N hW) hI ?_
  intro t2 h2 tk2 F2 N2
  clear F0 N
  dsimp only
  k_steps
  · exact k1 false ⟨‹_›, ‹_›⟩ _ _ _ _ _ _ (by assumption) (by assumption)
  exact k3 ‹¬ _ < (st.length : Int)› ‹¬ _ < st.sum› _ _ (frCongr (by assumption) fun y => congrArg (fun z => if y = Str.ofString "last" then some (Value.ref D) else z) (hE y)) (by assumption)
set_option maxHeartbeats 4000000 in
theorem due_turn (B : Below (ktrTop dp un gd cn cs L a ccd cl outer) base (envX cn cs L a ccd cl :: outer) g) (X : (KK w.params).In g) (Tp : Top p loose mean mg mb g) (hd : dp + 3 < recursionLimit) (hu : un + 30 < cLine)
    (F : Fr g L' h m) (e1 : m (Str.ofString "waits") = some (.ref W)) (e2 : m (Str.ofString "most_open") = some (.int mo tmo)) (e3 : m (Str.ofString "most_ahead") = some (.int ma tma)) (e4 : m (Str.ofString "word") = some (.ref D)) (e5 : m (Str.ofString "last") = some (.ref LD))
    (N : News g L' h nw) (hW : (W, listOf us.toArray n) ∈ nw) (hI : IntsAre us st) (h1 : 1 ≤ st.length) (hs : st.length ≤ 12) (hx : IsTup g D #[.str x.k tkx, .str x.t tlx, .int x.sp tsx, .none])
    (hL : ∀ h2 m2, Fr g L' h2 m2 → News g L' h2 nw → ∃ tk tl v2 v3, IsTup h2 LD #[.str lk tk, .str lt tl, v2, v3])
    (k1 : ∀ b, due1C mo ma (stepW waitF lk lt x st) b → ∀ D2 h' tk' t1 t2 m' nw', Fr g L' h' m' → News g L' h' ((D2, { cls := .type "tuple", data := .seq #[.str (if b = true then Str.ofString "brackets" else Str.ofString "signs") t1, .int x.sp t2] }) :: nw') → Q (.ret (.ref D2)) ⟨h', sg, sd, tk', so⟩)
    (k3 : ¬ mo + 1 < ((stepW waitF lk lt x st).length : Int) → ¬ ma < (stepW waitF lk lt x st).sum → ∀ W2 us2 n2 nw2 h' tk', IntsAre us2 (stepW waitF lk lt x st) → (W2, listOf us2.toArray n2) ∈ nw2 → (∀ q ∈ nw, q ∈ nw2) → (W2 = W ∨ ∀ p ∈ nw, @LT.lt Nat _ p.1 W2) →
      Fr g L' h' (fun y => if y = Str.ofString "last" then some (.ref D) else if y = Str.ofString "waits" then some (.ref W2) else m y) → News g L' h' nw2 → Q .next ⟨h', sg, sd, tk', so⟩) :
    wpAny (model PR w) ((ktrTop dp un gd cn cs L a ccd cl outer).deeper (envD L')) (execs (forBody (stAt (fdAt 23).2.1 1)) (envD L')) Q (fun _ _ => False) ⟨h, sg, sd, tk, so⟩ := by
  refine opqE F [(Str.ofString "waits", .ref W), (Str.ofString "most_open", .int mo tmo), (Str.ofString "most_ahead", .int ma tma), (Str.ofString "word", .ref D), (Str.ofString "last", .ref LD)] (fc e1 (fc e2 (fc e3 (fc e4 (fc e5 fn))))) ?_
  intro m₀ hE F0
  clear F e1 e2 e3 e4 e5
  have fin : ∀ W2 us2 n2 nw2 h' tk', IntsAre us2 (stepW waitF lk lt x st) → (W2, listOf us2.toArray n2) ∈ nw2 → (∀ q ∈ nw, q ∈ nw2) → (W2 = W ∨ ∀ p ∈ nw, @LT.lt Nat _ p.1 W2) → (stepW waitF lk lt x st).length ≤ 13 →
      Fr g L' h' (fun y => if y = Str.ofString "waits" then some (.ref W2) else match List.lookup y [(Str.ofString "waits", Value.ref W), (Str.ofString "most_open", .int mo tmo), (Str.ofString "most_ahead", .int ma tma), (Str.ofString "word", .ref D), (Str.ofString "last", .ref LD)] with | some v => some v | none => m₀ y) → News g L' h' nw2 →
      wpAny (model PR w) ((ktrTop dp un gd cn cs L a ccd cl outer).deeper (envD L')) (execs ((forBody (stAt (fdAt 23).2.1 1)).drop 1) (envD L')) Q (fun _ _ => False) ⟨h', sg, sd, tk', so⟩ := fun W2 us2 n2 nw2 h' tk' a1 a2 a3 a4 a5 a6 a7 =>
    due_tail B X Tp hd hu a6 rfl rfl rfl rfl a7 a2 a1 a5 hx (fun b hb D2 h2 tk2 t1 t2 m2 b1 b2 => k1 b hb D2 h2 tk2 t1 t2 m2 nw2 b1 b2)
      (fun c1 c2 h2 tk2 b1 b2 => k3 c1 c2 W2 us2 n2 nw2 h2 tk2 a1 a2 a3 a4 (frCongr b1 fun y => congrArg (fun z => if y = Str.ofString "last" then some (Value.ref D) else if y = Str.ofString "waits" then some (Value.ref W2) else z) (hE y)) b2)
  clear k1 k3 hE
  have zz1 : StopAt "call builtin:len" := .mk
  have zz2 : StopAt "eval List" := .mk
  have zz3 : StopAt "compareOp In str ref" := .mk
  have zz5 : StopAt "binaryOp Add ref ref" := .mk
  have zz6 : StopAt "call ref" := .mk
  have zz7 : StopAt "execs cons" := .mk
  k_steps
  unfold Halt
  refine' my_strList ?kF ?kN ?kc ?kz ?_; (case kF => k_asm); (case kN => k_asm); (case kc => repeat constructor); (case kz => exact bleN rfl)
  intro l9 vs9 h9 tk9 hs9 F9 N9 l1
  dsimp only
  clear F0 N
  k_steps
  unfold Halt
  refine in_list_strs (News.isList N9 (.head _)) hs9 ?_
  replace N9 := cb_drop (news := nw) N9 fun _ h => .tail _ h
  clear hs9 l1
  k_steps
  · unfold Halt
    refine wpAny_execs_cons ?_
    (rename (StopAt "eval List") => zz9); clear zz9
    k_steps
    (rename News _ _ _ _ => N7)
    refine my_last (News.isList N7 (.tail _ hW)) hI h1 ?_ (by with_unfolding_all rfl)
    intro t9
    rw [getD_last h1]
    k_steps
    unfold Halt
    (rename Fr _ _ _ _ => F7)
    (rename News _ _ _ _ => N7)
    refine my_add (ws := [.int _ _, .int _ _]) (ms := [_, _]) F7 N7 (News.isList N7 (.tail _ (.head _))) (News.isList N7 (.head _)) ‹IntsAre _ (List.take _ _)› (.cons _ _ (.cons _ _ .nil)) (take_le hs) ?_
    intro D8 us8 h8 F8 N8 l8 hI8
    clear F7 N7
    dsimp only
    k_steps
    unfold Halt
    have hst := step_open (f := waitF) (lk := lk) (lt := lt) (st := st) (x := x) ‹_›
    exact fin _ _ _ _ _ _ (by rw [hst]; exact hI8) (.head _) (fun _ h => .tail _ (.tail _ (.tail _ h))) (.inr fun p hp => l8 p (.tail _ (.tail _ hp))) (by rw [hst]; exact take_le2 hs) (by assumption) (by assumption)
  · unfold Halt
    refine wpAny_execs_cons ?_
    k_steps
    unfold Halt
    refine' my_strList ?kF ?kN ?kc ?kz ?_; (case kF => k_asm); (case kN => k_asm); (case kc => repeat constructor); (case kz => exact bleN rfl)
    intro l8 vs8 h8 tk8 hs8 F8 N8 l1
    dsimp only
    clear F9 N9
    k_steps
    unfold Halt
    refine in_list_strs (News.isList N8 (.head _)) hs8 ?_
    replace N8 := cb_drop (news := nw) N8 fun _ h => .tail _ h
    clear hs8 l1
    (rename (StopAt "eval List") => zz9); clear zz9
    k_steps
    · unfold Halt
      refine wpAny_execs_cons ?_
      k_steps
      unfold Halt
      refine my_lenI (News.isList N8 hW) hI (Nat.le_trans hs (by decide)) ?_
      intro t1 tk1
      dsimp only
      k_steps
      · unfold Halt
        have hst := step_close (f := waitF) (lk := lk) (lt := lt) (st := st) (x := x) ‹_› ‹_› ‹(1 : Int) < _›
        exact fin _ _ _ _ _ _ (by rw [hst]; assumption) (.head _) (fun _ h => .tail _ h) (.inr (by assumption)) (by rw [hst]; exact take_le3 hs) (by assumption) (by assumption)
      · unfold Halt
        have hst := step_close' (f := waitF) (lk := lk) (lt := lt) (st := st) (x := x) ‹_› ‹_› ‹¬ (1 : Int) < _›
        exact fin _ _ _ _ _ _ (by rw [hst]; exact hI) hW (fun _ h => h) (.inl rfl) (by rw [hst]; exact Nat.le_trans hs (by decide)) (by assumption) (by assumption)
    · unfold Halt
      refine wpAny_execs_cons ?_
      k_steps
      (rename News _ _ _ _ => N7)
      refine my_last (News.isList N7 (.tail _ hW)) hI h1 ?_ (by with_unfolding_all rfl)
      intro t9
      rw [getD_last h1]
      k_steps
      unfold Halt
      (rename Fr _ _ _ _ => F7)
      (rename News _ _ _ _ => N7)
      refine' U_wait ?zzB F7 ?zzX ?zzT rfl ?zzd ?zzu (hL _ _ F7 (cb_drop N7 fun _ h => .tail _ h)) (Fr.tup F7 hx) ?_
      (case zzB => assumption); (case zzX => assumption); (case zzT => assumption); (case zzd => exact Nat.lt_of_le_of_lt (Nat.le_refl _) hd); (case zzu => exact Nat.lt_trans (show un + 3 + 20 < un + 30 from Nat.add_lt_add_left (by decide : 23 < 30) un) hu)
      intro t6 h6 tk6 st6
      have F6 := stayF F7 st6
      have N6 := stayN N7 st6
      clear F7 N7
      dsimp only
      k_steps
      unfold Halt
      (rename Fr _ _ _ _ => F7)
      (rename News _ _ _ _ => N7)
      refine my_add (ws := [.int _ _]) (ms := [_]) F7 N7 (News.isList N7 (.tail _ (.head _))) (News.isList N7 (.head _)) ‹IntsAre _ (List.take _ _)› (.cons _ _ .nil) (take_le1 hs) ?_
      intro D5 us5 h5 F5 N5 l5 hI5
      clear F7 N7
      dsimp only
      k_steps
      unfold Halt
      have hst := step_else (f := waitF) (lk := lk) (lt := lt) (st := st) (x := x) ‹_› ‹_›
      exact fin _ _ _ _ _ _ (by rw [hst]; exact hI5) (.head _) (fun _ h => .tail _ (.tail _ (.tail _ h))) (.inr fun p hp => l5 p (.tail _ (.tail _ hp))) (by rw [hst]; exact take_le4 hs) (by assumption) (by assumption)
end
/-- what the loop keeps -/
inductive DueI (g : Heap) (rA : Addr) (mo ma : Int) (tmo tma : Tok) (ws : List Wd) (i : Nat) (m : Str → Option Value) (news : List (Addr × Obj)) : Prop
  | mk (u : Option Value) (LD Aw D0 : Addr) (vsI : List Value) (st : List Int) (n : Nat) (lk lt : Str) (t1 t2 t3 : Tok) : (∀ y, m y = mDue u LD Aw rA mo ma tmo tma y) → (Aw, listOf vsI.toArray n) ∈ news → (D0, tup0 t1 t2 t3) ∈ news → IntsAre vsI st → 1 ≤ st.length → st.length ≤ i + 1 →
    ((D0 = LD ∧ lk = Str.ofString "end" ∧ lt = Str.ofString "") ∨ ∃ tk tl v2 v3, IsTup g LD #[.str lk tk, .str lt tl, v2, v3]) → due waitF mo ma ws (Str.ofString "end") (Str.ofString "") [0] = due waitF mo ma (ws.drop i) lk lt st → DueI g rA mo ma tmo tma ws i m news
theorem stepW_len {f : Int → Str → Str → Str → Str → Int} {lk lt : Str} {v : Wd} {st : List Int} (h : 1 ≤ st.length) : 1 ≤ (stepW f lk lt v st).length ∧ (stepW f lk lt v st).length ≤ st.length + 1 := by
  unfold stepW
  split
  · simp; omega
  · split
    · split <;> (first | omega | (simp; done) | (simp; omega))
    · first | (simp; done) | (simp; omega)
theorem due_b {mo ma : Int} {st : List Int} {f : Int → Str → Str → Str → Str → Int} {ws : List Wd} {lk lt : Str} {x : Wd} {i : Nat} {X : Option (Bool × Int)} {b : Bool} (hdue : X = due f mo ma (ws.drop i) lk lt st) (hdrop : ws.drop i = x :: ws.drop (i + 1)) (h : due1C mo ma (stepW f lk lt x st) b) : X = some (b, x.sp) := by
  cases b with
  | true => exact due1 hdue hdrop rfl h
  | false => exact due2 hdue hdrop rfl h.1 h.2
section
variable {w : World} {dp un : Nat} {gd : Option (List Code)} {cn : Str} {cs : Scope} {a : Addr} {ccd : Value} {cl : List (Str × Addr)} {outer : List Env} {A₀ : Around} {base h₀ : Heap} {L : Addr} {m : Str → Option Value} {s : Shared} {Q E : Value → Shared → Prop}
    {p : Program} {loose : List Str} {mean : ExcName → Option Value} {mg mb : Str → Option Value} {rA : Addr} {mo ma : Int} {tmo tma : Tok} {vs : List Value} {ws : List Wd}
set_option maxHeartbeats 4000000 in
theorem C_due (B : Below A₀ base outer h₀) (F : Fr h₀ L s.heap m) (X : (KK w.params).In h₀) (T : Top p loose mean mg mb h₀) (hk : cs.kind = .function) (hd : dp + 3 < recursionLimit) (hu : un + 30 < cLine)
    (hl : s.heap.IsList rA vs.toArray) (hr : RowsAre s.heap vs ws) (hlen : vs.length ≤ 11)
    (k1 : due waitF mo ma ws (Str.ofString "end") (Str.ofString "") [0] = none → ∀ h' tk', s.heap.StaysIn h' → Q .none { s with heap := h', toks := tk' })
    (k2 : ∀ b sp, due waitF mo ma ws (Str.ofString "end") (Str.ofString "") [0] = some (b, sp) → ∀ D h' tk' t1 t2, s.heap.StaysIn h' → s.heap.get? D = none → IsTup h' D #[.str (if b = true then Str.ofString "brackets" else Str.ofString "signs") t1, .int sp t2] → Q (.ref D) { s with heap := h', toks := tk' }) :
    wpAny (model PR w) (ktrTop dp un gd cn cs L a ccd cl outer) (call (.ref 157) [.ref rA, .int mo tmo, .int ma tma]) Q E s := by
  obtain ⟨sh, sg, sd, sk, so⟩ := s
  dsimp only at F hl hr k1 k2
  refine wpAny_call ?_
  refine' enterS (hid := []) (by assumption) (by assumption) News.nil (by assumption) (by assumption) ?kA ?kF ?kK ?k6 ?k7 ?k8 ?k9 ?kB ?_ ?c2 ?c3 ?c4 ?c5
  (case kA => exact rfl); (case kF => exact rfl); (case kK => assumption); (case k6 => k_dflt k_is); (case k7 => k_dflt k_is); (case k8 => ktr_room); (case k9 => exact BindsTo.of_eq rfl); (case kB => exact locs rfl); (case c2 => exact rfl); (case c3 => exact rfl); (case c4 => exact rfl); (case c5 => decide)
  intro g L' h₁ tk₁ hkeep F' N' B' X' T'
  have hcov : ∀ b o, sh.get? b = some o → g.get? b = some o := fun b o e => hkeep b o e (by simp)
  have hl' : g.IsList rA vs.toArray := hl.at fun o e => hcov rA o e
  have hr' : RowsAre g vs ws := hr.keeps hcov
  replace F' := frCongr (m' := fun y => List.lookup y [(Str.ofString "most_ahead", Value.int ma tma), (Str.ofString "most_open", Value.int mo tmo), (Str.ofString "rows", Value.ref rA)]) F' (fun _ => rfl)
  dsimp only
  refine anyQF ?_
  intro Q9 hQ9
  have K1 : due waitF mo ma ws (Str.ofString "end") (Str.ofString "") [0] = none → ∀ h' tk' m', Fr g L' h' m' → Q9 (.ret .none) ⟨h', sg, sd, tk', so⟩ := fun e h' tk' m' F => hQ9 (.ret .none) _ (k1 e h' tk' fun b o q => F.keep b o (hcov b o q))
  have K2 : ∀ b sp, due waitF mo ma ws (Str.ofString "end") (Str.ofString "") [0] = some (b, sp) → ∀ D h' tk' t1 t2 m' nw', Fr g L' h' m' → News g L' h' ((D, { cls := .type "tuple", data := .seq #[.str (if b = true then Str.ofString "brackets" else Str.ofString "signs") t1, .int sp t2] }) :: nw') → Q9 (.ret (.ref D)) ⟨h', sg, sd, tk', so⟩ :=
    fun b sp e D h' tk' t1 t2 m' nw' F N => hQ9 (.ret (.ref D)) _ (k2 b sp e D h' tk' t1 t2 (fun b o q => F.keep b o (hcov b o q)) (freshS hkeep N (.head _) (by simp)) (News.isTup N (.head _)))
  clear B F X T hk hl hr k1 k2 hQ9 hkeep hcov
  have zz1 : StopAt "exec For Name Name cons nil" := .mk
  k_steps
  unfold Halt
  refine For_invV g (by rfl) (by rfl) ?_
  k_steps
  (rename Fr _ _ _ _ => F1)
  (rename News _ _ _ _ => N1)
  refine' iterV (DueI g rA mo ma tmo tma ws) rfl hl' (frCongr F1 fun y => mDue_start _ _ _ _ _ _ _ y) N1 ?zzJ ?zzt ?zzd
  case zzJ => exact .mk none _ _ _ [.int 0 _] [0] 0 _ _ _ _ _ (fun _ => rfl) (.tail _ (.tail _ (.head _))) (.tail _ (.head _)) (.cons _ _ .nil) (Nat.le_refl _) (Nat.le_refl _) (.inl ⟨rfl, rfl, rfl⟩) rfl
  case zzt =>
    clear F1 N1 K1
    intro i v m₁ news₁ h tk I oI hv hJ hoff F3 N3
    obtain ⟨u, LD, Aw, D0, vsI, st, n, lk, lt, t1, t2, t3, hm, hA, hD, hI, hs1, hs2, hLD, hdue⟩ := hJ
    obtain ⟨D, x, tkx, tlx, tsx, rfl, hx, hxt, hdrop⟩ := hr'.get hv
    have hi11 : i < vs.length := (List.getElem?_eq_some_iff.mp hv).1
    have F4 := frCongr F3 (m' := fun y => if y = Str.ofString "word" then some (.ref D) else mDue u LD Aw rA mo ma tmo tma y) (fun y => congrArg (fun z => if y = Str.ofString "word" then some (Value.ref D) else z) (hm y))
    refine' due_turn (W := Aw) (LD := LD) (D := D) (x := x) (lk := lk) (lt := lt) B' X' T' hd hu F4 rfl rfl rfl rfl rfl N3 (.tail _ hA) hI hs1 ?zzs hxt ?zzL ?zz1 ?zz3
    case zzs => exact Nat.le_trans hs2 (Nat.le_trans (Nat.succ_le_succ (Nat.le_trans (Nat.le_of_lt hi11) hlen)) (by decide))
    case zzL => exact fun h2 m2 F2 N2 => lastTup hLD F2 N2 (.tail _ hD)
    case zz1 => exact fun b hb D2 h' tk' t1 t2 m' nw' F N => K2 b x.sp (due_b hdue hdrop hb) D2 h' tk' t1 t2 m' nw' F N
    case zz3 =>
      intro c1 c2 W2 us2 n2 nw2 h' tk' hI2 hW2 hsub hor F N
      have hWI : W2 ≠ I := hor.elim (fun e => e ▸ hoff _ hA) fun h => Nat.ne_of_gt (h _ (.head _))
      exact ⟨h', tk', _, [(W2, listOf us2.toArray n2), (D0, tup0 t1 t2 t3)], rfl, F, news3 N (hsub _ (.head _)) hW2 (hsub _ (.tail _ hD)), ne2 hWI (hoff _ hD),
        .mk (some (.ref D)) D W2 D0 us2 _ n2 x.k x.t t1 t2 t3 (fun y => mDue_turn _ _ _ _ _ _ _ _ _ _ _ y) (.head _) (.tail _ (.head _)) hI2 (stepW_len hs1).1 (Nat.le_trans (stepW_len hs1).2 (Nat.succ_le_succ hs2)) (.inr ⟨_, _, _, _, hxt⟩) (due3 hdue hdrop rfl c1 c2)⟩
  case zzd =>
    clear F1 N1 K2
    intro m₁ news₁ h tk hJ F3 N3
    obtain ⟨u, LD, Aw, D0, vsI, st, n, lk, lt, t1, t2, t3, hm, hA, hD, hI, hs1, hs2, hLD, hdue⟩ := hJ
    clear hm hA hD hI hLD
    dsimp only
    k_steps
    exact K1 (by rw [hdue, hr'.length, List.drop_length]; rfl) _ _ _ (by assumption)
end
end
/- part X1 -/
section
open PySem PySem.W PySem.W.X PyProof.Rows PySem.Calls PySem.Spec Builtin Builtin.ObjectAttr
section
variable {prog : Program} {w : World} {M : Model} {A : Around} {E : Value → Shared → Prop} {R : Result → Shared → Prop} {h : Heap} {g : Array GenState} {d : Drawn} {t : Nat} {os : OsState}
variable {nm q : Str} {C N : Addr} {bs bm : List Value} {hdct : Bool} {sn : List Str} {sub : List Value} {ab : Bool} {col : Option Bool} {dd : Option Addr} {k0 k1 k2 k3 k5 : Option Value} {rest : List Value}
theorem exc_checkNew (hC : h.get? C = some (excClassObj nm q C N bs bm hdct sn sub ab col dd k0 k1 k2 k3 k5 "Exception.__new__")) (hB : bm.contains (.type "Exception") = true) {Q : Unit → Shared → Prop} (hq : Q () ⟨h, g, d, t, os⟩) :
    wpAny M A (checkBuiltinCall "Exception.__new__" ⟨.ref C :: rest, []⟩) Q E ⟨h, g, d, t, os⟩ := by
  have Fn := PySem.F.excBase_Exception
  have hc : (Value.ref C :: bm).contains (.type "Exception") = true := by rw [List.contains_cons, hB, Bool.or_true]
  have hstar := Fn.noStar
  simp only [checkBuiltinCall, Fn.newKind, Fn.newSplit, Fn.newRow]
  repeat (first | refine wpAny_loadPart_at hC ?_ | (refine wpAny_isSubtype_exc hC ?_; rw [hc]) | refine wpAny_staticBase_exc hC ?_ | refine wpAny_madeBy_exc hC ?_ | simp only [bne_self_eq_false, Bool.false_eq_true, if_false] | wp_step)
  exact hq
abbrev excRaw (C t : Addr) : Obj := { cls := .ref C, data := .fields #[.ref t, .none, .none, .none, .bool false, .none] }
theorem exc_new (hC : h.get? C = some (excClassObj nm q C N bs bm hdct sn sub ab col dd k0 k1 k2 k3 k5 "Exception.__new__")) (hB : bm.contains (.type "Exception") = true) (hA : bm.contains (.type "AttributeError") = false) (hN : bm.contains (.type "NameError") = false)
    (hrest : rest.length ≤ sizeLine) (hq : R (.ok (.ret (.ref (h.objs.size + 1)))) ⟨(h.push { cls := .type "tuple", data := .seq rest.toArray }).push (excRaw C h.objs.size), g, d, t, os⟩) :
    codeAny (model prog w) A (.builtin "Exception.__new__" ⟨.ref C :: rest, []⟩) R ⟨h, g, d, t, os⟩ := by
  have Fn := PySem.F.excBase_Exception
  have hends := Fn.ends
  have c1 : (Value.ref C :: bm).contains (.type "Exception") = true := by rw [List.contains_cons, hB, Bool.or_true]
  have c2 : (Value.ref C :: bm).contains (.type "AttributeError") = false := by rw [List.contains_cons, hA]; rfl
  have c3 : (Value.ref C :: bm).contains (.type "NameError") = false := by rw [List.contains_cons, hN]; rfl
  refine codeAny_builtinAt Fn.entry ?_
  unfold Builtin.«BaseException.__new__»
  refine PySem.wpAt_bind ?_
  show PySem.wpAt _ _ _ (stack >>= _) _ _ _
  refine PySem.wpAt_bind (PySem.wpAt_stack fun p below => PySem.wpAt_of_wpAny ?_)
  wp_walk
  refine PySem.wpAt_of_wpAny ?_
  rw [Fn.owner]
  repeat (first | with_reducible refine wpAny_madeHere_exc Fn.canon hC ?_ | with_reducible refine wpAny_loadPart_at hC ?_ | (with_reducible refine wpAny_isSubtype_exc hC ?_; first | rw [c1] | rw [c2] | rw [c3]) | wp_step)
  show R _ _
  rw [Heap.size_push]
  exact hq
/-- an exception made, before its own __init__ -/
structure ExcRaw (h h' : Heap) (C e t : Addr) : Prop where
  keeps : ∀ b o, h.get? b = some o → h'.get? b = some o
  newE : h.get? e = none
  newT : h.get? t = none
  obj : h'.get? e = some (excRaw C t)
  tup : ∃ o, h'.get? t = some o
  ne : t < e
theorem exc_typeCall {f : Addr} (hC : h.get? C = some (excClassObj nm q C N bs bm hdct sn sub ab col dd k0 k1 k2 k3 k5 "Exception.__new__")) (hB : bm.contains (.type "Exception") = true) (hA : bm.contains (.type "AttributeError") = false) (hN : bm.contains (.type "NameError") = false)
    (hrest : rest.length ≤ sizeLine) (hi : Looks (model prog w) h (typeLookup (.ref C) "__init__") (some (.ref f))) (hb : ∀ self, Looks (model prog w) h (bindSpecial (.ref f) self) (.ref f, [self])) {Q : Fin → Shared → Prop}
    (hq : ∀ h' e t', ExcRaw h h' C e t' → wpAny (model prog w) A (call (.ref f) (.ref e :: rest)) (fun r s' => r = .none ∧ Q (.done (.ret (.ref e))) s') E ⟨h', g, d, t, os⟩) :
    wpAny (model prog w) A (Builtin.«type.__call__» ⟨.ref C :: rest, []⟩) Q E ⟨h, g, d, t, os⟩ := by
  repeat (first | with_reducible refine wpAny_loadPart_at hC ?_ | with_reducible refine wpAny_madeBy_exc hC ?_ | wp_step)
  refine codeAny_call_builtin_code (Code.quiet_builtin _ PySem.F.excBase_Exception.quiet) (exc_checkNew hC hB ?_)
  refine exc_new hC hB hA hN hrest ?_
  show wpAny _ _ _ _ _ _
  have k1' : ∀ b o, h.get? b = some o → ((h.push { cls := .type "tuple", data := .seq rest.toArray }).push (excRaw C h.objs.size)).get? b = some o := fun b o e => Heap.get?_push_of_some _ (Heap.get?_push_of_some _ e)
  have hC₁ := k1' _ _ hC
  have hget : ((h.push { cls := .type "tuple", data := .seq rest.toArray }).push (excRaw C h.objs.size)).get? (h.objs.size + 1) = some (excRaw C h.objs.size) := by heap_get
  have hcC : (Value.ref C :: bm).contains (.ref C) = true := by simp
  unfold isInstance
  repeat (first | with_reducible refine wpAny_loadPart_at hget ?_ | (with_reducible refine wpAny_isSubtype_exc hC₁ ?_; rw [hcC]) | wp_step)
  show wpAny _ _ (typeLookup (.ref C) _) _ _ _
  refine Looks.at (hi.keeps k1') ?_
  refine wpAny_holding (wpAny_bind (Looks.at ((hb _).keeps k1') ?_))
  refine wpAny_bind (wpAny_mono (hq _ (h.objs.size + 1) h.objs.size ⟨k1', Heap.get?_none_of_le (Nat.le_succ _), Heap.get?_none_of_le (Nat.le_refl _), hget, ⟨_, Heap.get?_push_of_some _ (Heap.get?_push_at rfl rfl)⟩, Nat.lt_succ_self _⟩) (fun r s' hr => ?_) fun _ _ x => x)
  obtain ⟨rfl, hQ⟩ := hr
  wp_walk
  exact hQ
theorem exc_call {f : Addr} (hC : h.get? C = some (excClassObj nm q C N bs bm hdct sn sub ab col dd k0 k1 k2 k3 k5 "Exception.__new__")) (hB : bm.contains (.type "Exception") = true) (hA : bm.contains (.type "AttributeError") = false) (hN : bm.contains (.type "NameError") = false)
    (hrest : rest.length ≤ sizeLine) (hi : Looks (model prog w) h (typeLookup (.ref C) "__init__") (some (.ref f))) (hb : ∀ self, Looks (model prog w) h (bindSpecial (.ref f) self) (.ref f, [self])) {Q : Value → Shared → Prop}
    (hq : ∀ h' e t', ExcRaw h h' C e t' → wpAny (model prog w) (A.under (.builtin "type.__call__" ⟨.ref C :: rest, []⟩)) (call (.ref f) (.ref e :: rest)) (fun r s' => r = .none ∧ Q (.ref e) s') E ⟨h', g, d, t, os⟩) :
    wpAny (model prog w) A (call (.ref C) rest) Q E ⟨h, g, d, t, os⟩ := by
  have f1 := tc_lookup
  have f2 := tc_bind (.ref C)
  have hT : (⟨h, g, d, t, os⟩ : Shared).TypeIs (.ref C) "type" := ⟨_, hC, rfl⟩
  refine wpAny_call (codeAny_of_tree ?_)
  show wpAny _ _ (callAny (.ref C) _) _ _ _
  repeat (any_goals (first | assumption | with_reducible refine wpAny_loadPart_at hC ?_ | wp_step))
  refine ⟨rfl, ?_⟩
  refine codeAny_call_builtin_at (Code.quiet_builtin _ (by decide +kernel)) entry_typeCall (wpAny_check_type_call_sub hC (exc_typeCall hC hB hA hN hrest hi hb fun h' e t' hm => ?_))
  exact hq h' e t' hm
end
theorem wpAny_around {α : Type} {M : Model} {A A' : Around} {t : Sem α} {Q : α → Shared → Prop} {E : Value → Shared → Prop} {s : Shared} (h1 : A.handled = A'.handled) (h2 : A.depth ≤ A'.depth) (h3 : A.frames = A'.frames) (h4 : A.guards = A'.guards) (h5 : A.units ≤ A'.units)
    (h : wpAny M A' t Q E s) : wpAny M A t Q E s := fun Γ p hΓ => h Γ p ⟨hΓ.1.trans h1, Nat.le_trans hΓ.2.1 h2, fun l hl => hΓ.2.2.1 l (h3.trans hl), fun l hl => hΓ.2.2.2.1 l (h4.trans hl), Nat.le_trans hΓ.2.2.2.2 h5⟩

abbrev excObj (C d t : Addr) : Obj := { cls := .ref C, dict := some d, data := .fields #[.ref t, .none, .none, .none, .bool false, .none] }
abbrev dictMS (h1 h2 : Int) (t1 t3 tk tl : Tok) (n : Nat) (msg : Str) (sp : Int) : Obj := { cls := .type "dict", data := .dict #[⟨h1, .str (Str.ofString "message") t1, .str msg tk⟩, ⟨h2, .str (Str.ofString "spot") t3, .int sp tl⟩] n }
def DictAt (h : Heap) (d : Addr) (msg : Str) (sp : Int) : Prop := ∃ h1 h2 t1 t3 tk tl n, h.get? d = some (dictMS h1 h2 t1 t3 tk tl n msg sp)
structure ExcAt (h h' : Heap) (C e d : Addr) (msg : Str) (sp : Int) : Prop where
  obj : ∃ t, h'.get? e = some (excObj C d t)
  newE : h.get? e = none
  newD : h.get? d = none
  dict : DictAt h' d msg sp
def ExcK (s : Shared) (Q : Value → Shared → Prop) (C : Addr) (msg : Str) (sp : Int) : Prop :=
  ∀ e d h' tk', s.heap.StaysIn h' → ExcAt s.heap h' C e d msg sp → Q (.ref e) { s with heap := h', toks := tk' }


theorem x_sub (P : Params) : subIn (KK P) (.ref 45) (.type "Exception") = some true ∧ subIn (KK P) (.ref 57) (.type "Exception") = some true ∧ subIn (KK P) (.ref 45) (.type "object") = some true ∧ subIn (KK P) (.ref 57) (.type "object") = some true := ⟨by kernel_rfl, by kernel_rfl, by kernel_rfl, by kernel_rfl⟩
section
variable {prog : Program} {w : World} {A : Around} {E : Value → Shared → Prop} {s : Shared} {g : Heap} {L C e t : Addr} {m : Str → Option Value} {rest : List (Addr × Obj)} {v : Value}
set_option maxHeartbeats 1000000 in
theorem exc_base {nm q : Str} {N0 : Addr} {bs bm : List Value} {hdct : Bool} {sn : List Str} {sub9 : List Value} {ab : Bool} {col : Option Bool} {dd : Option Addr} {k0 k1 k2 k3 k5 : Option Value} {Q : Value → Shared → Prop} (hC : s.heap.get? C = some (excClassObj nm q C N0 bs bm hdct sn sub9 ab col dd k0 k1 k2 k3 k5 "Exception.__new__")) (F : Fr g L s.heap m) (N : News g L s.heap ((e, excRaw C t) :: rest)) (hne : ∀ p ∈ rest, p.1 ≠ e) (sub : Looks (model prog w) s.heap (isSubtype (.ref C) (.type "Exception")) true)
    (k : ∀ t' h', Fr g L h' m → News g L h' ((e, excRaw C t') :: rest) → Q .none { s with heap := h' }) : wpAny (model prog w) A (call (.builtin "Exception.__init__") [.ref e, v]) Q E s := by
  obtain ⟨sh, sg, sd, sk, so⟩ := s
  dsimp only at hC F N sub k
  have Fi := PySem.F.excBase_Exception
  have he := (N _ (.head _)).1
  have L1 : Looks (model prog w) sh (typeOf (.ref e)) (.ref C) := (Looks.ld he).andThen .now
  have L2 : Looks (model prog w) sh (isInstance (.ref e) (.type "Exception")) true := L1.andThen sub
  refine wpAny_call ?_
  refine codeAny_call_builtin Fi.init.plain Fi.initEntry ?_
  have hshort := Fi.noStar
  simp only [checkBuiltinCall, Fi.initKind, Fi.initSplit, Fi.initRow]
  refine wpAny_bind (L2.here ?_)
  repeat (first | with_reducible refine wpAny_loadPart_at hC ?_ | wp_step)
  have N1 := cb_drop (N.push F { cls := .type "tuple", data := .seq #[v] }) fun p hp => .tail _ hp
  obtain ⟨F2, N2⟩ := news_upd (pre := []) (f := Obj.mapFields (·.setIfInBounds 0 (.ref sh.objs.size))) (o' := excRaw C sh.objs.size) (F.push _) N1 (fun _ h => nomatch h) hne rfl rfl
  exact k _ _ F2 N2
end
section
variable {prog : Program} {w : World} {A : Around} {E : Value → Shared → Prop} {s : Shared} {g : Heap} {L C x d : Addr} {m : Str → Option Value} {v : Value} {name : Str} {tk : Tok} {K : Frag} {R : Result → Shared → Prop} {ox : Obj} {od : Option Obj} {cd : ClassData}
theorem exc_osa (X : K.In s.heap) (I : InstAt s.heap x ox C od) (hobj : subIn K (.ref C) (.type "object") = some true) (hc : clsIn K C = some cd) (hpass : ∀ self, refuseLoop self "__setattr__" cd.mro = pure ()) (ha : findIn K (.ref C) name = some none)
    (h : wpAny (model prog w) A.in1 (storeInOwnDict (.ref x) (.ref C) (.str name tk) name v false) (fun fin s' => match fin with | .done f => R (.ok f) s' | .again c' => c'.quiet = true ∧ codeAny (model prog w) A c' R s') (fun e s' => R (.error e) s') s) :
    codeAny (model prog w) A (.call (.builtin "object.__setattr__") ⟨[.ref x, .str name tk, v], []⟩) R s := by
  have SF := PySem.F.store_object
  have hm : Looks (model prog w) s.heap (mroOf (.ref C)) cd.mro := (looks_clsIn X hc).andThen .now
  refine codeAny_call_builtin SF.slot.plain SF.entry (@check_slot (model prog w) _ _ s "object.__setattr__" "object" "__setattr__" (.ref x) [.str name tk, v] [] _ SF.kind SF.split (I.type.andThen (looks_subIn X hobj)) (SF.args (.ref x) (.str name tk) v) ?_)
  rw [osa_eq, refuse_eq]
  refine wpAny_bind (wpAny_bind (I.type.here (wpAny_bind (hm.here ?_))))
  rw [hpass]
  refine wpAny_pure (wpAny_bind (I.type.here (wpAny_bind ((looks_findIn X ha).here (wpAny_bind (Looks.now.here ?_))))))
  exact h
theorem exc_put {es es' : List DictEntry} {n n' : Nat} {pre post : List (Addr × Obj)} {Q : Fin → Shared → Prop} (F : Fr g L s.heap m) (N : News g L s.heap (pre ++ (d, dictOf es n) :: post)) (h1 : ∀ p ∈ pre, p.1 ≠ d) (h2 : ∀ p ∈ post, p.1 ≠ d)
    (hc0 : (!es.toArray.any (·.key.isStr name) && es.toArray.any (·.refKey)) = false) (e : (putL name (PyData.keyHash w.params name) (.str name s.toks) v es, putN name es n) = (es', n')) (hz : es'.length ≤ 1000)
    (k : ∀ h', Fr g L h' m → News g L h' (pre ++ (d, dictOf es' n') :: post) → Q (.done (.ret .none)) { s with heap := h', toks := s.toks + 1 }) : wpAny (model prog w) A (storeInDict d (.str name tk) name v) Q E s := by
  obtain ⟨e1, e2⟩ := Prod.mk.inj e
  obtain ⟨U1, U2⟩ := news_upd (f := Obj.putName name (PyData.keyHash w.params name) (.str name s.toks) v) (o' := dictOf es' n') F N h1 h2 (by rw [putName_dict, e1, e2]) rfl
  have D := (N (d, dictOf es n) (by simp)).1
  have D' := (U2 (d, dictOf es' n') (by simp)).1
  unfold storeInDict newKeyGuard
  refine wpAny_bind (wpAny_pure (wpAny_bind ?_))
  unfold nsSet
  refine wpAny_bind (wpAny_bind (wpAny_askSetting (wpAny_pure (wpAny_bind (wpAny_mkText (wpAny_bind (wpAny_loadPart D ?_)))))))
  dsimp only [dictOf]
  rw [aRefKeyMayBeTheName_at, hc0]
  refine wpAny_updatePart D ?_
  refine wpAny_bind (wpAny_lookBehind D' (pastItsLine_dict (by rw [List.size_toArray, sizeLine_eq]; omega)) ?_)
  exact wpAny_pure (k _ U1 U2)
theorem exc_set1 {fs : Array Value} {rest : List (Addr × Obj)} {Q : Unit → Shared → Prop} (X : K.In g) (F : Fr g L s.heap m) (N : News g L s.heap ((x, ⟨.ref C, none, .fields fs, #[]⟩) :: rest)) (hne : ∀ p ∈ rest, p.1 ≠ x)
    (hs : findIn K (.ref C) "__setattr__" = some (some (.builtin "object.__setattr__"))) (hobj : subIn K (.ref C) (.type "object") = some true) (hc : clsIn K C = some cd) (hpass : ∀ self, refuseLoop self "__setattr__" cd.mro = pure ()) (ha : findIn K (.ref C) name = some none) (hdct : cd.hasDict = true)
    (k : ∀ d h' tk', Fr g L h' m → News g L h' ((d, dictOf [⟨PyData.keyHash w.params name, .str name tk', v⟩] 1) :: (x, ⟨.ref C, some d, .fields fs, #[]⟩) :: rest) → s.heap.get? d = none → x ≠ d → Q () { s with heap := h', toks := tk' + 1 }) :
    wpAny (model prog w) A (setAttr (.ref x) name v) Q E s := by
  obtain ⟨sh, sg, sd, sk, so⟩ := s
  dsimp only at F N k
  have hx := (N _ (.head _)).1
  have X' := X.keeps F.keep
  refine set_plain X' (ox := ⟨.ref C, none, .fields fs, #[]⟩) (od := none) ⟨hx, rfl, rfl, trivial⟩ hs ?_
  refine exc_osa X' (ox := ⟨.ref C, none, .fields fs, #[]⟩) (od := none) ⟨hx, rfl, rfl, trivial⟩ hobj hc hpass ha ?_
  refine wpAny_bind (wpAny_pure (wpAny_bind (wpAny_bind (wpAny_loadPart hx (wpAny_bind ((looks_clsIn X' hc).here ?_))))))
  rw [hdct]
  have xs : x ≠ sh.objs.size := Nat.ne_of_lt (Heap.lt_size hx)
  have N1 := N.push F { cls := .type "dict", data := .dict #[] }
  have F1 := F.push (h := sh) { cls := .type "dict", data := .dict #[] }
  obtain ⟨F2, N2⟩ := news_upd (pre := [(sh.objs.size, { cls := .type "dict", data := .dict #[] })]) (f := fun o => { o with dict := some sh.objs.size }) (o' := ⟨.ref C, some sh.objs.size, .fields fs, #[]⟩) F1 N1 (fun p hp => by rw [List.mem_singleton.mp hp]; exact xs.symm) hne rfl rfl
  have hx₁ : (sh.push { cls := .type "dict", data := .dict #[] }).get? x = some ⟨.ref C, none, .fields fs, #[]⟩ := Heap.get?_push_of_some _ hx
  refine wpAny_bind (wpAny_alloc' ?_)
  refine wpAny_bind (wpAny_update' hx₁ ?_)
  refine wpAny_pure ?_
  show wpAny _ _ (storeInDict sh.objs.size (.str name _) name v) _ _ _
  refine exc_put (pre := []) (es := []) (n := 0) F2 N2 (fun _ h => nomatch h) (fun p hp => ?_) (by simp) rfl (Nat.le_of_ble_eq_true rfl) ?_
  · rcases List.mem_cons.mp hp with rfl | hp
    · exact xs
    · exact Nat.ne_of_lt (Heap.lt_size (N _ (.tail _ hp)).1)
  intro h' F3 N3
  exact k sh.objs.size h' _ F3 N3 (Heap.get?_none_of_le (Nat.le_refl _)) xs
theorem exc_set2 {es es' : List DictEntry} {n n' : Nat} {fs : Array Value} {rest : List (Addr × Obj)} {Q : Unit → Shared → Prop} (X : K.In g) (F : Fr g L s.heap m) (N : News g L s.heap ((d, dictOf es n) :: (x, ⟨.ref C, some d, .fields fs, #[]⟩) :: rest)) (hne : ∀ p ∈ (x, (⟨.ref C, some d, .fields fs, #[]⟩ : Obj)) :: rest, p.1 ≠ d)
    (hs : findIn K (.ref C) "__setattr__" = some (some (.builtin "object.__setattr__"))) (hobj : subIn K (.ref C) (.type "object") = some true) (hc : clsIn K C = some cd) (hpass : ∀ self, refuseLoop self "__setattr__" cd.mro = pure ()) (ha : findIn K (.ref C) name = some none) (hdct : cd.hasDict = true)
    (hc0 : (!es.toArray.any (·.key.isStr name) && es.toArray.any (·.refKey)) = false) (hp : ∀ t, (putL name (PyData.keyHash w.params name) (.str name t) v es, putN name es n) = (es' ++ [⟨PyData.keyHash w.params name, .str name t, v⟩], n')) (hz : es'.length + 1 ≤ 1000)
    (k : ∀ h' tk', Fr g L h' m → News g L h' ((d, dictOf (es' ++ [⟨PyData.keyHash w.params name, .str name tk', v⟩]) n') :: (x, ⟨.ref C, some d, .fields fs, #[]⟩) :: rest) → Q () { s with heap := h', toks := tk' + 1 }) :
    wpAny (model prog w) A (setAttr (.ref x) name v) Q E s := by
  obtain ⟨sh, sg, sd, sk, so⟩ := s
  dsimp only at F N k
  have hd := (N _ (.head _)).1
  have hx := (N _ (.tail _ (.head _))).1
  have X' := X.keeps F.keep
  have I : InstAt sh x ⟨.ref C, some d, .fields fs, #[]⟩ C (some (dictOf es n)) := ⟨hx, rfl, rfl, hd⟩
  refine set_plain X' I hs ?_
  refine exc_osa X' I hobj hc hpass ha ?_
  refine wpAny_bind (wpAny_pure (wpAny_bind (wpAny_bind (wpAny_loadPart hx (wpAny_bind ((looks_clsIn X' hc).here ?_))))))
  rw [hdct]
  refine wpAny_pure (a := some d) ?_
  show wpAny _ _ (storeInDict d (.str name _) name v) _ _ _
  refine exc_put (pre := []) F N (fun _ h => nomatch h) hne hc0 (hp _) (by rw [List.length_append]; exact hz) ?_
  intro h' F3 N3
  exact k h' _ F3 N3
end
abbrev cdX (nm : Str) (C ns : Addr) : ClassData := { name := nm, bases := [.ref 32], mro := [.ref C, .ref 32, .type "Exception", .type "BaseException", .type "object"], ns := ns, qualname := nm }
abbrev clsX (nm : Str) (C ns b : Addr) (t1 t2 : Tok) : Obj := excClassObj nm nm C ns [.ref 32] [.ref 32, .type "Exception", .type "BaseException", .type "object"] true [] [] false none none (some (.ref b)) none (some (.str nm t1)) (some (.str nm t2)) (some (.bool true)) "Exception.__new__"
/-- what is known of the two classes -/
structure XCls (P : Params) (C : Addr) (nm : Str) (ns b : Addr) (t1 t2 : Tok) : Prop where
  obj : (KK P).lookup C = some (clsX nm C ns b t1 t2)
  cls : clsIn (KK P) C = some (cdX nm C ns)
  sub : subIn (KK P) (.ref C) (.type "Exception") = some true
  top : subIn (KK P) (.ref C) (.type "object") = some true
  set : findIn (KK P) (.ref C) "__setattr__" = some (some (.builtin "object.__setattr__"))
  msg : findIn (KK P) (.ref C) (Str.ofString "message") = some none
  spot : findIn (KK P) (.ref C) (Str.ofString "spot") = some none
  init : findIn (KK P) (.ref C) "__init__" = some (some (.ref 29))
theorem x45 (P : Params) : XCls P 45 (Str.ofString "GrammarFault") 44 36 221 229 := ⟨by kernel_rfl, by kernel_rfl, by kernel_rfl, by kernel_rfl, by kernel_rfl, by kernel_rfl, by kernel_rfl, by kernel_rfl⟩
theorem x57 (P : Params) : XCls P 57 (Str.ofString "TypeFault") 56 48 237 245 := ⟨by kernel_rfl, by kernel_rfl, by kernel_rfl, by kernel_rfl, by kernel_rfl, by kernel_rfl, by kernel_rfl, by kernel_rfl⟩
theorem x29 (P : Params) : typeIn (KK P) (.ref 29) = some (.type "function") := by kernel_rfl
theorem x_pass (nm : Str) (C ns : Addr) (self : Value) : refuseLoop self "__setattr__" (cdX nm C ns).mro = pure () := by
  show refuseLoop self "__setattr__" [.ref C, .ref 32, .type "Exception", .type "BaseException", .type "object"] = pure ()
  rw [refuseLoop_ref, refuseLoop_ref]
  exact PySem.F.store_Exception.passes self
theorem put_key {hh : Int} {t0 : Tok} {v0 : Value} : (!([⟨hh, .str (Str.ofString "message") t0, v0⟩] : List DictEntry).toArray.any (·.key.isStr (Str.ofString "spot")) && ([⟨hh, .str (Str.ofString "message") t0, v0⟩] : List DictEntry).toArray.any (·.refKey)) = false := by kernel_rfl
theorem put_val {hh h2 : Int} {t0 : Tok} {v0 key v : Value} : (putL (Str.ofString "spot") h2 key v [⟨hh, .str (Str.ofString "message") t0, v0⟩], putN (Str.ofString "spot") [⟨hh, .str (Str.ofString "message") t0, v0⟩] 1) = (([⟨hh, .str (Str.ofString "message") t0, v0⟩] : List DictEntry) ++ [⟨h2, key, v⟩], 2) := by kernel_rfl
section
variable {w : World} {dp un : Nat} {gd : Option (List Code)} {cn : Str} {cs : Scope} {a : Addr} {ccd : Value} {cl : List (Str × Addr)} {outer : List Env} {A₀ : Around} {base h₀ : Heap} {L : Addr} {m : Str → Option Value} {s : Shared} {Q E : Value → Shared → Prop}
    {p : Program} {loose : List Str} {mean : ExcName → Option Value} {mg mb : Str → Option Value} {C e t : Addr} {ot : Obj} {msg : Str} {sp : Int} {tk tl : Tok}
set_option maxHeartbeats 4000000 in
theorem exc_init (B : Below A₀ base outer h₀) (F : Fr h₀ L s.heap m) (X : (KK w.params).In h₀) (T : Top p loose mean mg mb h₀) (hk : cs.kind = .function) (hd : dp + 5 < recursionLimit) (hu : un + 20 < cLine)
    {nm : Str} {ns b : Addr} {t1 t2 : Tok} (xc : XCls w.params C nm ns b t1 t2) (hte : @LT.lt Nat _ t e) (N : News h₀ L s.heap [(e, excRaw C t), (t, ot)])
    (k : ∀ d h' tk', (∀ b o, s.heap.get? b = some o → b ≠ e → b ≠ t → h'.get? b = some o) → (∃ t', h'.get? e = some (excObj C d t')) → s.heap.get? d = none → DictAt h' d msg sp → Q .none { s with heap := h', toks := tk' }) :
    wpAny (model PR w) ((ktrTop dp un gd cn cs L a ccd cl outer).under (.builtin "type.__call__" ⟨.ref C :: [.str msg tk, .int sp tl], []⟩)) (call (.ref 29) [.ref e, .str msg tk, .int sp tl]) Q E s := by
  obtain ⟨sh, sg, sd, sk, so⟩ := s
  dsimp only at F N k
  refine wpAny_call ?_
  refine' enterS B F N X T ?kA ?kF ?kK ?k6 ?k7 ?k8 ?k9 ?kB ?_ ?c2 ?c3 ?c4 ?c5
  (case kA => exact rfl); (case kF => exact rfl); (case kK => assumption); (case k6 => k_dflt k_is); (case k7 => k_dflt k_is); (case k8 => rw [depth_under_make]; exact Nat.lt_trans (show dp + 1 < dp + 5 from Nat.add_lt_add_left (by decide) dp) hd); (case k9 => exact binds_K (X.keeps F.keep) rfl (by k_is) rfl rfl rfl); (case kB => exact locs rfl); (case c2 => exact rfl); (case c3 => exact rfl); (case c4 => exact rfl); (case c5 => decide)
  intro g L' h₁ tk₁ hkeep F' N' B' X' T'
  dsimp only
  refine anyQF ?_
  intro Q9 hQ9
  clear B X T hk
  replace F' := frCongr (m' := fun y => List.lookup y [(Str.ofString "spot", Value.int sp tl), (Str.ofString "message", Value.str msg tk), (Str.ofString "self", Value.ref e)]) F' (fun _ => rfl)
  have zz1 : StopAt "call builtin:Exception.__init__" := .mk
  k_steps
  refine method_type (T := "Exception") (v := .builtin "Exception.__init__") (by assumption) X' (by rfl) (by decide +kernel) (by kernel_rfl) (by decide +kernel) ?_
  k_steps
  unfold Halt
  refine' exc_base (t := t) ?zzC ?zzF ?zzN ?zzne ?zzsub ?_
  (case zzF => assumption); (case zzN => assumption); (case zzne => exact fun p hp => by rw [List.mem_singleton.mp hp]; exact Nat.ne_of_lt hte)
  (case zzC => exact (X'.keeps (Fr.keep (by assumption))) _ _ xc.obj)
  (case zzsub => exact looks_subIn (X'.keeps (Fr.keep (by assumption))) xc.sub)
  intro t' h2 F2 N2
  dsimp only
  clear F' N'
  have zz2 : StopAt "setAttr ref" := .mk
  k_steps
  unfold Halt
  have ht2 := (N2 (t, ot) (.tail _ (.head _))).1
  have hk2 := F2.keep
  refine' exc_set1 X' F2 N2 ?zzne xc.set xc.top xc.cls (x_pass _ _ _) xc.msg rfl ?_
  (case zzne => exact fun p hp => by rw [List.mem_singleton.mp hp]; exact Nat.ne_of_lt hte)
  intro d h3 tk3 F3 N3 fd xd
  have td : t ≠ d := fun q => by rw [q] at ht2; exact absurd (ht2.symm.trans fd) (by simp)
  have sd : sh.get? d = none := by
    cases q : sh.get? d with
    | none => rfl
    | some o =>
      have := hk2 _ _ (hkeep d o q (fun hm => by
        rcases List.mem_cons.mp hm with h | h
        · exact xd h.symm
        · exact td (List.mem_singleton.mp h).symm))
      exact absurd (this.symm.trans fd) (by simp)
  clear F2 N2 ht2 hk2 fd
  dsimp only
  k_steps
  unfold Halt
  (rename Fr _ _ _ _ => F4)
  (rename News _ _ _ _ => N4)
  refine' exc_set2 (es' := [⟨PyData.keyHash w.params (Str.ofString "message"), .str (Str.ofString "message") tk3, .str msg tk⟩]) (n' := 2) X' F4 N4 ?zzne xc.set xc.top xc.cls (x_pass _ _ _) xc.spot rfl ?zzc0 ?zzp ?zzz ?_
  (case zzne => exact List.forall_mem_cons.mpr ⟨xd, List.forall_mem_cons.mpr ⟨td, fun _ h => nomatch h⟩⟩)
  (case zzc0 => exact put_key)
  (case zzp => exact fun _ => put_val)
  (case zzz => exact Nat.le_of_ble_eq_true rfl)
  intro h5 tk5 F5 N5
  clear F4 N4
  have k9 := fun tk9 => hQ9 .next _ (k d h5 tk9 (fun b o q ne nt => F5.keep b o (hkeep b o q (fun hm => (List.mem_cons.mp hm).elim ne fun h => nt (List.mem_singleton.mp h)))) ⟨t', (N5 _ (.tail _ (.head _))).1⟩ sd ⟨_, _, _, _, _, _, _, (N5 _ (.head _)).1⟩)
  clear hQ9 k hkeep
  dsimp only
  k_steps
  exact k9 _
end
section
variable {w : World} {dp un : Nat} {gd : Option (List Code)} {cn : Str} {cs : Scope} {a : Addr} {ccd : Value} {cl : List (Str × Addr)} {outer : List Env} {A₀ : Around} {base h₀ : Heap} {L : Addr} {m : Str → Option Value} {s : Shared} {Q E : Value → Shared → Prop}
    {p : Program} {loose : List Str} {mean : ExcName → Option Value} {mg mb : Str → Option Value} {C : Addr} {msg : Str} {sp : Int} {tk tl : Tok} {nm : Str} {ns b : Addr} {t1 t2 : Tok}
theorem newsFresh {h h' : Heap} {D : Addr} {o : Obj} (F : Fr h₀ L h m) (hf : h.get? D = none) (ho : h'.get? D = some o) : h'.get? D = some o ∧ D ≠ L ∧ h₀.get? D = none := by
  refine ⟨ho, fun e => ?_, ?_⟩
  · obtain ⟨oL, es, ep, hL, _⟩ := F.ns
    rw [e, hL] at hf; cases hf
  · cases z : h₀.get? D with
    | none => rfl
    | some o' => have := F.keep _ _ z; rw [hf] at this; cases this
theorem C_exc (xc : XCls w.params C nm ns b t1 t2) (B : Below A₀ base outer h₀) (F : Fr h₀ L s.heap m) (X : (KK w.params).In h₀) (T : Top p loose mean mg mb h₀) (hk : cs.kind = .function) (hd : dp + 5 < recursionLimit) (hu : un + 20 < cLine) (k : ExcK s Q C msg sp) :
    wpAny (model PR w) (ktrTop dp un gd cn cs L a ccd cl outer) (call (.ref C) [.str msg tk, .int sp tl]) Q E s := by
  obtain ⟨sh, sg, sd, sk, so⟩ := s
  dsimp only at F
  have X' := X.keeps F.keep
  refine exc_call (f := 29) (X' _ _ xc.obj) (by decide +kernel) (by decide +kernel) (by decide +kernel) (Nat.le_of_ble_eq_true rfl) (looks_findIn X' xc.init) (fun self => bind_fn X' self (x29 _)) ?_
  intro h' e t' hm
  obtain ⟨ot, hot⟩ := hm.tup
  refine exc_init (ot := ot) (s := ⟨h', sg, sd, sk, so⟩) B (stayF F hm.keeps) X T hk hd hu xc hm.ne (fun q hq => ?_) ?_
  · rcases List.mem_cons.mp hq with rfl | hq
    · exact newsFresh F hm.newE hm.obj
    · rw [List.mem_singleton.mp hq]; exact newsFresh F hm.newT hot
  intro d h2 tk2 hk2 hobj hd2 hD
  refine ⟨rfl, k e d h2 tk2 (fun b o q => hk2 b o (hm.keeps b o q) (fun z => ?_) (fun z => ?_)) ⟨hobj, hm.newE, ?_, hD⟩⟩
  · rw [z] at q; exact absurd (q.symm.trans hm.newE) (by simp)
  · rw [z] at q; exact absurd (q.symm.trans hm.newT) (by simp)
  · cases z : sh.get? d with
    | none => rfl
    | some o => exact absurd ((hm.keeps _ _ z).symm.trans hd2) (by simp)
end
end
/- part X2 -/
section
open PySem PySem.W PySem.W.X PyProof.Rows PySem.Calls PySem.Spec
section
variable {M : Model} {A : Around} {E : Value → Shared → Prop} {env : Env}
variable {nm q : Str} {C N d : Addr} {bs bm : List Value} {hdct : Bool} {sn : List Str} {sub : List Value} {ab : Bool} {col : Option Bool} {dd : Option Addr} {k0 k1 k2 k3 k5 : Option Value} {newId : String}

theorem my_raiseStmt {s : Shared} {x : Sem Value} {Q : Flow → Shared → Prop} (hbase : bm.contains (.type "BaseException") = true) (hh : A.handled = none)
    (h : wpAny M A x (fun v s₁ => ∃ e t, v = .ref e ∧ s₁.heap.get? C = some (excClassObj nm q C N bs bm hdct sn sub ab col dd k0 k1 k2 k3 k5 newId) ∧
      s₁.heap.get? e = some (excObj C d t) ∧ E (.ref e) s₁) E s) :
    wpAny M A (raiseStmt env (some x) none) Q E s := by
  have hcB : (Value.ref C :: bm).contains (.type "BaseException") = true := by rw [List.contains_cons, hbase, Bool.or_true]
  unfold raiseStmt
  refine wpAny_bind (wpAny_mono h (fun v s₁ h₁ => ?_) fun _ _ x => x)
  obtain ⟨e, t, rfl, hC, he, hE⟩ := h₁
  obtain ⟨hp, g, d, tk, os⟩ := s₁
  repeat (first | with_reducible refine wpAny_loadPart_at he ?_ | with_reducible refine wpAny_loadPart_at hC ?_ | (with_reducible refine wpAny_isSubtype_exc hC ?_; rw [hcB]) | wp_step)
  exact wpAny_raiseNew_none hh hE
end
section
variable {prog : Program} {w : World} {A : Around} {E : Value → Shared → Prop} {s : Shared} {env : Env}
theorem my_raise {K : Frag} {C : Addr} {x : PySem.Expr} {pos : Pos} {Q : Flow → Shared → Prop} (hh : A.handled = none) (hq : ktsIn K C "BaseException" = true)
    (h : wpAny (model prog w) A (eval x env) (fun v s₁ => ∃ e d t, v = .ref e ∧ K.In s₁.heap ∧ s₁.heap.get? e = some (excObj C d t) ∧ E (.ref e) s₁) E s) :
    wpAny (model prog w) A (exec (.Raise (some x) none pos) env) Q E s := by
  rw [arm_exec_Raise]
  simp only [evalOpt, Option.map]
  refine wpAny_bind (wpAny_standAt ?_)
  unfold raiseStmt
  refine wpAny_bind (wpAny_bind (wpAny_mono h (fun v s₁ h₁ => wpAny_bind (wpAny_standAt (wpAny_pure ?_))) fun _ _ x => x))
  obtain ⟨e, d, t, rfl, X, he, hE⟩ := h₁
  obtain ⟨nm, q', N, bs, bm, hdct, sn, sub, ab, col, dd, k0, k1, k2, k3, k5, newId, hC, hbase, _⟩ := kts_cls X hq
  have hcB : (Value.ref C :: bm).contains (.type "BaseException") = true := by rw [List.contains_cons, hbase, Bool.or_true]
  obtain ⟨hp, g, dr, tk, os⟩ := s₁
  repeat (first | with_reducible refine wpAny_loadPart_at he ?_ | with_reducible refine wpAny_loadPart_at hC ?_ | (with_reducible refine wpAny_isSubtype_exc hC ?_; rw [hcB]) | wp_step)
  exact wpAny_raiseNew_none hh hE
end

/-- an exception on its way: its class, its dict; its newest entry's flag -/
def TracedD (h base : Heap) (e : Addr) (cls : Value) (d : Addr) (fl : Value) : Prop :=
  ∃ oe vs T oT ts, h.get? e = some oe ∧ oe.cls = cls ∧ oe.dict = some d ∧ oe.data = .fields vs ∧ vs[1]? = some (.ref T) ∧ base.get? T = none ∧ T ≠ e ∧ h.get? T = some oT ∧ oT.data = .fields ts ∧ ts[3]? = some fl
structure FlyD (base : Heap) (l : List Env) (e : Addr) (cls : Value) (d : Addr) (fl : Value) (h : Heap) : Prop where
  stays : base.StaysIn h
  new : base.get? e = none
  frames : h.FunFrames base l
  traced : TracedD h base e cls d fl

theorem mapF_dict (f : Array Value → Array Value) (o : Obj) : (o.mapFields f).dict = o.dict := by
  obtain ⟨c, d, dt, sl⟩ := o
  cases dt <;> rfl

section
variable {M : Model} {A : Around} {E : Value → Shared → Prop} {s : Shared}

/-- one more entry on the exception's trace -/
theorem entryD {base : Heap} {env : Env} {outer : List Env} {L e d : Addr} {oe : Obj} {vs : Array Value} {head : Value} {hadNext : Bool} {Q : Unit → Shared → Prop}
    (hfr : A.frames = some (env :: outer)) (hl : s.heap.FunFrames base (env :: outer)) (hf : env.frame = some L)
    (he : s.heap.get? e = some oe) (hkb : base.StaysIn s.heap) (hen : base.get? e = none) (hd : oe.data = .fields vs) (hsz : 1 < vs.size) (hdict : oe.dict = some d)
    (h : ∀ h', FlyD base (env :: outer) e oe.cls d (rawInt L) h' → s.heap.UpToSlots h' → Q () { s with heap := h' }) :
    wpAny M A (do let a ← frameOf env; let pl ← entryPlaceOf L hadNext; let b ← EntryCells.newEntry head a .none (rawInt L) .none pl; setField (.ref e) 1 b) Q E s := by
  have hene : e ∉ (env :: outer).filterMap (·.frame) := fun hm => by
    obtain ⟨_, o, ho, hnf⟩ := hl.mem hm
    rw [he] at ho; injection ho with ho; subst ho; exact hnf vs hd
  refine wpAny_bind (wpAny_frameOf_fun hfr hl hf fun h₁ hs₁ => ?_)
  refine wpAny_bind (wpAny_entryPlaceOf fun pl hpl => ?_)
  unfold EntryCells.newEntry newFields
  refine wpAny_bind (wpAny_newObj_type ?_ (hpl.sizeOk5 _ _ _ _ _))
  have he₁ : h₁.get? e = some oe := (hs₁.2.1 e hene).trans he
  have kb₁ : base.StaysIn h₁ := fun b o hbo => (hs₁.2.1 b fun hm => by rw [(hl.mem hm).1] at hbo; cases hbo).trans (hkb b o hbo)
  generalize hto : ({ cls := .type "traceback", dict := none, data := .fields ([head, .ref L, .none, rawInt L, .none] ++ (if pl.isEmpty then List.replicate 6 Value.none else pl)).toArray } : Obj) = tO
  have htd : ∃ ts, tO.data = .fields ts ∧ ts[3]? = some (rawInt L) := by
    subst hto
    exact ⟨_, rfl, by first | (simp; done) | (rcases hpl with rfl | ⟨_, _, _, _, _, _, _, rfl⟩ <;> simp)⟩
  obtain ⟨ts, htd, ht3⟩ := htd
  have he₂ := Heap.get?_push_of_some (h := h₁) tO he₁
  refine wpAny_setField he₂ hd hsz (h _ ?_ ?_)
  · have hTe : h₁.objs.size ≠ e := Nat.ne_of_gt (Heap.lt_size he₁)
    have hd₃ := Obj.data_mapFields hd (·.setIfInBounds 1 (Value.ref h₁.objs.size))
    have he₃ := Heap.get?_update_self (Obj.mapFields (·.setIfInBounds 1 (Value.ref h₁.objs.size))) he₂ (Obj.isFreed_of_fields hd₃)
    have hT₃ := (Heap.get?_update_other (h₁.push tO) (Obj.mapFields (·.setIfInBounds 1 (Value.ref h₁.objs.size))) (Ne.symm hTe)).trans (Heap.get?_push_size h₁ (Obj.isFreed_of_fields htd))
    have keep : ∀ b o, b ≠ e → h₁.get? b = some o → ((h₁.push tO).update e (Obj.mapFields (·.setIfInBounds 1 (Value.ref h₁.objs.size)))).get? b = some o := fun b o hbe hb => by
      rw [Heap.get?_update_other _ _ (Ne.symm hbe)]
      exact Heap.get?_push_of_some _ hb
    refine ⟨fun b o hbo => keep b o (fun q => by rw [q, hen] at hbo; cases hbo) (kb₁ b o hbo), hen, hl.of_keeps fun b o hb hnf => ?_, ?_⟩
    · obtain ⟨sl, hs⟩ := hs₁.2.2 b o hb
      exact ⟨_, keep b _ (fun q => by rw [q, he] at hb; injection hb with hb; subst hb; exact hnf vs hd) hs, rfl⟩
    · exact ⟨_, _, h₁.objs.size, _, _, he₃, Obj.cls_mapFields _ _, (mapF_dict _ _).trans hdict, hd₃, by simp [hsz], kb₁.fresh, hTe, hT₃, htd, ht3⟩
  · intro b o hb hnf
    obtain ⟨sl, hs⟩ := hs₁.2.2 b o hb
    refine ⟨sl, ?_⟩
    have hbe : b ≠ e := fun q => by rw [q, he] at hb; injection hb with hb; subst hb; exact hnf vs hd
    rw [Heap.get?_update_other _ _ (Ne.symm hbe)]
    exact Heap.get?_push_of_some _ hs

/-- the flag is taken off -/
theorem flightD {base : Heap} {l : List Env} {e d : Addr} {cls fl : Value} {Q : Unit → Shared → Prop} (hh : FlyD base l e cls d fl s.heap)
    (h : ∀ h', FlyD base l e cls d .none h' → s.heap.UpToSlots h' → Q () { s with heap := h' }) : wpAny M A (setFlight (.ref e) none) Q E s := by
  obtain ⟨hkb, hen, hl, oe, vs, T, oT, ts, he, hcls, hdict, hd, h1, hnT, hTe, hT, hdT, h3⟩ := hh
  have hsz3 : 3 < ts.size := (Array.getElem?_eq_some_iff.mp h3).1
  have other : ∀ b, b ≠ T → (s.heap.update T (Obj.mapFields (·.setIfInBounds 3 ((none : Option Addr).elim Value.none fun f => rawInt f)))).get? b = s.heap.get? b :=
    fun b hb => Heap.get?_update_other _ _ (Ne.symm hb)
  have noRecord : ∀ b o, s.heap.get? b = some o → (∀ vs, o.data ≠ .fields vs) → b ≠ T := fun b o hb hnf q => by
    rw [q, hT] at hb; injection hb with hb; subst hb; exact hnf ts hdT
  unfold setFlight
  refine wpAny_bind (wpAny_field he hd h1 ?_)
  rw [if_pos (show (Value.ref T != Value.none) = true from by simp)]
  refine wpAny_setField hT hdT hsz3 (h _ ⟨fun b o hbo => (other b fun q => by rw [q, hnT] at hbo; cases hbo).trans (hkb b o hbo), hen,
    hl.of_keeps fun b o hb hnf => ⟨o, (other b (noRecord b o hb hnf)).trans hb, rfl⟩, ?_⟩ fun b o hb hnf => ⟨o.slots, (other b (noRecord b o hb hnf)).trans hb⟩)
  exact ⟨oe, vs, T, _, _, (other e (Ne.symm hTe)).trans he, hcls, hdict, hd, h1, hnT, hTe, Heap.get?_update_self _ hT (Obj.isFreed_of_fields (Obj.data_mapFields hdT _)), Obj.data_mapFields hdT _, by simp [hsz3]⟩

/-- a fresh exception leaves the frame that raised it -/
theorem leaveNewD {base : Heap} {env : Env} {outer : List Env} {L e d C t : Addr} {Q : Unit → Shared → Prop}
    (hfr : A.frames = some (env :: outer)) (hl : s.heap.FunFrames base (env :: outer)) (hf : env.frame = some L)
    (he : s.heap.get? e = some (excObj C d t)) (hkb : base.StaysIn s.heap) (hen : base.get? e = none)
    (h : ∀ h', FlyD base outer e (.ref C) d .none h' → s.heap.UpToSlots h' → Q () { s with heap := h' }) : wpAny M A (leaving env (.ref e)) Q E s := by
  unfold leaving noteFrame
  simp only [hf]
  refine wpAny_bind (wpAny_bind (wpAny_field he rfl (x := .none) rfl ?_))
  rw [if_neg (by decide)]
  refine entryD hfr hl hf he hkb hen rfl (by simp) rfl fun h' H U => ?_
  refine flightD (s := { s with heap := h' }) H fun h'' H' U' => h h'' ⟨H'.stays, H'.new, H'.frames.2.2, H'.traced⟩ (U.trans U')

/-- the frame that holds the try notes it -/
theorem noteD {base : Heap} {env : Env} {outer : List Env} {L e d : Addr} {cls : Value} {Q : Unit → Shared → Prop}
    (hfr : A.frames = some (env :: outer)) (hf : env.frame = some L) (hh : FlyD base (env :: outer) e cls d .none s.heap)
    (h : ∀ h', FlyD base (env :: outer) e cls d (rawInt L) h' → s.heap.UpToSlots h' → Q () { s with heap := h' }) : wpAny M A (noteFrame (.ref e) env) Q E s := by
  obtain ⟨hkb, hen, hl, oe, vs, T, oT, ts, he, hcls, hdict, hd, h1, hnT, hTe, hT, hdT, h3⟩ := hh
  subst hcls
  unfold noteFrame
  simp only [hf]
  refine wpAny_bind (wpAny_field he hd h1 ?_)
  rw [if_pos (show (Value.ref T != Value.none) = true from by simp)]
  refine wpAny_bind (wpAny_field hT hdT h3 ?_)
  rw [if_neg (show ¬ ((Value.none == rawInt L) = true) from by simp [rawInt])]
  refine wpAny_bind (wpAny_setField hT hdT (Array.getElem?_eq_some_iff.mp h3).1 ?_)
  have other : ∀ b, b ≠ T → (s.heap.update T (Obj.mapFields (·.setIfInBounds 3 Value.none))).get? b = s.heap.get? b := fun b hb => Heap.get?_update_other _ _ (Ne.symm hb)
  have noRecord : ∀ b o, s.heap.get? b = some o → (∀ vs, o.data ≠ .fields vs) → b ≠ T := fun b o hb hnf q => by
    rw [q, hT] at hb; injection hb with hb; subst hb; exact hnf ts hdT
  exact entryD (s := { s with heap := s.heap.update T (Obj.mapFields (·.setIfInBounds 3 Value.none)) }) hfr (hl.of_keeps fun b o hb hnf => ⟨o, (other b (noRecord b o hb hnf)).trans hb, rfl⟩) hf ((other e (Ne.symm hTe)).trans he)
    (fun b o hbo => (other b fun q => by rw [q, hnT] at hbo; cases hbo).trans (hkb b o hbo)) hen hd (Array.getElem?_eq_some_iff.mp h1).1 hdict
    fun h' H U => h h' H fun b o hb hnf => U b o ((other b (noRecord b o hb hnf)).trans hb) hnf
end
end
/- part X3 -/
section
open PySem PySem.W PySem.W.X PyProof.Rows PySem.Calls PySem.Spec
section
variable {w : World} {dp un : Nat} {gd : Option (List Code)} {cn : Str} {cs : Scope} {a : Addr} {ccd : Value} {cl : List (Str × Addr)} {outer : List Env} {A₀ : Around} {base h₀ : Heap} {L : Addr} {m : Str → Option Value} {s : Shared} {Q E : Value → Shared → Prop} {news : List (Addr × Obj)} {A₀ : Around} {base : Heap} {p : Program} {loose : List Str} {mean : ExcName → Option Value} {mg mb : Str → Option Value}
/-- an exception object made in a walk -/
theorem U_exc {C : Addr} {msg : Str} {sp : Int} {tk tl : Tok} (hC : C = 45 ∨ C = 57) (B : Below A₀ base outer h₀) (F : Fr h₀ L s.heap m) (X : (KK w.params).In h₀) (T : Top p loose mean mg mb h₀) (hk : cs.kind = .function) (N : News h₀ L s.heap news) (hd : dp < 400) (hu : un < 200)
    (k : ∀ e d t h' tk', Fr h₀ L h' m → News h₀ L h' news → h₀.get? e = none → h₀.get? d = none → d ≠ L → h'.get? e = some (excObj C d t) → DictAt h' d msg sp → Q (.ref e) { s with heap := h', toks := tk' }) :
    wpAny (model PR w) (ktrTop dp un gd cn cs L a ccd cl outer) (call (.ref C) [.str msg tk, .int sp tl]) Q E s := by
  have kk : ExcK s Q C msg sp := fun e d h' tk' st x => by
    obtain ⟨t, ht⟩ := x.obj
    obtain ⟨oL, es, ep, hL, _⟩ := F.ns
    have none_ : ∀ {b : Addr}, s.heap.get? b = none → h₀.get? b = none := fun {b} hb => by
      cases q : h₀.get? b with
      | none => rfl
      | some o => have := F.keep _ _ q; rw [hb] at this; cases this
    exact k e d t h' tk' (stayF F st) (stayN N st) (none_ x.newE) (none_ x.newD) (fun q => by have := x.newD; rw [q, hL] at this; cases this) ht x.dict
  have hd1 : dp + 5 < recursionLimit := Nat.lt_of_lt_of_le (Nat.add_lt_add_right hd 5) (by decide)
  have hu1 : un + 20 < cLine := Nat.lt_of_lt_of_le (Nat.add_lt_add_right hu 20) (by decide)
  rcases hC with rfl | rfl
  · exact C_exc (x45 _) B F X T hk hd1 hu1 kk
  · exact C_exc (x57 _) B F X T hk hd1 hu1 kk
end

theorem kts45 (P : Params) : ktsIn (KK P) 45 "BaseException" = true := by kernel_rfl
theorem kts57 (P : Params) : ktsIn (KK P) 57 "BaseException" = true := by kernel_rfl
def RaiseEnd (w : World) (C : Addr) (E : Value → Shared → Prop) (v : Value) (s₁ : Shared) : Prop := ∃ e d t, v = .ref e ∧ (KK w.params).In s₁.heap ∧ s₁.heap.get? e = some (excObj C d t) ∧ E (.ref e) s₁
theorem raise_of {w : World} {A : Around} {E : Value → Shared → Prop} {s : Shared} {env : Env} {C : Addr} (hC : C = 45 ∨ C = 57) {x : PySem.Expr} {pos : Pos} {Q : Flow → Shared → Prop} (hh : A.handled = none)
    (h : wpAny (model PR w) A (eval x env) (RaiseEnd w C E) E s) :
    wpAny (model PR w) A (exec (.Raise (some x) none pos) env) Q E s := my_raise hh (by rcases hC with rfl | rfl; exact kts45 _; exact kts57 _) h
theorem raise_end {M : Model} {A : Around} {base g h₂ : Heap} {env : Env} {outer : List Env} {L a e d C t : Addr} {m : Str → Option Value} {name : Str} {scope : Scope} {cd : Value} {s : Shared} {gs : Array GenState} {dr : Drawn} {tk : Nat} {os : OsState} {w : World} {msg : Str} {sp : Int} {Q : Value → Unit → Shared → Prop} {E : Value → Value → Shared → Prop}
    (X : (KK w.params).In g) (B : Below A base (env :: outer) g) (F : Fr g L h₂ m) (he : h₂.get? e = some (excObj C d t)) (ge : g.get? e = none) (gd : g.get? d = none) (dL : d ≠ L) (D : DictAt h₂ d msg sp) (cover : ∀ b o, s.heap.get? b = some o → g.get? b = some o)
    (k : ∀ h' B', (∀ b o, s.heap.get? b = some o → b ∉ (env :: outer).filterMap (·.frame) → B'.get? b = some o) → FlyD B' (env :: outer) e (.ref C) d .none h' → s.heap.UpToSlots h' → s.heap.get? e = none → s.heap.get? d = none → DictAt B' d msg sp → Q (.ref e) () ⟨h', gs, dr, tk, os⟩)
    (hk : scope.kind = .function := by rfl) : RaiseEnd w C (fun e s' => wpAny M (A.deeper (envOf name scope L a cd)) (leaving (envOf name scope L a cd) e) (Q e) (E e) s') (.ref e) ⟨h₂, gs, dr, tk, os⟩ := by
  refine ⟨e, d, t, rfl, X.keeps F.keep, he, ?_⟩
  have B₁ := pushX (env := envOf name scope L a cd) B F rfl hk
  have gL : g.get? L = none := kts_self F
  have none_ : ∀ {b : Addr}, g.get? b = none → s.heap.get? b = none := fun {b} hb => by
    cases q : s.heap.get? b with
    | none => rfl
    | some o => have := cover _ _ q; rw [hb] at this; cases this
  have inG : ∀ {b : Addr}, b ∈ (env :: outer).filterMap (·.frame) → ∃ o, g.get? b = some o := fun {b} hb => by
    obtain ⟨_, o, ho, _⟩ := B.frames.mem hb; exact ⟨o, ho⟩
  have hfm : (envOf name scope L a cd :: env :: outer).filterMap (·.frame) = L :: (env :: outer).filterMap (·.frame) := rfl
  have nd : d ∉ e :: (envOf name scope L a cd :: env :: outer).filterMap (·.frame) := fun hm => by
    rw [hfm] at hm
    rcases List.mem_cons.mp hm with q | hm
    · obtain ⟨h1, h2, t1, t3, tk1, tl, n, ho⟩ := D
      rw [q, he] at ho; cases ho
    · rcases List.mem_cons.mp hm with q | hm
      · exact dL q
      · obtain ⟨o, ho⟩ := inG hm; rw [gd] at ho; cases ho
  refine leaveNewD (base := hideAll h₂ (e :: (envOf name scope L a cd :: env :: outer).filterMap (·.frame))) (Around.frames_deeper B.stack)
    (funFrames_hide B₁.frames fun env' he' b hb => List.mem_cons_of_mem _ (List.mem_filterMap.mpr ⟨env', he', hb⟩)) rfl he (fun b o q => of_hideAll _ q) (hideAll_none _ (.head _)) fun h' H U => ?_
  refine k h' _ (fun b o hb hn => hideAll_get _ (F.keep b o (cover b o hb)) fun hm => ?_) H (fun b o hb hnf => U b o (F.keep b o (cover b o hb)) hnf) (none_ ge) (none_ gd) ?_
  · rw [hfm] at hm
    rcases List.mem_cons.mp hm with q | hm
    · have := cover b o hb; rw [q, ge] at this; cases this
    · rcases List.mem_cons.mp hm with q | hm
      · have := cover b o hb; rw [q, gL] at this; cases this
      · exact hn hm
  · obtain ⟨h1, h2, t1, t3, tk1, tl, n, ho⟩ := D
    exact ⟨h1, h2, t1, t3, tk1, tl, n, hideAll_get _ ho nd⟩
end
/- part X4 -/
section
open PySem PySem.W PyProof.Rows PySem.Calls PySem.Spec

abbrev mChk (u ut : Option Value) (LD Ah rA : Addr) (mo ma : Int) (tmo tma : Tok) : Str → Option Value := fun y =>
  if y = Str.ofString "word" then u else if y = Str.ofString "text" then ut else if y = Str.ofString "last" then some (.ref LD) else if y = Str.ofString "ahead" then some (.ref Ah) else if y = Str.ofString "rows" then some (.ref rA) else if y = Str.ofString "most_open" then some (.int mo tmo) else if y = Str.ofString "most_ahead" then some (.int ma tma) else none

def textOf (v : Wd) : Str := if (v.k == Str.ofString "sign") = true then v.t else Str.ofString ""
def stepC (lk lt : Str) (v : Wd) (st : List Int) : List Int :=
  if (openers.any (· == textOf v)) = true then List.set st (st.length - 1) (st.getD (-1 + (st.length : Int)).toNat 0 + (if (textOf v == Str.ofString "[") = true then 1 else 0)) ++ [0]
  else if (closers.any (· == textOf v)) = true then (if (1 : Int) < (st.length : Int) then List.take (st.length - 1) st else st)
  else List.set st (st.length - 1) (signsF (st.getD (-1 + (st.length : Int)).toNat 0) lk lt v.k v.t)
def chk (mo ma : Int) : List Wd → Str → Str → List Int → Option (Bool × Int)
  | [], _, _, _ => none
  | v :: ws, lk, lt, st => if mo < ((stepC lk lt v st).length : Int) - 1 then some (true, v.sp) else if ma < (stepC lk lt v st).sum then some (false, v.sp) else chk mo ma ws v.k v.t (stepC lk lt v st)

theorem mChk_turn (u ut c c' : Option Value) (D LD Ah rA : Addr) (mo ma : Int) (tmo tma : Tok) (y : Str) :
    (if y = Str.ofString "last" then some (Value.ref D) else if y = Str.ofString "text" then c' else if y = Str.ofString "word" then c else mChk u ut LD Ah rA mo ma tmo tma y) = mChk c c' D Ah rA mo ma tmo tma y := by
  unfold mChk
  by_cases h1 : y = Str.ofString "word"
  · subst h1
    rw [if_neg (by decide), if_neg (by decide), if_pos rfl, if_pos rfl]
  · by_cases h2 : y = Str.ofString "last"
    · subst h2; rw [if_pos rfl, if_neg (by decide), if_neg (by decide), if_pos rfl]
    · by_cases h3 : y = Str.ofString "text"
      · subst h3; rw [if_neg (by decide), if_pos rfl, if_neg (by decide), if_pos rfl]
      · rw [if_neg h2, if_neg h3, if_neg h1, if_neg h1, if_neg h3, if_neg h2, if_neg h1, if_neg h3, if_neg h2]
theorem mChk_start (l0 D0 rA : Addr) (mo ma : Int) (tmo tma : Tok) (y : Str) :
    (if y = Str.ofString "ahead" then some (Value.ref l0) else if y = Str.ofString "last" then some (Value.ref D0) else List.lookup y [(Str.ofString "most_ahead", Value.int ma tma), (Str.ofString "most_open", Value.int mo tmo), (Str.ofString "rows", Value.ref rA)]) = mChk none none D0 l0 rA mo ma tmo tma y := by
  unfold mChk
  by_cases h3 : y = Str.ofString "ahead"
  · subst h3; rw [if_pos rfl, if_neg (by decide), if_neg (by decide), if_neg (by decide), if_pos rfl]
  · by_cases h2 : y = Str.ofString "last"
    · subst h2; rw [if_neg (by decide), if_pos rfl, if_neg (by decide), if_neg (by decide), if_pos rfl]
    · rw [if_neg h3, if_neg h2]
      by_cases h1 : y = Str.ofString "word"
      · subst h1; rw [if_pos rfl]; rfl
      · by_cases h0 : y = Str.ofString "text"
        · subst h0; rw [if_neg (by decide), if_pos rfl]; rfl
        · rw [if_neg h1, if_neg h0, if_neg h2, if_neg h3]
          simp only [List.lookup]
          by_cases h4 : y = Str.ofString "rows"
          · subst h4; rw [if_pos rfl]; rfl
          · by_cases h5 : y = Str.ofString "most_open"
            · subst h5; rw [if_neg (by decide), if_pos rfl]; rfl
            · by_cases h6 : y = Str.ofString "most_ahead"
              · subst h6; rw [if_neg (by decide), if_neg (by decide), if_pos rfl]; rfl
              · rw [if_neg h4, if_neg h5, if_neg h6]
                rw [show (y == Str.ofString "most_ahead") = false from beq_eq_false_iff_ne.mpr h6, show (y == Str.ofString "most_open") = false from beq_eq_false_iff_ne.mpr h5, show (y == Str.ofString "rows") = false from beq_eq_false_iff_ne.mpr h4]
section
variable {mo ma : Int} {ws : List Wd} {i : Nat} {lk lt : Str} {st st' : List Int} {x : Wd} {X : Option (Bool × Int)}
theorem sT_open (h : (openers.any fun y => y == textOf x) = true) : stepC lk lt x st = List.set st (st.length - 1) (st.getD (-1 + (st.length : Int)).toNat 0 + (if (textOf x == Str.ofString "[") = true then 1 else 0)) ++ [0] := by
  unfold stepC; rw [if_pos h]
theorem sT_close (h : (openers.any fun y => y == textOf x) = false) (h2 : (closers.any fun y => y == textOf x) = true) (h3 : (1 : Int) < (st.length : Int)) : stepC lk lt x st = List.take (st.length - 1) st := by
  unfold stepC; rw [if_neg (by rw [h]; decide), if_pos h2, if_pos h3]
theorem sT_close' (h : (openers.any fun y => y == textOf x) = false) (h2 : (closers.any fun y => y == textOf x) = true) (h3 : ¬ (1 : Int) < (st.length : Int)) : stepC lk lt x st = st := by
  unfold stepC; rw [if_neg (by rw [h]; decide), if_pos h2, if_neg h3]
theorem sT_else (h : (openers.any fun y => y == textOf x) = false) (h2 : (closers.any fun y => y == textOf x) = false) : stepC lk lt x st = List.set st (st.length - 1) (signsF (st.getD (-1 + (st.length : Int)).toNat 0) lk lt x.k x.t) := by
  unfold stepC; rw [if_neg (by rw [h]; decide), if_neg (by rw [h2]; decide)]
theorem chk1 (hdue : X = chk mo ma (ws.drop i) lk lt st) (hdrop : ws.drop i = x :: ws.drop (i + 1)) (hst : stepC lk lt x st = st') (h : mo < (st'.length : Int) - 1) : X = some (true, x.sp) := by
  subst hst; rw [hdue, hdrop, chk, if_pos h]
theorem chk2 (hdue : X = chk mo ma (ws.drop i) lk lt st) (hdrop : ws.drop i = x :: ws.drop (i + 1)) (hst : stepC lk lt x st = st') (h : ¬ mo < (st'.length : Int) - 1) (h' : ma < st'.sum) : X = some (false, x.sp) := by
  subst hst; rw [hdue, hdrop, chk, if_neg h, if_pos h']
theorem chk3 (hdue : X = chk mo ma (ws.drop i) lk lt st) (hdrop : ws.drop i = x :: ws.drop (i + 1)) (hst : stepC lk lt x st = st') (h : ¬ mo < (st'.length : Int) - 1) (h' : ¬ ma < st'.sum) : X = chk mo ma (ws.drop (i + 1)) x.k x.t st' := by
  subst hst; rw [hdue, hdrop, chk, if_neg h, if_neg h']
end
theorem U_signs {w : World} {dp un : Nat} {gd : Option (List Code)} {cn : Str} {cs : Scope} {a : Addr} {ccd : Value} {cl : List (Str × Addr)} {outer : List Env} {A₀ : Around} {base h₀ : Heap} {L : Addr} {m : Str → Option Value} {s : Shared} {Q E : Value → Shared → Prop}
    {p : Program} {loose : List Str} {mean : ExcName → Option Value} {mg mb : Str → Option Value} {wd la : Addr} {kk tt lk lt : Str} {tk tl tm : Tok} {v2 v3 : Value} {many : Int}
    (B : Below A₀ base outer h₀) (F : Fr h₀ L s.heap m) (X : (KK w.params).In h₀) (T : Top p loose mean mg mb h₀) (hk : cs.kind = .function) (hd : dp + 2 < recursionLimit) (hu : un + 20 < cLine)
    (hl : ∃ tk1 tl1 v4 v5, IsTup s.heap la #[.str lk tk1, .str lt tl1, v4, v5]) (ht : IsTup s.heap wd #[.str kk tk, .str tt tl, v2, v3])
    (k : ∀ t h' tk', s.heap.StaysIn h' → Q (.int (signsF many lk lt kk tt) t) { s with heap := h', toks := tk' }) :
    wpAny (model PR w) (ktrTop dp un gd cn cs L a ccd cl outer) (call (.ref 77) [.int many tm, .ref la, .ref wd]) Q E s := by
  obtain ⟨tk1, tl1, v4, v5, hl⟩ := hl
  exact C_signs B F X T hk hd hu hl ht k
theorem set_le {st : List Int} {k : Nat} {a b : Int} (hs : st.length ≤ 12) : (List.set st k a ++ [b]).length ≤ 13 := by simp; omega
noncomputable abbrev envK (L' : Addr) : Env := envOf (Str.ofString "check_words") (fdAt 9).2.2 L' 70 (.ref 69)
/-- which of the two limits is passed -/
def chkC (mo ma : Int) (st : List Int) (b : Bool) : Prop := if b = true then mo < (st.length : Int) - 1 else (¬ mo < (st.length : Int) - 1) ∧ ma < st.sum
section
variable {w : World} {dp un : Nat} {gd : Option (List Code)} {cn : Str} {cs : Scope} {a : Addr} {ccd : Value} {cl : List (Str × Addr)} {outer : List Env} {base g h : Heap} {L L' : Addr} {m : Str → Option Value} {sg : Array GenState} {sd : Drawn} {tk : Nat} {so : OsState} {Q : Flow → Shared → Prop} {E : Value → Shared → Prop}
    {p : Program} {loose : List Str} {mean : ExcName → Option Value} {mg mb : Str → Option Value} {nw rest : List (Addr × Obj)} {W D LD I : Addr} {oI : Obj} {us : List Value} {st : List Int} {n : Nat} {mo ma : Int} {tmo tma tkx tlx tsx tt : Tok} {x : Wd} {lk lt : Str}
set_option maxHeartbeats 4000000 in
theorem chk_tail (B : Below (ktrTop dp un gd cn cs L a ccd cl outer) base (envX cn cs L a ccd cl :: outer) g) (X : (KK w.params).In g) (Tp : Top p loose mean mg mb g) (hd : dp + 5 < 390) (hu : un + 40 < 190)
    (F : Fr g L' h m) (e1 : m (Str.ofString "ahead") = some (.ref W)) (e2 : m (Str.ofString "most_open") = some (.int mo tmo)) (e3 : m (Str.ofString "most_ahead") = some (.int ma tma)) (e4 : m (Str.ofString "word") = some (.ref D))
    (N : News g L' h nw) (hW : (W, listOf us.toArray n) ∈ nw) (hI : IntsAre us st) (hs : st.length ≤ 13) (hx : IsTup g D #[.str x.k tkx, .str x.t tlx, .int x.sp tsx, .none])
    (kE : ∀ b, chkC mo ma st b → ∀ e d t h' tk' m', Fr g L' h' m' → g.get? e = none → g.get? d = none → d ≠ L' → h'.get? e = some (excObj 45 d t) → DictAt h' d (if b = true then Str.ofString "too many brackets within one another" else Str.ofString "too many signs ahead of one another") x.sp → E (.ref e) ⟨h', sg, sd, tk', so⟩)
    (k3 : ¬ mo < (st.length : Int) - 1 → ¬ ma < st.sum → ∀ h' tk', Fr g L' h' (fun y => if y = Str.ofString "last" then some (.ref D) else m y) → News g L' h' nw → Q .next ⟨h', sg, sd, tk', so⟩) :
    wpAny (model PR w) ((ktrTop dp un gd cn cs L a ccd cl outer).deeper (envK L')) (execs ((forBody (stAt (fdAt 9).2.1 1)).drop 2) (envK L')) Q E ⟨h, sg, sd, tk, so⟩ := by
  refine opqE F [(Str.ofString "ahead", .ref W), (Str.ofString "most_open", .int mo tmo), (Str.ofString "most_ahead", .int ma tma), (Str.ofString "word", .ref D)] (fc e1 (fc e2 (fc e3 (fc e4 fn)))) ?_
  intro m₀ hE F0
  clear F e1 e2 e3 e4
  have hd1 : dp + 1 < 400 := Nat.lt_trans (Nat.lt_of_le_of_lt (Nat.add_le_add_left (by decide : 1 ≤ 5) dp) hd) (by decide)
  have hu1 : un + 3 < 200 := Nat.lt_trans (Nat.lt_of_le_of_lt (Nat.add_le_add_left (by decide : 3 ≤ 40) un) hu) (by decide)
  have zz1 : StopAt "call builtin:len" := .mk
  have zz2 : StopAt "call builtin:sum" := .mk
  have zz3 : StopAt "exec Raise some none" := .mk
  have zz4 : StopAt "call ref" := .mk
  k_steps
  unfold Halt
  refine my_lenI (News.isList N hW) hI (Nat.le_trans hs (by decide)) ?_
  intro t1 tk1
  dsimp only
  k_steps
  · unfold Halt
    refine' raise_of (C := 45) (Or.inl rfl) ?hh ?_
    (case hh => exact rfl)
    k_steps
    unfold Halt
    refine' U_exc (Or.inl rfl) ?zzB ?zzF ?zzX ?zzT rfl ?zzN hd1 hu1 ?_
    (case zzB => assumption); (case zzF => assumption); (case zzX => assumption); (case zzT => assumption); (case zzN => assumption)
    intro e d t h' tk' F' N' ge gd' dL he hD
    exact ⟨e, d, t, rfl, X.keeps F'.keep, he, kE true ‹_› e d t h' tk' _ F' ge gd' dL he hD⟩
  unfold Halt
  refine my_sum rfl F0 N (News.isList N hW) hI ?_
  intro t2 h2 tk2 F2 N2
  clear F0 N
  dsimp only
  k_steps
  · unfold Halt
    refine' raise_of (C := 45) (Or.inl rfl) ?hh ?_
    (case hh => exact rfl)
    k_steps
    unfold Halt
    refine' U_exc (Or.inl rfl) ?zzB ?zzF ?zzX ?zzT rfl ?zzN hd1 hu1 ?_
    (case zzB => assumption); (case zzF => assumption); (case zzX => assumption); (case zzT => assumption); (case zzN => assumption)
    intro e d t h' tk' F' N' ge gd' dL he hD
    exact ⟨e, d, t, rfl, X.keeps F'.keep, he, kE false ⟨‹_›, ‹_›⟩ e d t h' tk' _ F' ge gd' dL he hD⟩
  exact k3 ‹¬ _ < (st.length : Int) - 1› ‹¬ _ < st.sum› _ _ (frCongr (by assumption) fun y => congrArg (fun z => if y = Str.ofString "last" then some (Value.ref D) else z) (hE y)) (by assumption)
set_option maxHeartbeats 4000000 in
theorem chk_turn1 (B : Below (ktrTop dp un gd cn cs L a ccd cl outer) base (envX cn cs L a ccd cl :: outer) g) (X : (KK w.params).In g) (Tp : Top p loose mean mg mb g) (hd : dp + 5 < 390) (hu : un + 40 < 190)
    (F : Fr g L' h m) (e1 : m (Str.ofString "ahead") = some (.ref W)) (e2 : m (Str.ofString "most_open") = some (.int mo tmo)) (e3 : m (Str.ofString "most_ahead") = some (.int ma tma)) (e4 : m (Str.ofString "word") = some (.ref D)) (e5 : m (Str.ofString "last") = some (.ref LD)) (e6 : m (Str.ofString "text") = some (.str (textOf x) tt))
    (N : News g L' h ((I, oI) :: (W, listOf us.toArray n) :: rest)) (hU : ∀ o o', Upd W o o' ((I, oI) :: (W, o) :: rest) ((I, oI) :: (W, o') :: rest)) (hI : IntsAre us st) (h1 : 1 ≤ st.length) (hs : st.length ≤ 12) (hx : IsTup g D #[.str x.k tkx, .str x.t tlx, .int x.sp tsx, .none])
    (hL : ∀ h2 m2, Fr g L' h2 m2 → News g L' h2 rest → ∃ tk tl v2 v3, IsTup h2 LD #[.str lk tk, .str lt tl, v2, v3])
    (kE : ∀ b, chkC mo ma (stepC lk lt x st) b → ∀ e d t h' tk' m', Fr g L' h' m' → g.get? e = none → g.get? d = none → d ≠ L' → h'.get? e = some (excObj 45 d t) → DictAt h' d (if b = true then Str.ofString "too many brackets within one another" else Str.ofString "too many signs ahead of one another") x.sp → E (.ref e) ⟨h', sg, sd, tk', so⟩)
    (k3 : ¬ mo < ((stepC lk lt x st).length : Int) - 1 → ¬ ma < (stepC lk lt x st).sum → ∀ us2 n2 h' tk', IntsAre us2 (stepC lk lt x st) → Fr g L' h' (fun y => if y = Str.ofString "last" then some (.ref D) else m y) → News g L' h' ((I, oI) :: (W, listOf us2.toArray n2) :: rest) → Q .next ⟨h', sg, sd, tk', so⟩) :
    wpAny (model PR w) ((ktrTop dp un gd cn cs L a ccd cl outer).deeper (envK L')) (execs ((forBody (stAt (fdAt 9).2.1 1)).drop 1) (envK L')) Q E ⟨h, sg, sd, tk, so⟩ := by
  refine opqE F [(Str.ofString "ahead", .ref W), (Str.ofString "most_open", .int mo tmo), (Str.ofString "most_ahead", .int ma tma), (Str.ofString "word", .ref D), (Str.ofString "last", .ref LD), (Str.ofString "text", .str (textOf x) tt)] (fc e1 (fc e2 (fc e3 (fc e4 (fc e5 (fc e6 fn)))))) ?_
  intro m₀ hE F0
  clear F e1 e2 e3 e4 e5 e6
  have fin : ∀ us2 n2 h' tk', IntsAre us2 (stepC lk lt x st) → (stepC lk lt x st).length ≤ 13 →
      Fr g L' h' (fun y => match List.lookup y [(Str.ofString "ahead", Value.ref W), (Str.ofString "most_open", .int mo tmo), (Str.ofString "most_ahead", .int ma tma), (Str.ofString "word", .ref D), (Str.ofString "last", .ref LD), (Str.ofString "text", .str (textOf x) tt)] with | some v => some v | none => m₀ y) → News g L' h' ((I, oI) :: (W, listOf us2.toArray n2) :: rest) →
      wpAny (model PR w) ((ktrTop dp un gd cn cs L a ccd cl outer).deeper (envK L')) (execs ((forBody (stAt (fdAt 9).2.1 1)).drop 2) (envK L')) Q E ⟨h', sg, sd, tk', so⟩ := fun us2 n2 h' tk' a1 a5 a6 a7 =>
    chk_tail B X Tp hd hu a6 rfl rfl rfl rfl a7 (.tail _ (.head _)) a1 a5 hx kE
      (fun c1 c2 h2 tk2 b1 b2 => k3 c1 c2 us2 n2 h2 tk2 a1 (frCongr b1 fun y => congrArg (fun z => if y = Str.ofString "last" then some (Value.ref D) else z) (hE y)) b2)
  clear kE k3 hE
  have zz1 : StopAt "call builtin:len" := .mk
  have zz2 : StopAt "compareOp In str ref" := .mk
  have zz3 : StopAt "getItem ref int" := .mk
  have zz4 : StopAt "setItem ref int" := .mk
  have zz5 : StopAt "call builtin:list.append" := .mk
  have zz6 : StopAt "call builtin:list.pop" := .mk
  have zz7 : StopAt "call ref" := .mk
  have zz8 : StopAt "execs cons" := .mk
  k_steps
  unfold Halt
  refine in_tuple_strs (kun_topT F0 X (by k_is)) (by repeat constructor) ?_
  k_steps
  · unfold Halt
    refine wpAny_execs_cons ?_
    k_steps
    unfold Halt
    refine my_get1 (News.isList N (.tail _ (.head _))) hI h1 ?_
    intro t9
    k_steps
    all_goals (
      unfold Halt
      refine' my_set1 ?zzF N (fun ws => hU _ _) hI h1 ?_
      (case zzF => assumption)
      intro ws5 h5 F5 N5 hI5
      clear F0 N
      dsimp only
      k_steps
      unfold Halt
      refine wpAny_execs_cons ?_
      k_steps
      unfold Halt
      refine' my_append ?zzF ?zzN (fun ws => hU _ _) hI5 (by rw [List.length_set]; exact Nat.le_trans hs (by decide)) ?_
      (case zzF => assumption); (case zzN => assumption)
      intro ws6 h6 F6 N6 hI6
      clear F5 N5
      dsimp only
      k_steps
      unfold Halt
      have hst := sT_open (lk := lk) (lt := lt) (st := st) (x := x) ‹_›)
    · rw [if_pos ‹_›] at hst
      exact fin _ _ _ _ (by rw [hst]; exact hI6) (by rw [hst]; exact set_le hs) (by assumption) (by assumption)
    · rw [if_neg (by simp [*])] at hst
      exact fin _ _ _ _ (by rw [hst]; exact hI6) (by rw [hst]; exact set_le hs) (by assumption) (by assumption)
  · unfold Halt
    refine wpAny_execs_cons ?_
    k_steps
    unfold Halt
    refine in_tuple_strs (kun_topT F0 X (by k_is)) (by repeat constructor) ?_
    k_steps
    · unfold Halt
      refine wpAny_execs_cons ?_
      k_steps
      unfold Halt
      refine my_lenI (News.isList N (.tail _ (.head _))) hI (Nat.le_trans hs (by decide)) ?_
      intro t1 tk1
      dsimp only
      k_steps
      · unfold Halt
        refine wpAny_execs_cons ?_
        k_steps
        unfold Halt
        refine' my_pop ?zzF N (fun ws => hU _ _) hI h1 (Nat.le_trans hs (by decide)) ?_
        (case zzF => assumption)
        intro ws5 t5 h5 F5 N5 hI5
        clear F0 N
        dsimp only
        k_steps
        unfold Halt
        have hst := sT_close (lk := lk) (lt := lt) (st := st) (x := x) ‹_› ‹_› ‹(1 : Int) < _›
        exact fin _ _ _ _ (by rw [hst]; exact hI5) (by rw [hst]; exact take_le3 hs) (by assumption) (by assumption)
      · unfold Halt
        have hst := sT_close' (lk := lk) (lt := lt) (st := st) (x := x) ‹_› ‹_› ‹¬ (1 : Int) < _›
        exact fin _ _ _ _ (by rw [hst]; exact hI) (by rw [hst]; exact Nat.le_trans hs (by decide)) (by assumption) (by assumption)
    · unfold Halt
      refine wpAny_execs_cons ?_
      k_steps
      unfold Halt
      refine' U_signs ?zzB F0 ?zzX ?zzT rfl ?zzd ?zzu (hL _ _ F0 (cb_drop N fun _ h => .tail _ (.tail _ h))) (Fr.tup F0 hx) ?_
      (case zzB => assumption); (case zzX => assumption); (case zzT => assumption); (case zzd => exact Nat.lt_trans (Nat.lt_of_le_of_lt (show dp + 1 + 2 ≤ dp + 5 from Nat.add_le_add_left (by decide : 3 ≤ 5) dp) hd) (by decide)); (case zzu => exact Nat.lt_trans (Nat.lt_of_le_of_lt (show un + 3 + 20 ≤ un + 40 from Nat.add_le_add_left (by decide : 23 ≤ 40) un) hu) (by decide))
      intro t6 h6 tk6 st6
      have F6 := stayF F0 st6
      have N6 := stayN N st6
      clear F0 N
      dsimp only
      k_steps
      unfold Halt
      refine' my_set1 ?zzF ?zzN (fun ws => hU _ _) hI h1 ?_
      (case zzF => assumption); (case zzN => assumption)
      intro ws5 h5 F5 N5 hI5
      clear F6 N6
      dsimp only
      k_steps
      unfold Halt
      have hst := sT_else (lk := lk) (lt := lt) (st := st) (x := x) ‹_› ‹_›
      exact fin _ _ _ _ (by rw [hst]; exact hI5) (by rw [hst, List.length_set]; exact Nat.le_trans hs (by decide)) (by assumption) (by assumption)
set_option maxHeartbeats 4000000 in
theorem chk_turn (B : Below (ktrTop dp un gd cn cs L a ccd cl outer) base (envX cn cs L a ccd cl :: outer) g) (X : (KK w.params).In g) (Tp : Top p loose mean mg mb g) (hd : dp + 5 < 390) (hu : un + 40 < 190)
    (F : Fr g L' h m) (e1 : m (Str.ofString "ahead") = some (.ref W)) (e2 : m (Str.ofString "most_open") = some (.int mo tmo)) (e3 : m (Str.ofString "most_ahead") = some (.int ma tma)) (e4 : m (Str.ofString "word") = some (.ref D)) (e5 : m (Str.ofString "last") = some (.ref LD))
    (N : News g L' h ((I, oI) :: (W, listOf us.toArray n) :: rest)) (hU : ∀ o o', Upd W o o' ((I, oI) :: (W, o) :: rest) ((I, oI) :: (W, o') :: rest)) (hI : IntsAre us st) (h1 : 1 ≤ st.length) (hs : st.length ≤ 12) (hx : IsTup g D #[.str x.k tkx, .str x.t tlx, .int x.sp tsx, .none])
    (hL : ∀ h2 m2, Fr g L' h2 m2 → News g L' h2 rest → ∃ tk tl v2 v3, IsTup h2 LD #[.str lk tk, .str lt tl, v2, v3])
    (kE : ∀ b, chkC mo ma (stepC lk lt x st) b → ∀ e d t h' tk' m', Fr g L' h' m' → g.get? e = none → g.get? d = none → d ≠ L' → h'.get? e = some (excObj 45 d t) → DictAt h' d (if b = true then Str.ofString "too many brackets within one another" else Str.ofString "too many signs ahead of one another") x.sp → E (.ref e) ⟨h', sg, sd, tk', so⟩)
    (k3 : ¬ mo < ((stepC lk lt x st).length : Int) - 1 → ¬ ma < (stepC lk lt x st).sum → ∀ c us2 n2 h' tk', IntsAre us2 (stepC lk lt x st) → Fr g L' h' (fun y => if y = Str.ofString "last" then some (.ref D) else if y = Str.ofString "text" then c else m y) → News g L' h' ((I, oI) :: (W, listOf us2.toArray n2) :: rest) → Q .next ⟨h', sg, sd, tk', so⟩) :
    wpAny (model PR w) ((ktrTop dp un gd cn cs L a ccd cl outer).deeper (envK L')) (execs (forBody (stAt (fdAt 9).2.1 1)) (envK L')) Q E ⟨h, sg, sd, tk, so⟩ := by
  refine opqE F [(Str.ofString "ahead", .ref W), (Str.ofString "most_open", .int mo tmo), (Str.ofString "most_ahead", .int ma tma), (Str.ofString "word", .ref D), (Str.ofString "last", .ref LD)] (fc e1 (fc e2 (fc e3 (fc e4 (fc e5 fn))))) ?_
  intro m₀ hE F0
  clear F e1 e2 e3 e4 e5
  have fin : ∀ t tt h' tk', t = textOf x → Fr g L' h' (fun y => if y = Str.ofString "text" then some (.str t tt) else match List.lookup y [(Str.ofString "ahead", Value.ref W), (Str.ofString "most_open", .int mo tmo), (Str.ofString "most_ahead", .int ma tma), (Str.ofString "word", .ref D), (Str.ofString "last", .ref LD)] with | some v => some v | none => m₀ y) → News g L' h' ((I, oI) :: (W, listOf us.toArray n) :: rest) →
      wpAny (model PR w) ((ktrTop dp un gd cn cs L a ccd cl outer).deeper (envK L')) (execs ((forBody (stAt (fdAt 9).2.1 1)).drop 1) (envK L')) Q E ⟨h', sg, sd, tk', so⟩ := fun t tt h' tk' e a6 a7 => by
    subst e
    exact chk_turn1 B X Tp hd hu a6 rfl rfl rfl rfl rfl rfl a7 hU hI h1 hs hx hL kE
      (fun c1 c2 us2 n2 h2 tk2 b0 b1 b2 => k3 c1 c2 (some (.str (textOf x) tt)) us2 n2 h2 tk2 b0 (frCongr b1 fun y => congrArg (fun z => if y = Str.ofString "last" then some (Value.ref D) else if y = Str.ofString "text" then some (Value.str (textOf x) tt) else z) (hE y)) b2)
  clear kE k3 hE hL hU
  have zz8 : StopAt "execs cons" := .mk
  k_steps
  all_goals (unfold Halt; refine' fin _ _ _ _ ?zze ?zzF ?zzN; (case zzF => assumption); (case zzN => assumption); (case zze => unfold textOf; simp [*]))
end
/-- what the loop keeps -/
inductive ChkI (g : Heap) (rA : Addr) (mo ma : Int) (tmo tma : Tok) (ws : List Wd) (i : Nat) (m : Str → Option Value) (news : List (Addr × Obj)) : Prop
  | mk (u ut : Option Value) (LD Ah D0 : Addr) (vsI : List Value) (st : List Int) (n : Nat) (lk lt : Str) (t1 t2 t3 : Tok) : (∀ y, m y = mChk u ut LD Ah rA mo ma tmo tma y) → news = [(Ah, listOf vsI.toArray n), (D0, tup0 t1 t2 t3)] → IntsAre vsI st → 1 ≤ st.length → st.length ≤ i + 1 →
    ((D0 = LD ∧ lk = Str.ofString "end" ∧ lt = Str.ofString "") ∨ ∃ tk tl v2 v3, IsTup g LD #[.str lk tk, .str lt tl, v2, v3]) → @Ne Nat D0 Ah → chk mo ma ws (Str.ofString "end") (Str.ofString "") [0] = chk mo ma (ws.drop i) lk lt st → ChkI g rA mo ma tmo tma ws i m news
theorem drop31 {g h : Heap} {L : Addr} {a b c : Addr × Obj} (N : News g L h [a, b, c]) : News g L h [c, b] := cb_drop N (List.forall_mem_cons.mpr ⟨.tail _ (.tail _ (.head _)), List.forall_mem_cons.mpr ⟨.tail _ (.head _), fun _ h => nomatch h⟩⟩)
theorem stepC_len {lk lt : Str} {v : Wd} {st : List Int} (h : 1 ≤ st.length) : 1 ≤ (stepC lk lt v st).length ∧ (stepC lk lt v st).length ≤ st.length + 1 := by
  unfold stepC
  split
  · simp
  · split
    · split <;> (first | omega | (simp; done) | (simp; omega))
    · first | (simp; done) | (simp; omega)
theorem chk_b {mo ma : Int} {st : List Int} {ws : List Wd} {lk lt : Str} {x : Wd} {i : Nat} {X : Option (Bool × Int)} {b : Bool} (hdue : X = chk mo ma (ws.drop i) lk lt st) (hdrop : ws.drop i = x :: ws.drop (i + 1)) (h : chkC mo ma (stepC lk lt x st) b) : X = some (b, x.sp) := by
  cases b with
  | true => exact chk1 hdue hdrop rfl h
  | false => exact chk2 hdue hdrop rfl h.1 h.2
section
variable {w : World} {dp un : Nat} {gd : Option (List Code)} {cn : Str} {cs : Scope} {a : Addr} {ccd : Value} {cl : List (Str × Addr)} {outer : List Env} {A₀ : Around} {base h₀ : Heap} {L : Addr} {m : Str → Option Value} {s : Shared} {Q E : Value → Shared → Prop}
    {p : Program} {loose : List Str} {mean : ExcName → Option Value} {mg mb : Str → Option Value} {rA : Addr} {mo ma : Int} {tmo tma : Tok} {vs : List Value} {ws : List Wd}
set_option maxHeartbeats 4000000 in
theorem C_check (B : Below A₀ base outer h₀) (F : Fr h₀ L s.heap m) (X : (KK w.params).In h₀) (T : Top p loose mean mg mb h₀) (hk : cs.kind = .function) (hd : dp + 5 < 390) (hu : un + 40 < 190)
    (hl : s.heap.IsList rA vs.toArray) (hr : RowsAre s.heap vs ws) (hlen : vs.length ≤ 11)
    (k1 : chk mo ma ws (Str.ofString "end") (Str.ofString "") [0] = none → ∀ h' tk', s.heap.StaysIn h' → Q .none { s with heap := h', toks := tk' })
    (k2 : ∀ b sp, chk mo ma ws (Str.ofString "end") (Str.ofString "") [0] = some (b, sp) → ∀ e d B' h' tk', (∀ b o, s.heap.get? b = some o → b ∉ (envX cn cs L a ccd cl :: outer).filterMap (·.frame) → B'.get? b = some o) →
      FlyD B' (envX cn cs L a ccd cl :: outer) e (.ref 45) d .none h' → s.heap.UpToSlots h' → s.heap.get? e = none → s.heap.get? d = none → DictAt B' d (if b = true then Str.ofString "too many brackets within one another" else Str.ofString "too many signs ahead of one another") sp → E (.ref e) { s with heap := h', toks := tk' }) :
    wpAny (model PR w) (ktrTop dp un gd cn cs L a ccd cl outer) (call (.ref 70) [.ref rA, .int mo tmo, .int ma tma]) Q E s := by
  have hd' : dp + 5 < recursionLimit := Nat.lt_trans hd (by decide)
  have hu' : un + 40 < cLine := Nat.lt_trans hu (by decide)
  obtain ⟨sh, sg, sd, sk, so⟩ := s
  dsimp only at F hl hr k1 k2
  refine wpAny_call ?_
  refine' enterS (hid := []) (by assumption) (by assumption) News.nil (by assumption) (by assumption) ?kA ?kF ?kK ?k6 ?k7 ?k8 ?k9 ?kB ?_ ?c2 ?c3 ?c4 ?c5
  (case kA => exact rfl); (case kF => exact rfl); (case kK => assumption); (case k6 => k_dflt k_is); (case k7 => k_dflt k_is); (case k8 => ktr_room); (case k9 => exact BindsTo.of_eq rfl); (case kB => exact locs rfl); (case c2 => exact rfl); (case c3 => exact rfl); (case c4 => exact rfl); (case c5 => decide)
  intro g L' h₁ tk₁ hkeep F' N' B' X' T'
  have hcov : ∀ b o, sh.get? b = some o → g.get? b = some o := fun b o e => hkeep b o e (by simp)
  have hl' : g.IsList rA vs.toArray := hl.at fun o e => hcov rA o e
  have hr' : RowsAre g vs ws := hr.keeps hcov
  replace F' := frCongr (m' := fun y => List.lookup y [(Str.ofString "most_ahead", Value.int ma tma), (Str.ofString "most_open", Value.int mo tmo), (Str.ofString "rows", Value.ref rA)]) F' (fun _ => rfl)
  dsimp only
  refine anyQP (env := envK L') (by passes_own) ?_
  intro Q9 E9 hP9 hQ9 hE9
  have K1 : chk mo ma ws (Str.ofString "end") (Str.ofString "") [0] = none → ∀ h' tk' m', Fr g L' h' m' → Q9 .next ⟨h', sg, sd, tk', so⟩ := fun e h' tk' m' F => hQ9 .next _ (k1 e h' tk' fun b o q => F.keep b o (hcov b o q))
  have K2 : ∀ b sp, chk mo ma ws (Str.ofString "end") (Str.ofString "") [0] = some (b, sp) → ∀ e d t h' tk' m', Fr g L' h' m' → g.get? e = none → g.get? d = none → d ≠ L' → h'.get? e = some (excObj 45 d t) → DictAt h' d (if b = true then Str.ofString "too many brackets within one another" else Str.ofString "too many signs ahead of one another") sp → E9 (.ref e) ⟨h', sg, sd, tk', so⟩ := by
    intro b sp hb e d t h' tk' m' F ge gd' dL he hD
    have q : RaiseEnd w 45 (fun e s' => wpAny (model PR w) ((ktrTop dp un gd cn cs L a ccd cl outer).deeper (envK L')) (leaving (envK L') e) (fun _ s'' => E e s'') (fun e' s'' => E e' s'') s') (.ref e) ⟨h', sg, sd, tk', so⟩ :=
      raise_end (s := ⟨sh, sg, sd, sk, so⟩) (Q := fun e _ s'' => E e s'') (E := fun _ e' s'' => E e' s'') X' B' F he ge gd' dL hD hcov (fun h2 B2 cov fly up ne nd dat => k2 b sp hb e d B2 h2 tk' cov fly up ne nd dat)
    clear hQ9 hcov hkeep
    obtain ⟨e', d', t', q1, _, _, q2⟩ := q
    cases q1
    exact hE9 _ _ q2
  clear B F X T hk hl hr k1 k2 hQ9 hE9 hkeep hcov
  have zz1 : StopAt "exec For Name Name cons nil" := .mk
  k_steps
  unfold Halt
  refine For_invV g (by rfl) (by rfl) ?_ (hE := hP9)
  k_steps
  (rename Fr _ _ _ _ => F1)
  (rename News _ _ _ _ => N1)
  refine' iterV (ChkI g rA mo ma tmo tma ws) rfl hl' (frCongr F1 fun y => mChk_start _ _ _ _ _ _ _ y) (drop31 N1) ?zzJ ?zzt ?zzd
  case zzJ => exact .mk none none _ _ _ [.int 0 _] [0] 0 _ _ _ _ _ (fun _ => rfl) rfl (.cons _ _ .nil) (Nat.le_refl _) (Nat.le_refl _) (.inl ⟨rfl, rfl, rfl⟩) (by k_ne) rfl
  case zzt =>
    clear F1 N1 K1
    intro i v m₁ news₁ h tk I oI hv hJ hoff F3 N3
    obtain ⟨u, ut, LD, Ah, D0, vsI, st, n, lk, lt, t1, t2, t3, hm, rfl, hI, hs1, hs2, hLD, hAD, hdue⟩ := hJ
    obtain ⟨D, x, tkx, tlx, tsx, rfl, hx, hxt, hdrop⟩ := hr'.get hv
    have hi11 : i < vs.length := (List.getElem?_eq_some_iff.mp hv).1
    have o1 : Ah ≠ I := hoff _ (.head _)
    have o2 : D0 ≠ I := hoff _ (.tail _ (.head _))
    have F4 := frCongr F3 (m' := fun y => if y = Str.ofString "word" then some (.ref D) else mChk u ut LD Ah rA mo ma tmo tma y) (fun y => congrArg (fun z => if y = Str.ofString "word" then some (Value.ref D) else z) (hm y))
    refine' chk_turn (W := Ah) (LD := LD) (D := D) (x := x) (lk := lk) (lt := lt) B' X' T' hd hu F4 rfl rfl rfl rfl rfl N3 ?zzU hI hs1 ?zzs hxt ?zzL ?zz1 ?zz3
    case zzU => exact fun o o' => .tail (neN (Ne.symm o1)) (.head fun q hq => by rw [List.mem_singleton.mp hq]; exact hAD)
    case zzs => exact Nat.le_trans hs2 (Nat.le_trans (Nat.succ_le_succ (Nat.le_trans (Nat.le_of_lt hi11) hlen)) (by decide))
    case zzL => exact fun h2 m2 F2 N2 => lastTup hLD F2 N2 (.head _)
    case zz1 => exact fun b hb e d t h' tk' m' F ge gd' dL he hD => K2 b x.sp (chk_b hdue hdrop hb) e d t h' tk' m' F ge gd' dL he hD
    case zz3 =>
      intro c1 c2 c us2 n2 h' tk' hI2 F N
      exact ⟨h', tk', _, [(Ah, listOf us2.toArray n2), (D0, tup0 t1 t2 t3)], rfl, F, N, ne2 o1 o2,
        .mk (some (.ref D)) c D Ah D0 us2 _ n2 x.k x.t t1 t2 t3 (fun y => mChk_turn _ _ _ _ _ _ _ _ _ _ _ _ y) rfl hI2 (stepC_len hs1).1 (Nat.le_trans (stepC_len hs1).2 (Nat.succ_le_succ hs2)) (.inr ⟨_, _, _, _, hxt⟩) hAD (chk3 hdue hdrop rfl c1 c2)⟩
  case zzd =>
    clear F1 N1 K2
    intro m₁ news₁ h tk hJ F3 N3
    obtain ⟨u, ut, LD, Ah, D0, vsI, st, n, lk, lt, t1, t2, t3, hm, rfl, hI, hs1, hs2, hLD, hAD, hdue⟩ := hJ
    clear hm hI hLD hAD
    dsimp only
    k_steps
    exact K1 (by rw [hdue, hr'.length, List.drop_length]; rfl) _ _ _ (by assumption)

end
end
/- part XA -/
section
open PySem PySem.W PySem.W.X PyProof.Rows PySem.Calls PySem.Spec
def AttrK (s : Shared) (Q : Value → Shared → Prop) (v : Value) : Prop := ∀ h' tk', s.heap.StaysIn h' → Q v { s with heap := h', toks := tk' }
theorem attr_end {s : Shared} {Q : Value → Shared → Prop} {v : Value} {h' : Heap} {tk' : Tok} {news : List (Addr × Obj)} (k : AttrK s Q v) (D : Mem s.heap h' [] news) : Q v ⟨h', s.gens, s.drawn, tk', s.os⟩ :=
  k h' tk' (fun b o q => D.keep b o q (by simp [away]))
theorem attr_end0 {s : Shared} {Q : Value → Shared → Prop} {v : Value} {tk' : Tok} (k : AttrK s Q v) : Q v ⟨s.heap, s.gens, s.drawn, tk', s.os⟩ := k _ tk' (fun _ _ e => e)
local macro_rules | `(tactic| x_close) => `(tactic| first | exact attr_end (by assumption) (by assumption) | exact attr_end0 (by assumption))
abbrev topA (hnd : Option Value) (fr : Option (List Env)) (gd : Option (List Code)) : Around := { handled := hnd, depth := 400, frames := fr, guards := gd, units := 200 }
section
variable {w : World} {hnd : Option Value} {fr : Option (List Env)} {gd : Option (List Code)} {s : Shared} {Q E : Value → Shared → Prop}
    {e d : Addr} {vs : Array Value} {sl : Array (Option Value)} {h1 h2 : Int} {t1 t3 tk tl tn : Tok} {n : Nat} {msg : Str} {sp : Int}
set_option maxHeartbeats 4000000 in
theorem C_attr0 (X : (KK w.params).In s.heap) (he : s.heap.get? e = some ⟨.ref 45, some d, .fields vs, sl⟩) (hD : s.heap.get? d = some (dictMS h1 h2 t1 t3 tk tl n msg sp)) (k : AttrK s Q (.str msg tk)) :
    wpAny (model PR w) (topA hnd fr gd) (call (.builtin "BaseException.__getattribute__") [.ref e, .str (Str.ofString "message") tn]) Q E s := by
  unfold dictMS at hD
  x_run
set_option maxHeartbeats 4000000 in
theorem C_attr1 (X : (KK w.params).In s.heap) (he : s.heap.get? e = some ⟨.ref 45, some d, .fields vs, sl⟩) (hD : s.heap.get? d = some (dictMS h1 h2 t1 t3 tk tl n msg sp)) (k : AttrK s Q (.int sp tl)) :
    wpAny (model PR w) (topA hnd fr gd) (call (.builtin "BaseException.__getattribute__") [.ref e, .str (Str.ofString "spot") tn]) Q E s := by
  unfold dictMS at hD
  x_run
end
theorem lk45a (P : Params) : findIn (KK P) (.ref 45) (Str.ofString "__getattribute__") = some (some (.builtin "BaseException.__getattribute__")) := by kernel_rfl
theorem lk45b (P : Params) : findIn (KK P) (.ref 45) (Str.ofString "__getattr__") = some none := by kernel_rfl
theorem my_getAttr {w : World} {A : Around} {s : Shared} {e : Addr} {oe : Obj} {name : Str} {expr : Bool} {v : Value} {Q E : Value → Shared → Prop} (X : (KK w.params).In s.heap) (he : s.heap.get? e = some oe) (hc : oe.cls = .ref 45) 
   (h : ∀ tn tk Q' E', (∀ h' tk', s.heap.StaysIn h' → Q' v { s with heap := h', toks := tk' }) → wpAny (model PR w) A (call (.builtin "BaseException.__getattribute__") [.ref e, .str name tn]) Q' E' { s with toks := tk })
   (hv : ∀ s', wpAny (model PR w) A (handedOut v) (fun v' s'' => v' = v ∧ s'' = s') E s')
   (k : ∀ h' tk', s.heap.StaysIn h' → Q v { s with heap := h', toks := tk' }) :
    wpAny (model PR w) A (getAttr (.ref e) name expr) Q E s := by
  have f3 := F.excAttr_ValueError.ga.bind (.ref e)
  have hx0 : (expr && onTheHeap (Value.builtin "BaseException.__getattribute__")) = false := by cases expr <;> rfl
  have hx2 : (Value.builtin "BaseException.__getattribute__" == Value.builtin "object.__getattribute__") = false := by decide +kernel
  unfold getAttr
  refine wpAny_bind (wpAny_mkText ?_)
  unfold getAttrBy
  refine wpAny_holding (wpAny_bind (m := typeOf (.ref e)) ?_)
  have e1 : ∀ (Q' : Value → Shared → Prop) tk, Q' (.ref 45) { s with toks := tk } → wpAny (model PR w) A (typeOf (.ref e)) Q' E { s with toks := tk } := fun Q' tk q => by
    simp only [typeOf]; exact wpAny_bind (wpAny_load (s := { s with toks := tk }) he (wpAny_pure (hc ▸ q)))
  refine e1 _ _ ?_
  refine wpAny_bind (Looks.at (looks_findIn X (lk45a _)) ?_)
  dsimp only
  rw [hx2, Bool.and_false, if_neg (by decide)]
  unfold getAttrByItsOwn hookBefore
  refine wpAny_bind ?_
  rw [if_pos (show onTheHeap (.ref 45) = true from rfl)]
  refine Looks.at (looks_findIn X (lk45b _)) ?_
  refine wpAny_bind (wpAny_attempt (wpAny_holding ?_))
  unfold callGetattribute
  rw [hx0, if_neg (by decide)]
  unfold boundAndCalled
  rw [f3]
  refine wpAny_bind (wpAny_pure ?_)
  refine h _ _ _ _ fun h' tk' st => ?_
  exact wpAny_mono (hv _) (fun v' s'' hh => by obtain ⟨rfl, rfl⟩ := hh; exact k h' tk' st) fun _ _ x => x

def ExcIn (h : Heap) (e C d : Addr) : Prop := ∃ vs sl, h.get? e = some ⟨.ref C, some d, .fields vs, sl⟩
section
variable {w : World} {A : Around} {s : Shared} {e d : Addr} {expr : Bool} {msg : Str} {sp : Int} {Q E : Value → Shared → Prop}
theorem U_message (X : (KK w.params).In s.heap) (he : ExcIn s.heap e 45 d) (hD : DictAt s.heap d msg sp) (hd : A.depth ≤ 400) (hu : A.units ≤ 200) (k : ∀ tk h' tk', s.heap.StaysIn h' → Q (.str msg tk) { s with heap := h', toks := tk' }) :
    wpAny (model PR w) A (getAttr (.ref e) (Str.ofString "message") expr) Q E s := by
  obtain ⟨vs, sl, he⟩ := he
  obtain ⟨h1, h2, t1, t3, tk, tl, n, hD⟩ := hD
  refine my_getAttr X he rfl (fun tn tk' Q' E' hk => ?_) (fun s' => ?_) (k tk)
  · exact wpAny_around (A' := topA A.handled A.frames A.guards) rfl hd rfl rfl hu (C_attr0 (s := { s with toks := tk' }) X he hD hk)
  · exact wpAny_pure ⟨rfl, rfl⟩
theorem U_spot (X : (KK w.params).In s.heap) (he : ExcIn s.heap e 45 d) (hD : DictAt s.heap d msg sp) (hd : A.depth ≤ 400) (hu : A.units ≤ 200) (k : ∀ tl h' tk', s.heap.StaysIn h' → Q (.int sp tl) { s with heap := h', toks := tk' }) :
    wpAny (model PR w) A (getAttr (.ref e) (Str.ofString "spot") expr) Q E s := by
  obtain ⟨vs, sl, he⟩ := he
  obtain ⟨h1, h2, t1, t3, tk, tl, n, hD⟩ := hD
  refine my_getAttr X he rfl (fun tn tk' Q' E' hk => ?_) (fun s' => ?_) (k tl)
  · exact wpAny_around (A' := topA A.handled A.frames A.guards) rfl hd rfl rfl hu (C_attr1 (s := { s with toks := tk' }) X he hD hk)
  · exact wpAny_pure ⟨rfl, rfl⟩
end
end
/- part X6 -/
section
open PySem PySem.W PyProof.Rows PySem.Calls PySem.Spec
section
variable {w : World} {A₀ : Around} {E : Value → Shared → Prop} {base g G B h₁ : Heap} {outer : List Env} {L a e d C : Addr} {m : Str → Option Value} {name : Str} {scope : Scope} {cd : Value}
  {n : Str} {b₀ : Stmt} {suite : List Stmt} {pos np : Pos} {rest : List ExceptHandler} {Q : Flow → Shared → Prop} {KF : Frag} {gs : Array GenState} {dr : Drawn} {tk : Nat} {os : OsState} {msg : Str} {sp : Int}
  {p : Program} {loose : List Str} {mean : ExcName → Option Value} {mg mb : Str → Option Value} {x : Str}

theorem caughtD (K : Below A₀ base outer g) (F : Fr g L G m) (hBG : ∀ b o, G.get? b = some o → b ∉ (envOf name scope L a cd :: outer).filterMap (·.frame) → B.get? b = some o)
    (fly : FlyD B (envOf name scope L a cd :: outer) e (.ref C) d .none h₁) (hsm : G.UpToSlots h₁) (XB : KF.In base) (TB : Top p loose mean mg mb base) (ne : G.get? e = none) (nd : G.get? d = none) (dat : DictAt B d msg sp)
    (ex : nsIn KF mainGlobals x = some (some (.ref C))) (q : ktsIn KF C "BaseException" = true)
    (k : ∀ h' g' tk', KtsTurn (outer.filterMap (·.frame)) g g' → Fr g' L h' (fun y => if y = n then some (.ref e) else m y) → Below A₀ base outer g' → KF.In g' → Top p loose mean mg mb g' → g'.get? e = none → g'.get? d = none → e ≠ L → d ≠ L → ExcIn h' e C d → DictAt h' d msg sp →
      wpAny (model PR w) ((A₀.deeper (envOf name scope L a cd)).mark (some (.ref e))) (execs (b₀ :: suite) (envOf name scope L a cd))
        (fun f s₄ => wpAny (model PR w) (A₀.deeper (envOf name scope L a cd)) (do bindName (envOf name scope L a cd) n .none; unbindBehindTheSuite (envOf name scope L a cd) n pos) (fun _ s₅ => Q f s₅) E s₄)
        (AsSuiteRaised (model PR w) ((A₀.deeper (envOf name scope L a cd)).mark (some (.ref e))) (envOf name scope L a cd) n pos (notedBy (model PR w) ((A₀.deeper (envOf name scope L a cd)).mark (some (.ref e))) (envOf name scope L a cd) (cameBackBy (model PR w) (A₀.deeper (envOf name scope L a cd)) (envOf name scope L a cd) E)))
        ⟨h', gs, dr, tk', os⟩)
    (hk : scope.kind = .function) (hlo : (envOf name scope L a cd).kindOf n = some .local) (hx : (envOf name scope L a cd).kindOf x = some .globalImplicit) (hd : (x == ("__debug__" : Str)) = false) :
    wpAny (model PR w) (A₀.deeper (envOf name scope L a cd)) (noteFrame (.ref e) (envOf name scope L a cd))
      (fun _ s₂ => wpAny (model PR w) (A₀.deeper (envOf name scope L a cd)) (setFlight (.ref e) none) (fun _ s₃ =>
        wpAny (model PR w) (A₀.deeper (envOf name scope L a cd)) (handleBy (.ref e) (envOf name scope L a cd) (.ExceptHandler (some (.Name x np)) (some n) (b₀ :: suite) pos :: rest)) Q E s₃) E s₂) E ⟨h₁, gs, dr, tk, os⟩ := by
  have hL : B.get? L = none := by
    obtain ⟨_, ⟨L', _, hf, hn', _⟩, _⟩ := fly.frames
    obtain rfl : L = L' := Option.some.inj hf
    exact hn'
  refine noteD (s := ⟨h₁, gs, dr, tk, os⟩) (Around.frames_deeper K.stack) rfl fly fun h₄ fly₄ U₄ => ?_
  refine flightD (s := ⟨h₄, gs, dr, tk, os⟩) fly₄ fun h₅ fly₅ U₅ => ?_
  have hsm₅ := hsm.trans (U₄.trans U₅)
  obtain ⟨g₅, T₅, F₅, K₅⟩ := kts_ground K F hBG fly₅.stays hsm₅
  have X₅ : KF.In g₅ := XB.keeps K₅.stays
  have P₅ : TopRead p loose mg mb g₅ := topRead_of (TB.keeps K₅.stays)
  obtain ⟨ob, vsb, _, _, _, hob, hobc, _⟩ := fly₅.traced
  obtain ⟨nm, q', N, bs, bm, hdct, sn, sub, ab, col, dd, k0, k1, k2, k3, k5, newId, hC, hbase, hbT⟩ := kts_cls X₅ q
  have hC₅ := F₅.keep _ _ hC
  refine wpAny_handleBy_cons (codeAny_handlers_test (name_K (s := ⟨h₅, gs, dr, tk, os⟩) F₅ X₅ P₅ ex ?_ hk hx hd)) (by intro q; cases q)
  refine wpAny_excMatches_sub_self hC₅ hob hobc hbase (codeAny_handlers_suite_as ?_)
  refine flightD (s := ⟨h₅, gs, dr, tk, os⟩) fly₅ fun h₆ fly₆ U₆ => ?_
  have hsm₆ := hsm₅.trans U₆
  obtain ⟨g₆, T₆, F₆, K₆⟩ := kts_ground K F hBG fly₆.stays hsm₆
  obtain ⟨oe, vs, T, oT, ts, he, hcls, hdict, hdat, _⟩ := fly₆.traced
  have X₆ : KF.In g₆ := XB.keeps K₆.stays
  have P₆ : Top p loose mean mg mb g₆ := TB.keeps K₆.stays
  have ge : g.get? e = none := by
    cases z : g.get? e with
    | none => rfl
    | some o => have := F.keep _ _ z; rw [ne] at this; cases this
  have ge₆ : g₆.get? e = none := T₆.none_ _ ge
  have gd : g.get? d = none := by
    cases z : g.get? d with
    | none => rfl
    | some o => have := F.keep _ _ z; rw [nd] at this; cases this
  have eL : e ≠ L := fun z => by
    obtain ⟨oL, es, ep, hL', hd', _⟩ := F₆.ns
    rw [z] at he; rw [hL'] at he; cases he; rw [hdat] at hd'; cases hd'
  have dL : d ≠ L := fun z => by
    obtain ⟨h1, h2, t1, t3, tk1, tl, n', ho⟩ := dat
    rw [z, hL] at ho; cases ho
  refine wpAny_storeName_local hlo F₆.ns (fun h₇ hn hs => ?_) (by show (scope.kind == .class || (scope.kind == .module && L != mainGlobals)) = false; rw [hk]; rfl)
  refine k h₇ g₆ _ T₆ (F₆.set hn hs) K₆ X₆ P₆ ge₆ (T₆.none_ _ gd) eL dL ?_ ?_
  · obtain ⟨c, dc, dt, sl⟩ := oe
    dsimp only at hcls hdict hdat
    subst hcls hdict hdat
    exact ⟨vs, sl, (hs.2 e eL).trans he⟩
  · obtain ⟨h1, h2, t1, t3, tk1, tl, n', ho⟩ := dat
    exact ⟨h1, h2, t1, t3, tk1, tl, n', (hs.2 d dL).trans (fly₆.stays _ _ ho)⟩
end
section
variable {w : World} {A : Around} {s : Shared} {h₀ : Heap} {L e d : Addr} {m : Str → Option Value} {news : List (Addr × Obj)} {expr : Bool} {msg : Str} {sp : Int} {vs : Array Value} {sl : Array (Option Value)} {h1 h2 : Int} {t1 t3 tk tl : Tok} {n : Nat} {Q E : Value → Shared → Prop}
theorem V_message (F : Fr h₀ L s.heap m) (N : News h₀ L s.heap news) (X : (KK w.params).In h₀) (he : (e, (⟨.ref 45, some d, .fields vs, sl⟩ : Obj)) ∈ news) (hD : (d, dictMS h1 h2 t1 t3 tk tl n msg sp) ∈ news) (hd : A.depth ≤ 400) (hu : A.units ≤ 200)
    (k : ∀ tk h' tk', Fr h₀ L h' m → News h₀ L h' news → Q (.str msg tk) { s with heap := h', toks := tk' }) : wpAny (model PR w) A (getAttr (.ref e) (Str.ofString "message") expr) Q E s :=
  U_message (X.keeps F.keep) ⟨vs, sl, N.get he⟩ ⟨h1, h2, t1, t3, tk, tl, n, N.get hD⟩ hd hu fun tk h' tk' st => k tk h' tk' (stayF F st) (stayN N st)
theorem V_spot (F : Fr h₀ L s.heap m) (N : News h₀ L s.heap news) (X : (KK w.params).In h₀) (he : (e, (⟨.ref 45, some d, .fields vs, sl⟩ : Obj)) ∈ news) (hD : (d, dictMS h1 h2 t1 t3 tk tl n msg sp) ∈ news) (hd : A.depth ≤ 400) (hu : A.units ≤ 200)
    (k : ∀ tk h' tk', Fr h₀ L h' m → News h₀ L h' news → Q (.int sp tk) { s with heap := h', toks := tk' }) : wpAny (model PR w) A (getAttr (.ref e) (Str.ofString "spot") expr) Q E s :=
  U_spot (X.keeps F.keep) ⟨vs, sl, N.get he⟩ ⟨h1, h2, t1, t3, tk, tl, n, N.get hD⟩ hd hu fun tk h' tk' st => k tk h' tk' (stayF F st) (stayN N st)
end
end
/- part X5 -/
section
open PySem PySem.W PyProof.Rows PySem.Calls PySem.Spec
theorem nsTurn {h g g₂ h' : Heap} {L : Addr} {m : Str → Option Value} {fs : List Addr} (hn : h.Ns L m) (hk : ∀ b o, h.get? b = some o → g.get? b = some o) (T : KtsTurn fs g g₂) (st : ∀ b o, g₂.get? b = some o → h'.get? b = some o) : h'.Ns L m := by
  obtain ⟨o, es, ep, ho, hd, r⟩ := hn
  obtain ⟨sl, hs⟩ := T.up (hk _ _ ho)
  exact ⟨_, es, ep, st _ _ hs, hd, r⟩
theorem freshTurn {h g g₂ h' : Heap} {L D : Addr} {o : Obj} {fs : List Addr} {news : List (Addr × Obj)} (hk : ∀ b o, h.get? b = some o → g.get? b = some o) (T : KtsTurn fs g g₂) (N : News g₂ L h' news) (hm : (D, o) ∈ news) : h.get? D = none := by
  cases q : h.get? D with
  | none => rfl
  | some o' =>
    obtain ⟨sl, hs⟩ := T.up (hk _ _ q)
    rw [(N _ hm).2.2] at hs; cases hs
section
variable {w : World} {dp un : Nat} {gd : Option (List Code)} {cn : Str} {cs : Scope} {a : Addr} {ccd : Value} {cl : List (Str × Addr)} {outer : List Env} {A₀ : Around} {base h₀ : Heap} {L : Addr} {m : Str → Option Value} {s : Shared} {Q E : Value → Shared → Prop}
    {p : Program} {loose : List Str} {mean : ExcName → Option Value} {mg mb : Str → Option Value} {rA : Addr} {mo ma : Int} {tmo tma : Tok} {vs : List Value} {ws : List Wd}
set_option maxHeartbeats 4000000 in
theorem C_told (B : Below A₀ base [] h₀) (F : Fr h₀ L s.heap m) (X : (KK w.params).In h₀) (T : Top p loose mean mg mb h₀) (XB : (KK w.params).In base) (TB : Top p loose mean mg mb base) (hk : cs.kind = .function) (hd : dp + 6 < 390) (hu : un + 50 < 190)
    (hl : s.heap.IsList rA vs.toArray) (hr : RowsAre s.heap vs ws) (hlen : vs.length ≤ 11)
    (k1 : chk mo ma ws (Str.ofString "end") (Str.ofString "") [0] = none → ∀ h' tk', s.heap.StaysIn h' → Q .none { s with heap := h', toks := tk' })
    (k2 : ∀ b sp, chk mo ma ws (Str.ofString "end") (Str.ofString "") [0] = some (b, sp) → ∀ D h' tk' t1 t2, (∀ b o, s.heap.get? b = some o → b ≠ L → h'.get? b = some o) → h'.Ns L m → s.heap.get? D = none → IsTup h' D #[.str (if b = true then Str.ofString "brackets" else Str.ofString "signs") t1, .int sp t2] → Q (.ref D) { s with heap := h', toks := tk' }) :
    wpAny (model PR w) (ktrTop dp un gd cn cs L a ccd cl []) (call (.ref 164) [.ref rA, .int mo tmo, .int ma tma]) Q E s := by
  have hd' : dp + 6 < recursionLimit := Nat.lt_trans hd (by decide)
  have hu' : un + 50 < cLine := Nat.lt_trans hu (by decide)
  refine wpAny_call ?_
  refine' enterS (hid := []) (by assumption) (by assumption) News.nil (by assumption) (by assumption) ?kA ?kF ?kK ?k6 ?k7 ?k8 ?k9 ?kB ?_ ?c2 ?c3 ?c4 ?c5
  (case kA => exact rfl); (case kF => exact rfl); (case kK => assumption); (case k6 => k_dflt k_is); (case k7 => k_dflt k_is); (case k8 => ktr_room); (case k9 => exact BindsTo.of_eq rfl); (case kB => exact locs rfl); (case c2 => exact rfl); (case c3 => exact rfl); (case c4 => exact rfl); (case c5 => decide)
  intro g L' h₁ tk₁ hkeep F' N' B' X' T'
  have hl' : g.IsList rA vs.toArray := hl.at fun o e => hkeep rA o e (by simp)
  have hr' : RowsAre g vs ws := hr.keeps fun b o e => hkeep b o e (by simp)
  replace F' := frCongr (m' := fun y => List.lookup y [(Str.ofString "most_ahead", Value.int ma tma), (Str.ofString "most_open", Value.int mo tmo), (Str.ofString "rows", Value.ref rA)]) F' (fun _ => rfl)
  dsimp only
  k_steps
  refine C_check B' F' X' T' rfl (by omega) (by show un + 3 + 40 < 190; omega) (hl'.at fun o e => F'.keep _ _ e) (hr'.keeps F'.keep) hlen ?_ ?_
  · intro hc h' tk' st
    have F2 := stayF F' st
    have N2 := stayN N' st
    clear F' N'
    dsimp only
    k_steps
    all_goals (
      dsimp only
      exact k1 hc _ _ (fun b o e => Fr.keep (by assumption) b o (hkeep b o e (by simp))))
  · intro b sp hc e d B2 h' tk' cov fly up ne nd dat
    refine caughtD (x := Str.ofString "GrammarFault") B' F' cov fly up XB TB ne nd dat (by k_dflt k_is) (kts45 _) ?_ rfl rfl rfl rfl
    intro h₂ g₂ tk₂ Tn F2 B3 X3 T3 ge gdn eL dL ei di
    obtain ⟨vsE, slE, he⟩ := ei
    obtain ⟨q1, q2, q3, q4, q5, q6, q7, hdd⟩ := di
    have N2 : News g₂ L' h₂ [(e, ⟨.ref 45, some d, .fields vsE, slE⟩), (d, dictMS q1 q2 q3 q4 q5 q6 q7 (if b = true then Str.ofString "too many brackets within one another" else Str.ofString "too many signs ahead of one another") sp)] := fun q hq => by
      rcases List.mem_cons.mp hq with rfl | hq
      · exact ⟨he, eL, ge⟩
      · rw [List.mem_singleton.mp hq]; exact ⟨hdd, dL, gdn⟩
    clear he hdd cov fly up dat B' F' N' X' T'
    cases b
    all_goals (
      (simp only [Bool.false_eq_true, if_false, if_true] at N2)
      have z1 : StopAt "getAttr ref" := .mk
      k_steps
      all_goals (repeat' (first
        | (unfold Halt
           with_reducible show wpAny _ _ (getAttr _ (PySem.Str.ofString "message") _) _ _ _
           refine' V_message ?kF ?kN ?kX ?ke ?kd ?k1 ?k2 ?_
           (case kF => k_asm); (case kN => k_asm); (case kX => k_asm); (case ke => k_mem); (case kd => k_mem); (case k1 => (show _ + 1 ≤ 400); (try dsimp only [ktrTop]); omega); (case k2 => (show _ + 3 ≤ 200); (try dsimp only [ktrTop]); omega)
           intro tk9 h' tk' F' N'; (try dsimp only); (try k_sweep)
           k_steps)
        | (unfold Halt
           with_reducible show wpAny _ _ (getAttr _ (PySem.Str.ofString "spot") _) _ _ _
           refine' V_spot ?kF ?kN ?kX ?ke ?kd ?k1 ?k2 ?_
           (case kF => k_asm); (case kN => k_asm); (case kX => k_asm); (case ke => k_mem); (case kd => k_mem); (case k1 => (show _ + 1 ≤ 400); (try dsimp only [ktrTop]); omega); (case k2 => (show _ + 3 ≤ 200); (try dsimp only [ktrTop]); omega)
           intro tk9 h' tk' F' N'; (try dsimp only); (try k_sweep)
           k_steps)))
      all_goals first
        | (refine k2 _ sp hc _ _ _ _ _ (fun b o q hb => Fr.keep (by assumption) b o (Tn.other b o (hkeep b o q (by simp)) (by simpa using hb))) (nsTurn F.ns (fun b o q => hkeep b o q (by simp)) Tn (Fr.keep (by assumption))) (freshTurn (fun b o q => hkeep b o q (by simp)) Tn (by assumption) (.head _)) (News.isTup (by assumption) (.head _)))
        | exact absurd ‹(List.isEmpty _) = true› (by decide +kernel)
        | exact absurd ‹(List.isEmpty _) = false› (by decide +kernel))
end
end
/- part P7 -/
section
open PySem PySem.W PyProof.Rows PySem.Calls PySem.Spec
def LastOk (lk lt : Str) : Prop := IsWord lk lt ∨ (lk = Str.ofString "end" ∧ lt = Str.ofString "")
theorem kws_closers : ∀ t ∈ kws8, closers.any (· == t) = false ∧ openers.any (· == t) = false := by decide
theorem a_closers : closers.any (· == Str.ofString "a") = false ∧ openers.any (· == Str.ofString "a") = false := by decide
theorem nosign_text {k t : Str} (h : IsWord k t) (hk : (k == Str.ofString "sign") = false) : closers.any (· == t) = false ∧ openers.any (· == t) = false := by
  obtain ⟨_, ⟨h1, _⟩ | ⟨_, _, ht⟩ | ⟨_, _, rfl⟩⟩ := h
  · rw [hk] at h1; cases h1
  · exact kws_closers t ht
  · exact a_closers
theorem ends_last {lk lt : Str} (h : LastOk lk lt) : endsOp lk lt = (isOp lk || closers.any (· == lt)) := by
  unfold endsOp isOp
  cases hk : (lk == Str.ofString "sign") with
  | true => simp
  | false =>
    have : closers.any (· == lt) = false := by
      rcases h with h | ⟨rfl, rfl⟩
      · exact (nosign_text h hk).1
      · decide
    rw [this]; simp
theorem text_of {v : Wd} (h : IsWord v.k v.t) : openers.any (· == textOf v) = openers.any (· == v.t) ∧ closers.any (· == textOf v) = closers.any (· == v.t) ∧ (openers.any (· == v.t) = true → textOf v = v.t) := by
  unfold textOf
  cases hk : (v.k == Str.ofString "sign") with
  | true => simp
  | false =>
    obtain ⟨a, b⟩ := nosign_text h hk
    rw [a, b]
    simp only [Bool.false_eq_true, if_false]
    exact ⟨by decide, by decide, fun h => by cases h⟩
theorem signs_sign (many : Int) (lk lt : Str) (hl : endsOp lk lt = (isOp lk || closers.any (· == lt))) : ∀ t ∈ signs20, openers.any (· == t) = false → closers.any (· == t) = false → signsF many lk lt (Str.ofString "sign") t = waitF many lk lt (Str.ofString "sign") t := by
  intro t ht h1 h2
  unfold signsF waitF
  rw [hl]
  simp only [signs20, List.mem_cons, List.not_mem_nil, or_false] at ht
  rcases ht with rfl | rfl | rfl | rfl | rfl | rfl | rfl | rfl | rfl | rfl | rfl | rfl | rfl | rfl | rfl | rfl | rfl | rfl | rfl | rfl
  all_goals first
    | rfl
    | exact absurd h1 (by decide)
    | exact absurd h2 (by decide)
theorem signs_kw (many : Int) (lk lt : Str) : ∀ t ∈ kws8, signsF many lk lt (Str.ofString "keyword") t = waitF many lk lt (Str.ofString "keyword") t := by
  intro t ht
  unfold signsF waitF
  simp only [kws8, List.mem_cons, List.not_mem_nil, or_false] at ht
  rcases ht with rfl | rfl | rfl | rfl | rfl | rfl | rfl | rfl
  all_goals rfl
theorem signs_wait (many : Int) {lk lt k t : Str} (hl : LastOk lk lt) (h : IsWord k t) (h1 : openers.any (· == t) = false) (h2 : closers.any (· == t) = false) : signsF many lk lt k t = waitF many lk lt k t := by
  obtain ⟨hk, ⟨a, ht⟩ | ⟨_, a, ht⟩ | ⟨a, b, rfl⟩⟩ := h
  · rw [eq_of_beq a]; exact signs_sign many lk lt (ends_last hl) t ht h1 h2
  · rw [eq_of_beq a]; exact signs_kw many lk lt t ht
  · have : (opKinds.any (· == k)) = true := by
      simp only [kinds9, List.mem_cons, List.not_mem_nil, or_false] at hk
      rcases hk with rfl | rfl | rfl | rfl | rfl | rfl | rfl | rfl | rfl
      all_goals first
        | decide
        | exact absurd a (by decide)
        | exact absurd b (by decide)
    unfold signsF waitF isOp
    rw [this]
    rfl
theorem set_last {st : List Int} (h : 1 ≤ st.length) (y : Int) : List.set st (st.length - 1) y = List.take (st.length - 1) st ++ [y] := by
  have e : st = List.take (st.length - 1) st ++ List.drop (st.length - 1) st := (List.take_append_drop _ _).symm
  have hd : (List.drop (st.length - 1) st).length = 1 := by rw [List.length_drop]; omega
  have hl : (List.take (st.length - 1) st).length = st.length - 1 := by rw [List.length_take]; omega
  obtain ⟨z, hz⟩ : ∃ z, List.drop (st.length - 1) st = [z] := by
    cases hq : List.drop (st.length - 1) st with
    | nil => rw [hq] at hd; cases hd
    | cons z r =>
      cases r with
      | nil => exact ⟨z, rfl⟩
      | cons _ _ => rw [hq] at hd; simp at hd
  rw [hz] at e
  conv => lhs; rw [e]
  rw [List.set_append, if_neg (by simp only [List.length_append, List.length_singleton]; omega)]
  simp only [List.length_append, List.length_singleton, hl]
  rw [show st.length - 1 + 1 - 1 - (st.length - 1) = 0 by omega]
  rfl
theorem step_eq {lk lt : Str} {v : Wd} {st : List Int} (hl : LastOk lk lt) (h : IsWord v.k v.t) (h1 : 1 ≤ st.length) : stepC lk lt v st = stepW waitF lk lt v st := by
  obtain ⟨a, b, c⟩ := text_of h
  unfold stepC stepW
  rw [a, b]
  by_cases ho : openers.any (· == v.t) = true
  · rw [if_pos ho, if_pos ho, c ho, set_last h1, List.append_assoc]; rfl
  · rw [if_neg ho, if_neg ho]
    by_cases hc : closers.any (· == v.t) = true
    · rw [if_pos hc, if_pos hc]
    · rw [if_neg hc, if_neg hc, set_last h1, signs_wait _ hl h (Bool.eq_false_iff.mpr ho) (Bool.eq_false_iff.mpr hc)]
theorem step_len {lk lt : Str} {v : Wd} {st : List Int} (h1 : 1 ≤ st.length) : 1 ≤ (stepC lk lt v st).length := by
  unfold stepC
  split
  · simp
  · split
    · split
      · rw [List.length_take]; omega
      · exact h1
    · rw [List.length_set]; exact h1
theorem chk_due (mo ma : Int) : ∀ (ws : List Wd) (lk lt : Str) (st : List Int), LastOk lk lt → 1 ≤ st.length → (∀ v ∈ ws, IsWord v.k v.t) → chk mo ma ws lk lt st = due waitF mo ma ws lk lt st
  | [], _, _, _, _, _, _ => rfl
  | v :: ws, lk, lt, st, hl, h1, hw => by
    have hv := hw v (.head _)
    unfold chk due
    rw [← step_eq hl hv h1]
    have ih := chk_due mo ma ws v.k v.t (stepC lk lt v st) (.inl hv) (step_len h1) (fun u hu => hw u (.tail _ hu))
    rw [ih]
    by_cases q : mo < ((stepC lk lt v st).length : Int) - 1
    · rw [if_pos q, if_pos (by omega)]
    · rw [if_neg q]
      have q' : ¬ mo + 1 < ((stepC lk lt v st).length : Int) := by omega
      rw [if_neg q']
end
/- part E1 -/
section
open PySem PySem.W PyProof.Rows PySem.Calls PySem.Spec

inductive DT where
  | none
  | int (i : Int)
  | str (x : Str)
  | tup (ds : List DT)

mutual
inductive DIn (h : Heap) : Value → DT → Prop
  | none : DIn h .none .none
  | int (i : Int) (t : Tok) : DIn h (.int i t) (.int i)
  | str (x : Str) (t : Tok) : DIn h (.str x t) (.str x)
  | tup {a : Addr} {vs : List Value} {ds : List DT} : IsTup h a vs.toArray → DsIn h vs ds → DIn h (.ref a) (.tup ds)
inductive DsIn (h : Heap) : List Value → List DT → Prop
  | nil : DsIn h [] []
  | cons {v : Value} {d : DT} {vs : List Value} {ds : List DT} : DIn h v d → DsIn h vs ds → DsIn h (v :: vs) (d :: ds)
end
mutual
theorem DIn.keeps {h h' : Heap} (st : ∀ b o, h.get? b = some o → h'.get? b = some o) : ∀ {v : Value} {d : DT}, DIn h v d → DIn h' v d
  | _, _, .none => .none
  | _, _, .int i t => .int i t
  | _, _, .str x t => .str x t
  | _, _, .tup ht hs => .tup (ht.keeps st) (DsIn.keeps st hs)
theorem DsIn.keeps {h h' : Heap} (st : ∀ b o, h.get? b = some o → h'.get? b = some o) : ∀ {vs : List Value} {ds : List DT}, DsIn h vs ds → DsIn h' vs ds
  | _, _, .nil => .nil
  | _, _, .cons a b => .cons (DIn.keeps st a) (DsIn.keeps st b)
end
def isStrD : DT → Bool | .str _ => true | _ => false
def isIntD : DT → Bool | .int _ => true | _ => false
def isTupD : DT → Bool | .tup _ => true | _ => false
def startsN : List DT → Bool
  | a :: b :: _ => isStrD a && isIntD b
  | _ => false
def typedN : List DT → Bool
  | a :: b :: c :: _ => isStrD a && isTupD b && isIntD c
  | _ => false

section
variable {prog : Program} {w : World} {A : Around} {E : Value → Shared → Prop} {s : Shared} {h₀ : Heap} {L l b : Addr} {m : Str → Option Value} {news : List (Addr × Obj)} {value slice : PySem.Expr} {vs ws : List Value} {u : Tok} {v x : Value} {d : DT} {k : Int} {Q : Value → Shared → Prop}
theorem my_lenT (hl : IsTup s.heap l vs.toArray) (hln : vs.length ≤ 100) (h : ∀ t tk', Q (.int (vs.length : Int) t) { s with toks := tk' }) : wpAny (model prog w) A (call (.builtin "len") [.ref l]) Q E s :=
  kun_lenT hl (k := (vs.length : Int)) (by simp) (by omega) (h _ _)
theorem my_itemT (ht : IsTup s.heap l vs.toArray) (h0 : 0 ≤ k) (hx : vs[k.toNat]? = some x) (hln : vs.length ≤ 100) (h : Q x s)
    (hs : subscripted slice false (.ref l) (.int k u) = operate [.ref l, .int k u] (getItem (.ref l) (.int k u)) := by with_unfolding_all rfl) (hg : ∀ r, letTemporaryGo value (.ref l) r = pure () := by intro _; with_unfolding_all rfl) :
    wpAny (model prog w) A (subscriptTail value slice (.ref l) (.int k u)) Q E s := by
  have hlt : k.toNat < vs.length := (List.getElem?_eq_some_iff.mp hx).1
  exact item_tupleL ht (by omega) (by omega) (seqIndex_of h0 (by omega)) hx h hs hg
theorem isiStr (hv : DIn s.heap v d) (h : ∀ tk', Q (.bool (isStrD d)) { s with toks := tk' }) : wpAny (model prog w) A (call (.builtin "isinstance") [v, .type "str"]) Q E s := by
  cases hv with
  | none => exact IsiPair.NoneType_str (h _)
  | int i t => exact IsiPair.int_str (h _)
  | str x t => exact IsiPair.str_str (h _)
  | tup ht hs => obtain ⟨o, ho, hc, _⟩ := ht; exact IsiPair.tuple_str ho hc (h _)
theorem isiInt (hv : DIn s.heap v d) (h : ∀ tk', Q (.bool (isIntD d)) { s with toks := tk' }) : wpAny (model prog w) A (call (.builtin "isinstance") [v, .type "int"]) Q E s := by
  cases hv with
  | none => exact IsiPair.NoneType_int (h _)
  | int i t => exact IsiPair.int_int (h _)
  | str x t => exact IsiPair.str_int (h _)
  | tup ht hs => obtain ⟨o, ho, hc, _⟩ := ht; exact IsiPair.tuple_int ho hc (h _)
theorem isiTup (hv : DIn s.heap v d) (h : ∀ tk', Q (.bool (isTupD d)) { s with toks := tk' }) : wpAny (model prog w) A (call (.builtin "isinstance") [v, .type "tuple"]) Q E s := by
  cases hv with
  | none => exact IsiPair.NoneType_tuple (h _)
  | int i t => exact IsiPair.int_tuple (h _)
  | str x t => exact IsiPair.str_tuple (h _)
  | tup ht hs => obtain ⟨o, ho, hc, _⟩ := ht; exact IsiPair.tuple_tuple ho hc (h _)
end
end
/- part E2 -/
section
open PySem PySem.W PyProof.Rows PySem.Calls PySem.Spec

theorem ds_open2 {h : Heap} {vs : List Value} {ds : List DT} (x : DsIn h vs ds) (hl : (1 : Int) < (vs.length : Int)) : ∃ v1 v2 vs3 d1 d2 ds3, vs = v1 :: v2 :: vs3 ∧ ds = d1 :: d2 :: ds3 ∧ DIn h v1 d1 ∧ DIn h v2 d2 ∧ DsIn h vs3 ds3 := by
  rcases x with _ | ⟨a, _ | ⟨b, c⟩⟩
  · simp at hl
  · simp at hl
  · exact ⟨_, _, _, _, _, _, rfl, rfl, a, b, c⟩
theorem starts_short {h : Heap} {vs : List Value} {ds : List DT} (x : DsIn h vs ds) (hl : ¬ (1 : Int) < (vs.length : Int)) : startsN ds = false := by
  rcases x with _ | ⟨a, _ | ⟨b, c⟩⟩
  · rfl
  · rfl
  · simp at hl; omega
theorem typed_short {h : Heap} {vs : List Value} {ds : List DT} (x : DsIn h vs ds) (hl : ¬ (2 : Int) < (vs.length : Int)) : typedN ds = false := by
  rcases x with _ | ⟨a, _ | ⟨b, _ | ⟨c, e⟩⟩⟩
  · rfl
  · rfl
  · rfl
  · simp at hl; omega
theorem ds_open3 {h : Heap} {vs : List Value} {ds : List DT} (x : DsIn h vs ds) (hl : (2 : Int) < (vs.length : Int)) : ∃ v1 v2 v3 vs4 d1 d2 d3 ds4, vs = v1 :: v2 :: v3 :: vs4 ∧ ds = d1 :: d2 :: d3 :: ds4 ∧ DIn h v1 d1 ∧ DIn h v2 d2 ∧ DIn h v3 d3 := by
  rcases x with _ | ⟨a, _ | ⟨b, _ | ⟨c, e⟩⟩⟩
  · simp at hl
  · simp at hl
  · simp at hl
  · exact ⟨_, _, _, _, _, _, _, _, rfl, rfl, a, b, c⟩
section
variable {w : World} {dp un : Nat} {gd : Option (List Code)} {cn : Str} {cs : Scope} {a : Addr} {ccd : Value} {cl : List (Str × Addr)} {outer : List Env} {A₀ : Around} {base h₀ : Heap} {L : Addr} {m : Str → Option Value} {s : Shared} {Q E : Value → Shared → Prop}
    {p : Program} {loose : List Str} {mean : ExcName → Option Value} {mg mb : Str → Option Value} {P : Addr} {vs : List Value} {ds : List DT}

set_option maxHeartbeats 4000000 in
theorem C_starts (B : Below A₀ base outer h₀) (F : Fr h₀ L s.heap m) (X : (KK w.params).In h₀) (T : Top p loose mean mg mb h₀) (hk : cs.kind = .function) (hd : dp + 1 < recursionLimit) (hu : un + 10 < cLine)
    (ht : IsTup s.heap P vs.toArray) (hD : DsIn s.heap vs ds) (hn : vs.length ≤ 100)
    (k : ∀ h' tk', s.heap.StaysIn h' → Q (.bool (startsN ds)) { s with heap := h', toks := tk' }) :
    wpAny (model PR w) (ktrTop dp un gd cn cs L a ccd cl outer) (call (.ref 91) [.ref P]) Q E s := by
  obtain ⟨sh, sg, sd, sk, so⟩ := s
  dsimp only at F ht hD k
  refine wpAny_call ?_
  refine' enterS (hid := []) (by assumption) (by assumption) News.nil (by assumption) (by assumption) ?kA ?kF ?kK ?k6 ?k7 ?k8 ?k9 ?kB ?_ ?c2 ?c3 ?c4 ?c5
  (case kA => exact rfl); (case kF => exact rfl); (case kK => assumption); (case k6 => k_dflt k_is); (case k7 => k_dflt k_is); (case k8 => ktr_room); (case k9 => exact BindsTo.of_eq rfl); (case kB => exact locs rfl); (case c2 => exact rfl); (case c3 => exact rfl); (case c4 => exact rfl); (case c5 => decide)
  intro g L' h₁ tk₁ hkeep F' N' B' X' T'
  have hcov : ∀ b o, sh.get? b = some o → g.get? b = some o := fun b o e => hkeep b o e (by simp)
  have ht' : IsTup g P vs.toArray := ht.keeps hcov
  have hD' : DsIn g vs ds := hD.keeps hcov
  replace F' := frCongr (m' := fun y => List.lookup y [(Str.ofString "part", Value.ref P)]) F' (fun _ => rfl)
  dsimp only
  refine anyQF fun Q9 hQ9 => ?_
  have k9 : ∀ x, x = startsN ds → ∀ h' tk', g.StaysIn h' → Q9 (.ret (.bool x)) ⟨h', sg, sd, tk', so⟩ := fun x e h' tk' st => by subst e; exact hQ9 _ _ (k h' tk' fun b o e => st b o (hcov b o e))
  clear B F X T ht hk hD hQ9 k hcov hkeep
  have z1 : StopAt "call builtin:len" := .mk
  have z2 : StopAt "subscriptTail" := .mk
  have z3 : StopAt "call builtin:isinstance" := .mk
  k_steps
  unfold Halt
  refine my_lenT (Fr.tup (by assumption) (by assumption)) hn ?_
  intro t' tk'; (try dsimp only)
  k_steps
  all_goals first
    | (refine k9 _ ?_ _ _ (Fr.keep (by assumption)); rw [starts_short hD' (by assumption)]; first | rfl | (simp [*]; done))
    | skip
  obtain ⟨v1, v2, vs3, d1, d2, ds3, rfl, rfl, e1, e2, e3⟩ := ds_open2 hD' (by assumption)
  all_goals (repeat' (first
    | (unfold Halt
       with_reducible show wpAny _ _ (subscriptTail _ _ (Value.ref _) (Value.int _ _)) _ _ _
       refine' my_itemT ?kl ?k0 ?k1 ?k2 ?_ ?k6 ?k7; (case kl => exact Fr.tup (by assumption) (by assumption)); (case k0 => decide); (case k1 => exact rfl); (case k2 => assumption); (case k6 => with_unfolding_all rfl); (case k7 => (intro _; with_unfolding_all rfl))
       k_steps)
    | (unfold Halt
       with_reducible show wpAny _ _ (call _ [_, Value.type "str"]) _ _ _
       refine' isiStr ?kl ?_; (case kl => exact DIn.keeps (Fr.keep (by assumption)) (by assumption))
       intro tk'; (try dsimp only)
       k_steps)
    | (unfold Halt
       with_reducible show wpAny _ _ (call _ [_, Value.type "int"]) _ _ _
       refine' isiInt ?kl ?_; (case kl => exact DIn.keeps (Fr.keep (by assumption)) (by assumption))
       intro tk'; (try dsimp only)
       k_steps)
    | (unfold Halt
       with_reducible show wpAny _ _ (call _ [_, Value.type "tuple"]) _ _ _
       refine' isiTup ?kl ?_; (case kl => exact DIn.keeps (Fr.keep (by assumption)) (by assumption))
       intro tk'; (try dsimp only)
       k_steps)))
  all_goals (refine k9 _ ?_ _ _ (Fr.keep (by assumption)); (first | rfl | (simp [startsN, *]; done)))

set_option maxHeartbeats 4000000 in
theorem C_typed (B : Below A₀ base outer h₀) (F : Fr h₀ L s.heap m) (X : (KK w.params).In h₀) (T : Top p loose mean mg mb h₀) (hk : cs.kind = .function) (hd : dp + 1 < recursionLimit) (hu : un + 10 < cLine)
    (ht : IsTup s.heap P vs.toArray) (hD : DsIn s.heap vs ds) (hn : vs.length ≤ 100)
    (k : ∀ h' tk', s.heap.StaysIn h' → Q (.bool (typedN ds)) { s with heap := h', toks := tk' }) :
    wpAny (model PR w) (ktrTop dp un gd cn cs L a ccd cl outer) (call (.ref 103) [.ref P]) Q E s := by
  obtain ⟨sh, sg, sd, sk, so⟩ := s
  dsimp only at F ht hD k
  refine wpAny_call ?_
  refine' enterS (hid := []) (by assumption) (by assumption) News.nil (by assumption) (by assumption) ?kA ?kF ?kK ?k6 ?k7 ?k8 ?k9 ?kB ?_ ?c2 ?c3 ?c4 ?c5
  (case kA => exact rfl); (case kF => exact rfl); (case kK => assumption); (case k6 => k_dflt k_is); (case k7 => k_dflt k_is); (case k8 => ktr_room); (case k9 => exact BindsTo.of_eq rfl); (case kB => exact locs rfl); (case c2 => exact rfl); (case c3 => exact rfl); (case c4 => exact rfl); (case c5 => decide)
  intro g L' h₁ tk₁ hkeep F' N' B' X' T'
  have hcov : ∀ b o, sh.get? b = some o → g.get? b = some o := fun b o e => hkeep b o e (by simp)
  have ht' : IsTup g P vs.toArray := ht.keeps hcov
  have hD' : DsIn g vs ds := hD.keeps hcov
  replace F' := frCongr (m' := fun y => List.lookup y [(Str.ofString "part", Value.ref P)]) F' (fun _ => rfl)
  dsimp only
  refine anyQF fun Q9 hQ9 => ?_
  have k9 : ∀ x, x = typedN ds → ∀ h' tk', g.StaysIn h' → Q9 (.ret (.bool x)) ⟨h', sg, sd, tk', so⟩ := fun x e h' tk' st => by subst e; exact hQ9 _ _ (k h' tk' fun b o e => st b o (hcov b o e))
  clear B F X T ht hk hD hQ9 k hcov hkeep
  have z1 : StopAt "call builtin:len" := .mk
  have z2 : StopAt "subscriptTail" := .mk
  have z3 : StopAt "call builtin:isinstance" := .mk
  k_steps
  unfold Halt
  refine my_lenT (Fr.tup (by assumption) (by assumption)) hn ?_
  intro t' tk'; (try dsimp only)
  k_steps
  all_goals first
    | (refine k9 _ ?_ _ _ (Fr.keep (by assumption)); rw [typed_short hD' (by assumption)]; first | rfl | (simp [*]; done))
    | skip
  obtain ⟨v1, v2, v3, vs4, d1, d2, d3, ds4, rfl, rfl, e1, e2, e3⟩ := ds_open3 hD' (by assumption)
  all_goals (repeat' (first
    | (unfold Halt
       with_reducible show wpAny _ _ (subscriptTail _ _ (Value.ref _) (Value.int _ _)) _ _ _
       refine' my_itemT ?kl ?k0 ?k1 ?k2 ?_ ?k6 ?k7; (case kl => exact Fr.tup (by assumption) (by assumption)); (case k0 => decide); (case k1 => exact rfl); (case k2 => assumption); (case k6 => with_unfolding_all rfl); (case k7 => (intro _; with_unfolding_all rfl))
       k_steps)
    | (unfold Halt
       with_reducible show wpAny _ _ (call _ [_, Value.type "str"]) _ _ _
       refine' isiStr ?kl ?_; (case kl => exact DIn.keeps (Fr.keep (by assumption)) (by assumption))
       intro tk'; (try dsimp only)
       k_steps)
    | (unfold Halt
       with_reducible show wpAny _ _ (call _ [_, Value.type "int"]) _ _ _
       refine' isiInt ?kl ?_; (case kl => exact DIn.keeps (Fr.keep (by assumption)) (by assumption))
       intro tk'; (try dsimp only)
       k_steps)
    | (unfold Halt
       with_reducible show wpAny _ _ (call _ [_, Value.type "tuple"]) _ _ _
       refine' isiTup ?kl ?_; (case kl => exact DIn.keeps (Fr.keep (by assumption)) (by assumption))
       intro tk'; (try dsimp only)
       k_steps)))
  all_goals (refine k9 _ ?_ _ _ (Fr.keep (by assumption)); (first | rfl | (simp [typedN, *]; done)))
end
end
/- part E3 -/
section
open PySem PySem.W PyProof.Rows PySem.Calls PySem.Spec
open LCg LCt
section
variable {prog : Program} {w : World} {A : Around} {E : Value → Shared → Prop} {s : Shared} {h₀ : Heap} {L ax : Addr} {m : Str → Option Value} {env : Env} {news : List (Addr × Obj)} {vs : List Value}
/-- the turns of a block with one test, by an invariant -/
theorem restT {S : List (Addr × Obj) → Prop} {ct elt : Expr} {x : Str} {scope : Scope} {cl : List (Str × Addr)} {s₂ : Shared} {Fin : List Value → List (Addr × Obj) → Prop} (K : Nat → List Value → List (Addr × Obj) → Prop)
    (turn : ∀ i v ys nw I oI C oC D m₂ h tk (E' : Value → Shared → Prop), vs[i]? = some v → K i ys nw → NsObj oC m₂ → m₂ x = some v → Fr h₀ L h m → News h₀ L h ((I, oI) :: (C, oC) :: (D, lst ys) :: nw) → Off3 I C D nw → ((@Ne Nat I C) ∧ (@Ne Nat I D) ∧ (@Ne Nat C D)) →
      wpAny (model prog w) A (isTrue ct (compEnvC scope cl C env) (eval ct (compEnvC scope cl C env))) (fun ok s' => if ok = true then
        wpAny (model prog w) A (eval elt (compEnvC scope cl C env)) (CompEnd h₀ L m { s₂ with heap := h, toks := tk } I oI C oC D (lst ys) S (fun y nw' => K (i + 1) (ys ++ [y]) nw')) E' s'
        else CompEnd h₀ L m { s₂ with heap := h, toks := tk } I oI C oC D (lst ys) S (fun _ nw' => K (i + 1) ys nw') Value.none s') E' { s₂ with heap := h, toks := tk })
    (done : ∀ ys nw, K vs.length ys nw → Fin ys nw) : ∀ (k i : Nat) (ys : List Value) (nw : List (Addr × Obj)), i + k = vs.length → K i ys nw →
    CompRestT prog w A h₀ L m env ct elt x scope cl s₂ S (fun i v => vs.toArray[i]? = some v) Fin k i ys nw := by
  intro k
  induction k with
  | zero => intro i ys nw hi hK; exact .zero (done ys nw ((by omega : i = vs.length) ▸ hK))
  | succ k ih =>
    intro i ys nw hi hK
    refine .succ fun v I oI C oC D m₂ h tk E' hv hC hx F N off ne => ?_
    refine wpAny_mono (turn i v ys nw I oI C oC D m₂ h tk E' (by simpa using hv) hK hC hx F N off ne) (fun ok s' q => ?_) fun _ _ e => e
    cases ok with
    | true =>
      simp only [if_true] at q ⊢
      refine wpAny_mono q (fun y s₅ h₅ => ?_) fun _ _ e => e
      obtain ⟨h₄, tk₄, n₄, e₄, F₄, N₄, o₄, S₄, R₄⟩ := h₅
      exact ⟨h₄, tk₄, n₄, e₄, F₄, N₄, o₄, S₄, ih (i + 1) _ _ (by omega) R₄⟩
    | false =>
      simp only [Bool.false_eq_true, if_false] at q ⊢
      obtain ⟨h₄, tk₄, n₄, e₄, F₄, N₄, o₄, S₄, R₄⟩ := q
      exact ⟨h₄, tk₄, n₄, e₄, F₄, N₄, o₄, S₄, ih (i + 1) _ _ (by omega) R₄⟩

theorem comp_tup {ct elt iter : Expr} {x : Str} {px : Pos} {scope : Scope} {cl : List (Str × Addr)} {pos : Pos} {Q : Value → Shared → Prop} (K : Nat → List Value → List (Addr × Obj) → Prop)
    (hh : A.handled = none) (F : Fr h₀ L s.heap m) (N : News h₀ L s.heap news) (src : IsTup h₀ ax vs.toArray ∨ ∃ o, (ax, o) ∈ news ∧ o.cls = .type "tuple" ∧ ∃ n, o.data = .seq vs.toArray n) (hsz : vs.length ≤ 100)
    (hclos : closureFor scope env = pure cl) (hcell : ∀ y ∈ scope.names, y.2 ≠ .cell) (hkind : scope.kind = .function)
    (hnames : ∀ y ∈ scope.names, y.2 = .local → scope.names.lookup y.1 = some .local) (hx : scope.names.lookup x = some .local)
    (hit : ∀ Q' : Value → Shared → Prop, Q' (.ref ax) s → wpAny (model prog w) A (eval iter env) Q' E s) (k0 : K 0 [] news)
    (turn : ∀ (s₂ : Shared), (∃ h, s₂ = { s with heap := h }) → ∀ i v ys nw I oI C oC D m₂ h tk (E' : Value → Shared → Prop), vs[i]? = some v → K i ys nw → NsObj oC m₂ → m₂ x = some v → Fr h₀ L h m → News h₀ L h ((I, oI) :: (C, oC) :: (D, lst ys) :: nw) → Off3 I C D nw → ((@Ne Nat I C) ∧ (@Ne Nat I D) ∧ (@Ne Nat C D)) →
      wpAny (model prog w) A (isTrue ct (compEnvC scope cl C env) (eval ct (compEnvC scope cl C env))) (fun ok s' => if ok = true then
        wpAny (model prog w) A (eval elt (compEnvC scope cl C env)) (CompEnd h₀ L m { s₂ with heap := h, toks := tk } I oI C oC D (lst ys) (fun nw => ∀ q ∈ news, q ∈ nw) (fun y nw' => K (i + 1) (ys ++ [y]) nw')) E' s'
        else CompEnd h₀ L m { s₂ with heap := h, toks := tk } I oI C oC D (lst ys) (fun nw => ∀ q ∈ news, q ∈ nw) (fun _ nw' => K (i + 1) ys nw') Value.none s') E' { s₂ with heap := h, toks := tk })
    (done : ∀ ys nw D h tk, K vs.length ys nw → Fr h₀ L h m → News h₀ L h ((D, lst ys) :: nw) → Off1 D nw → Q (.ref D) { s with heap := h, toks := tk })
    (hs : ∀ x, foldedSetIterable iter env x = pure x := by intro _; rfl) :
    wpAny (model prog w) A (eval (.ListComp elt [⟨.Name x px, iter, [ct], 0⟩] scope pos) env) Q E s := by
  rw [eval_ListComp]
  refine wpAny_comprehension_free (use := none) rfl hs hclos hkind hnames (hit _ ?_)
  have hat : ∀ (h' : Heap) (nw : List (Addr × Obj)), (∀ b o, h₀.get? b = some o → h'.get? b = some o) → News h₀ L h' nw → (∀ q ∈ news, q ∈ nw) → h'.IsTuple ax vs.toArray := fun h' nw k N' sub => by
    rcases src with ht | ⟨o, hm, r⟩
    · exact ht.keeps k
    · exact ⟨o, (N' _ (sub _ hm)).1, r⟩
  have hts : s.heap.IsTuple ax vs.toArray := hat _ news F.keep N fun _ h => h
  have hlt : ax < s.heap.objs.size := by obtain ⟨_, e, _⟩ := hts; exact Heap.lt_size e
  refine wpAny_pyIter_tuple hts ?_
  have up : ∀ b o, s.heap.get? b = some o → (s.heap.push { cls := .type "tuple_iterator", data := .fields #[.ref ax, .int 0 0] }).get? b = some o := fun b o e => Heap.get?_push_of_some _ e
  refine block_T (Walks.tuple hh s.heap.objs.size ax (Nat.ne_of_lt hlt) vs.toArray) (by rw [sizeLine_eq]; simp; omega) (fun i h st => by obtain ⟨o, e, _⟩ := st.1; exact ⟨o, e⟩) (S := fun nw => ∀ q ∈ news, q ∈ nw) ?_ hcell hkind hx ⟨⟨_, Heap.get?_push_size _ rfl, rfl, rfl⟩, hts.push _⟩ (fun b hb => ?_)
      (F.keeps up) (N.grown up) (Nat.ne_of_lt F.ns.lt) (next_is_new F) (fun p hp => Nat.ne_of_lt (Heap.lt_size (N p hp).1)) (fun _ h => h)
      (restT (Fin := fun ys nw => FinE h₀ L m s Q ys nw) K (turn _ ⟨_, rfl⟩) (fun ys nw hK D h tk F' N' o => done ys nw D h tk hK F' N' o) _ 0 [] news (by simp) k0) ?_
  · intro i h h' o nw st e e' k N' S'
    exact ⟨by obtain ⟨o', q, r⟩ := st.1; rw [e] at q; cases q; exact ⟨o, e', r⟩, hat _ nw k N' S'⟩
  · show b < (s.heap.push _).objs.size
    rw [Heap.size_push]
    rcases List.mem_cons.mp hb with rfl | hb
    · exact Nat.lt_succ_self _
    · rw [List.mem_singleton.mp hb]; exact Nat.lt_succ_of_lt hlt
  · intro D C h tk m' ys news' F' N' o1 hn hC₀ hD₀ hCL hDL hCD offC fin
    refine ⟨m', hn, fun h'' hs'' => fin D h'' tk (F'.change hs'' hCL hC₀) (fun p hp => ?_) o1⟩
    refine ⟨hs''.extBut _ _ ?_ (N' p hp).1, (N' p hp).2⟩
    rcases List.mem_cons.mp hp with rfl | hp
    · exact Ne.symm hCD
    · exact offC p hp
end
end
/- part E4 -/
section
open PySem PySem.W PyProof.Rows PySem.Calls PySem.Spec
section
variable {prog : Program} {w : World} {A₀ A : Around} {s : Shared} {base h₀ : Heap} {outer : List Env} {L : Addr} {m : Str → Option Value} {env : Env} {hid : List (Addr × Obj)} {K : Frag}
  {p : Program} {loose : List Str} {mean : ExcName → Option Value} {mg mb : Str → Option Value}
  {R : Result → Shared → Prop} {name qual : Str} {params : Arguments} {body : List Stmt} {scope : Scope} {dV kV doc pm cdv ct oc : Value} {an od : Option Addr} {osl : Array (Option Value)} {f : Addr} {args : Args} {binds : List (Str × Value)}

/-- the entry of a def whose locals are in part cells -/
theorem enterC (B : Below A₀ base outer h₀) (F : Fr h₀ L s.heap m) (N : News h₀ L s.heap hid) (X₀ : K.In h₀) (T : Top p loose mean mg mb h₀) (hA : A.frames = some (env :: outer)) (hf : env.frame = some L) (hke : env.scope.kind = .function)
    (ho : K.lookup f = some ⟨oc, od, .func (fnOf name qual params body scope dV kV doc pm an cdv ct), osl⟩) (hcd : codeIn K cdv qual = true) (hroom : A.depth < recursionLimit)
    (hbind : BindsTo s (fnOf name qual params body scope dV kV doc pm an cdv ct) args binds) (hkind : (binds.all fun y => scope.names.lookup y.1 == some .local || scope.names.lookup y.1 == some .cell) = true)
    (hnd : ((cellsFrom 0 scope.names []).map (·.1)).Nodup)
    (h : ∀ g L' h₁ tk₁ cells, (∀ b o, s.heap.get? b = some o → b ∉ hid.map (·.1) → g.get? b = some o) → Fr g L' h₁ (bindL (envOfC qual scope L' f cdv).kindOf binds fun _ => none) → News g L' h₁ (cells ++ hid) →
      CellsAre (bindC (envOfC qual scope L' f cdv).kindOf binds fun _ => none) (cellsFrom (L' + 1) scope.names []) cells → (∀ q ∈ hid, q.1 < L') → Below A base (env :: outer) g → K.In g → Top p loose mean mg mb g →
      wpAny (model prog w) (A.deeper (envOfC qual scope L' f cdv)) (execs body (envOfC qual scope L' f cdv))
        (fun fl s' => R (.ok (.ret (match fl with | .ret v => v | _ => .none))) s')
        (fun e s' => wpAny (model prog w) (A.deeper (envOfC qual scope L' f cdv)) (leaving (envOfC qual scope L' f cdv) e) (fun _ s'' => R (.error e) s'') (fun e' s'' => R (.error e') s'') s')
        { s with heap := h₁, toks := tk₁ })
    (hco : scope.isCoroutine = false) (hgen : scope.isGenerator = false) (hk : scope.kind = .function) : codeAny (model prog w) A (.call (.ref f) args) R s := by
  obtain ⟨FG, BG, st, _⟩ := groundX (R := R) B F N hA hf hke
  refine codeAny_call_function hroom ((X₀.keeps F.keep) _ _ ho) rfl hco hgen rfl (codeRec_of (X₀.keeps F.keep) hcd) (hbind _ _ _ _ ?_)
  refine wpAny_newFunctionEnv_cells hk (kindsX hkind _) fun env' he s' x => ?_
  subst he
  refine ⟨(T.nolimit.keeps F.keep).keeps x.toInCall.keep, codeAny_func ?_⟩
  obtain ⟨h₁, tk, rfl, _⟩ := x.done
  have hk₁ := x.toInCall.keep
  obtain ⟨cells, NC, Y⟩ := Cl.news (h₀ := s.heap) (Nat.le_refl _) fun n c hm => ⟨x.cell n c (lookup_of_mem_nodup (cellsFrom_names scope.names 0 (s.heap.objs.size + 1) [] [] rfl ▸ hnd) hm), x.above n c hm⟩
  refine h (hideAll s.heap (hid.map (·.1))) s.heap.objs.size h₁ tk cells (fun b o e n => hideAll_get _ e n) ⟨x.toInCall.ns, fun b o e => hk₁ b o (of_hideAll _ e), Nat.le_of_eq (hideAll_size _ _)⟩ (fun q hq => ?_) Y (fun q hq => Heap.lt_size (N q hq).1) BG (X₀.keeps (h' := hideAll s.heap (hid.map (·.1))) fun b o e => st b o e) (T.keeps (h' := hideAll s.heap (hid.map (·.1))) fun b o e => st b o e)
  rcases List.mem_append.mp hq with hq | hq
  · refine ⟨(NC q hq).1, (NC q hq).2.1, ?_⟩
    cases z : (hideAll s.heap (hid.map (·.1))).get? q.1 with
    | none => rfl
    | some o => have := of_hideAll _ z; rw [(NC q hq).2.2] at this; cases this
  · exact ⟨hk₁ _ _ (N q hq).1, Nat.ne_of_lt (Heap.lt_size (N q hq).1), hideAll_none _ (List.mem_map_of_mem hq)⟩
end
end
/- part E5 -/
section
open PySem PySem.W PyProof.Rows PySem.Calls PySem.Spec
mutual
def cnt : DT → Nat
  | .tup ds => 1 + cnts ds
  | _ => 1
def cnts : List DT → Nat
  | [] => 0
  | d :: ds => cnt d + cnts ds
end
mutual
def lev : DT → Int
  | .tup ds => (if startsN ds then 1 else 0) + levs ds
  | _ => 0
def levs : List DT → Int
  | [] => 0
  | d :: ds => max (lev d) (levs ds)
end
def levP (ds : List DT) : Int := (if startsN ds then 1 else 0) + levs ds
def smx (st : List (List DT × Int)) (m : Int) : Int := st.foldl (fun acc x => max acc (x.2 + levP x.1)) m
def cntS (st : List (List DT × Int)) : Nat := (st.map fun x => 1 + cnts x.1).sum
abbrev pairT (P : Addr) (lv : Int) (t : Tok) : Obj := { cls := .type "tuple", data := .seq #[.ref P, .int lv t] }
inductive StkAre (g : Heap) (rest : List (Addr × Obj)) : List Value → List (List DT × Int) → Prop
  | nil : StkAre g rest [] []
  | cons {T P : Addr} {lv : Int} {t : Tok} {vs its : List Value} {ds : List DT} {st : List (List DT × Int)} : (T, pairT P lv t) ∈ rest → IsTup g P vs.toArray → DsIn g vs ds → StkAre g rest its st → StkAre g rest (.ref T :: its) ((ds, lv) :: st)
theorem StkAre.mono {g : Heap} {r r' : List (Addr × Obj)} {its : List Value} {st : List (List DT × Int)} (x : StkAre g r its st) (h : ∀ q ∈ r, q ∈ r') : StkAre g r' its st := by
  induction x with
  | nil => exact .nil
  | cons a b c _ ih => exact .cons (h _ a) b c ih
theorem StkAre.append {g : Heap} {r : List (Addr × Obj)} {its its' : List Value} {st st' : List (List DT × Int)} (x : StkAre g r its st) (y : StkAre g r its' st') : StkAre g r (its ++ its') (st ++ st') := by
  induction x with
  | nil => exact y
  | cons a b c _ ih => exact .cons a b c ih
theorem StkAre.length {g : Heap} {r : List (Addr × Obj)} {its : List Value} {st : List (List DT × Int)} (x : StkAre g r its st) : its.length = st.length := by
  induction x with
  | nil => rfl
  | cons _ _ _ _ ih => simp [ih]
theorem StkAre.last {g : Heap} {r : List (Addr × Obj)} {its : List Value} {st : List (List DT × Int)} (x : StkAre g r its st) (h : its ≠ []) :
    ∃ T P lv t vs ds its' st', its = its' ++ [.ref T] ∧ st = st' ++ [(ds, lv)] ∧ (T, pairT P lv t) ∈ r ∧ IsTup g P vs.toArray ∧ DsIn g vs ds ∧ StkAre g r its' st' := by
  induction x with
  | nil => exact absurd rfl h
  | @cons T P lv t vs its ds st a b c d ih =>
    cases d with
    | nil => exact ⟨T, P, lv, t, vs, ds, [], [], rfl, rfl, a, b, c, .nil⟩
    | cons a' b' c' d' =>
      obtain ⟨T', P', lv', t', vs', ds', its', st', e1, e2, m', b2, c2, d2⟩ := ih (by simp)
      exact ⟨T', P', lv', t', vs', ds', _ :: its', _ :: st', by rw [e1]; rfl, by rw [e2]; rfl, m', b2, c2, .cons a b c d2⟩
theorem DsIn.length {h : Heap} : ∀ {vs : List Value} {ds : List DT}, DsIn h vs ds → vs.length = ds.length
  | _, _, .nil => rfl
  | _, _, .cons _ b => by simp [DsIn.length b]
theorem cnt_pos : ∀ d : DT, 1 ≤ cnt d
  | .tup ds => by show 1 ≤ 1 + cnts ds; omega
  | .none => Nat.le_refl _
  | .int _ => Nat.le_refl _
  | .str _ => Nat.le_refl _
theorem cnts_len : ∀ ds : List DT, ds.length ≤ cnts ds
  | [] => Nat.le_refl _
  | d :: ds => by have := cnts_len ds; have := cnt_pos d; show ds.length + 1 ≤ cnt d + cnts ds; omega
mutual
theorem lev_nn : ∀ d : DT, 0 ≤ lev d
  | .tup ds => by have := levs_nn ds; unfold lev; split <;> omega
  | .none => by simp [lev]
  | .int _ => by simp [lev]
  | .str _ => by simp [lev]
theorem levs_nn : ∀ ds : List DT, 0 ≤ levs ds
  | [] => by simp [levs]
  | d :: ds => by have := levs_nn ds; unfold levs; omega
end
theorem smx_max (st : List (List DT × Int)) : ∀ (a b : Int), smx st (max a b) = max (smx st a) b := by
  induction st with
  | nil => intro a b; rfl
  | cons x st ih =>
    intro a b
    show smx st (max (max a b) _) = max (smx st (max a _)) b
    rw [show max (max a b) (x.2 + levP x.1) = max (max a (x.2 + levP x.1)) b by omega, ih]
theorem smx_append (st st' : List (List DT × Int)) (m : Int) : smx (st ++ st') m = smx st' (smx st m) := by
  unfold smx; rw [List.foldl_append]
theorem cntS_append (st st' : List (List DT × Int)) : cntS (st ++ st') = cntS st + cntS st' := by simp [cntS]
/-- what a popped tuple leaves on the pile -/
def kids (lv : Int) : List DT → List (List DT × Int)
  | [] => []
  | .tup es :: ds => (es, lv) :: kids lv ds
  | _ :: ds => kids lv ds
theorem kids_append (lv : Int) : ∀ (as bs : List DT), kids lv (as ++ bs) = kids lv as ++ kids lv bs
  | [], _ => rfl
  | .tup es :: ds, bs => congrArg ((es, lv) :: ·) (kids_append lv ds bs)
  | .none :: ds, bs => kids_append lv ds bs
  | .int _ :: ds, bs => kids_append lv ds bs
  | .str _ :: ds, bs => kids_append lv ds bs
theorem kids_cnt (lv : Int) : ∀ ds : List DT, cntS (kids lv ds) ≤ cnts ds
  | [] => Nat.le_refl _
  | .tup es :: ds => by have := kids_cnt lv ds; show (1 + cnts es) + cntS (kids lv ds) ≤ (1 + cnts es) + cnts ds; omega
  | .none :: ds => by have := kids_cnt lv ds; show cntS (kids lv ds) ≤ 1 + cnts ds; omega
  | .int _ :: ds => by have := kids_cnt lv ds; show cntS (kids lv ds) ≤ 1 + cnts ds; omega
  | .str _ :: ds => by have := kids_cnt lv ds; show cntS (kids lv ds) ≤ 1 + cnts ds; omega
theorem kids_smx (lv : Int) : ∀ (ds : List DT) (m : Int), lv ≤ m → smx (kids lv ds) m = max m (lv + levs ds)
  | [], m, h => by show m = max m (lv + 0); omega
  | .tup es :: ds, m, h => by
    show smx (kids lv ds) (max m (lv + levP es)) = max m (lv + max (lev (.tup es)) (levs ds))
    rw [kids_smx lv ds _ (by omega), show lev (.tup es) = levP es by unfold lev levP; rfl]
    omega
  | .none :: ds, m, h => by show smx (kids lv ds) m = max m (lv + max 0 (levs ds)); rw [kids_smx lv ds m h]; omega
  | .int _ :: ds, m, h => by show smx (kids lv ds) m = max m (lv + max 0 (levs ds)); rw [kids_smx lv ds m h]; omega
  | .str _ :: ds, m, h => by show smx (kids lv ds) m = max m (lv + max 0 (levs ds)); rw [kids_smx lv ds m h]; omega
/-- one turn of levels_of keeps the measure of the pile -/
theorem smx_turn (st : List (List DT × Int)) (ds : List DT) (lv most : Int) :
    smx (st ++ kids (lv + (if startsN ds then 1 else 0)) ds) (max most (lv + (if startsN ds then 1 else 0))) = smx (st ++ [(ds, lv)]) most := by
  rw [smx_append, smx_append, smx_max]
  rw [kids_smx _ _ _ (by omega)]
  show _ = max (smx st most) (lv + levP ds)
  have := levs_nn ds
  unfold levP
  omega
theorem cntS_turn (st : List (List DT × Int)) (ds : List DT) (lv lv' : Int) : cntS (st ++ kids lv' ds) < cntS (st ++ [(ds, lv)]) := by
  rw [cntS_append, cntS_append]
  have := kids_cnt lv' ds
  show _ < _ + (1 + cnts ds + 0)
  omega

section
variable {prog : Program} {w : World} {A : Around} {E : Value → Shared → Prop} {s : Shared} {h₀ : Heap} {L l b D : Addr} {m : Str → Option Value} {news : List (Addr × Obj)} {vs ws its ys : List Value} {v : Value} {n n2 : Nat}
theorem my_neNil {Q : Value → Shared → Prop} (hl : s.heap.IsList l vs.toArray) (hb : s.heap.IsList b #[]) (hu : A.units < cLine) (h : Q (.bool (!vs.isEmpty)) s) : wpAny (model prog w) A (compareOp .NotEq (.ref l) (.ref b)) Q E s := by
  cases vs with
  | nil => exact cmp_ofNotEq (SeqAt.RcNeAt.lists (e := fun _ => true) hl hb rfl hu (fun j h1 _ => absurd h1 (Nat.not_lt_zero j)) prog w E Q (by simpa using h))
  | cons v vs => exact cmp_ofNotEq (SeqAt.RcNeAt.lists_lengths hl hb (by simp) hu prog w E Q (by simpa using h))
theorem popAny {news' : List Value → List (Addr × Obj)} {Q : Value → Shared → Prop} (F : Fr h₀ L s.heap m) (N : News h₀ L s.heap news) (U : ∀ ws, Upd D (listOf (its ++ [v]).toArray n) (listOf (List.toArray ws) (n + 1)) news (news' ws)) (hz : its.length ≤ 1000)
    (h : ∀ h', Fr h₀ L h' m → News h₀ L h' (news' its) → Q v { s with heap := h' }) : wpAny (model prog w) A (call (.builtin "list.pop") [.ref D]) Q E s := by
  have e : ∀ (p : List Value) (y : Value), kl_last (p ++ [y]) = some (p, y) := by
    intro p y
    induction p with
    | nil => rfl
    | cons a p ih => show (match kl_last (p ++ [y]) with | some (p, y) => some (a :: p, y) | none => some ([], a)) = _; rw [ih]
  exact kl_pop F N (p := its) (y := v) (by rw [List.toList_toArray]; exact e _ _) (U its) (by simp; rw [sizeLine_eq]; omega) fun h' F' N' => h h' F' N'
theorem extAny {news' : List Value → Nat → List (Addr × Obj)} {Q : Value → Shared → Prop} (F : Fr h₀ L s.heap m) (N : News h₀ L s.heap news) (hb : (b, listOf ys.toArray n2) ∈ news) (U : ∀ ws k, Upd D (listOf its.toArray n) (listOf (List.toArray ws) k) news (news' ws k)) (hz : its.length + ys.length ≤ 1000)
    (h : ∀ h' k, Fr h₀ L h' m → News h₀ L h' (news' (its ++ ys) k) → Q .none { s with heap := h' }) : wpAny (model prog w) A (call (.builtin "list.extend") [.ref D, .ref b]) Q E s := by
  have hlong : ¬(!its.toArray.isEmpty && Builtin.List.listTooLong (its.toArray.size + ys.toArray.size)) = true := by
    simp only [Bool.and_eq_true, not_and]
    intro _
    unfold Builtin.List.listTooLong
    simp
    rw [sizeLine_eq]
    omega
  cases ys with
  | nil =>
    rw [List.append_nil] at h
    exact kxn_extend F N hb rfl (U its n) hlong (by simp; rw [sizeLine_eq]; omega) (by simp; rw [sizeLine_eq]; omega) fun h' F' N' => h h' _ F' N'
  | cons y ys => exact kl_extend F N hb (l := its ++ y :: ys) (by simp) (by simp) (U _ _) hlong (by simp; rw [sizeLine_eq]; omega) (by simp at *; rw [sizeLine_eq]; omega) fun h' F' N' => h h' _ F' N'
end
end
/- part E6 -/
section
open PySem PySem.W PyProof.Rows PySem.Calls PySem.Spec
theorem my_neNil0 {prog : Program} {w : World} {A : Around} {E : Value → Shared → Prop} {s : Shared} {l b : Addr} {Q : Value → Shared → Prop} (hl : s.heap.IsList l #[]) (hb : s.heap.IsList b #[]) (hu : A.units < cLine) (h : Q (.bool false) s) : wpAny (model prog w) A (compareOp .NotEq (.ref l) (.ref b)) Q E s :=
  my_neNil (vs := []) hl hb hu h
theorem my_neNil1 {prog : Program} {w : World} {A : Around} {E : Value → Shared → Prop} {s : Shared} {l b : Addr} {its : List Value} {v : Value} {Q : Value → Shared → Prop} (hl : s.heap.IsList l (its ++ [v]).toArray) (hb : s.heap.IsList b #[]) (hu : A.units < cLine) (h : Q (.bool true) s) : wpAny (model prog w) A (compareOp .NotEq (.ref l) (.ref b)) Q E s :=
  my_neNil (vs := its ++ [v]) hl hb hu (by rw [show (!(its ++ [v]).isEmpty) = true by simp]; exact h)
theorem stkTup {g h : Heap} {L T P : Addr} {x y z : Addr × Obj} {rest : List (Addr × Obj)} {lv : Int} {t : Tok} (N : News g L h (x :: y :: z :: rest)) (hm : (T, pairT P lv t) ∈ rest) : IsTup h T #[.ref P, .int lv t] :=
  News.isTup N (.tail _ (.tail _ (.tail _ hm)))

theorem midC {M : Model} {A : Around} {E : Value → Shared → Prop} {s : Shared} {g : Heap} {L c : Addr} {m : Str → Option Value} {y z : Addr × Obj} {o : Obj} {rest : List (Addr × Obj)} {x : Sem Flow} {Q : Flow → Shared → Prop} (_ : Fr g L s.heap m) (_ : News g L s.heap (y :: z :: (c, o) :: rest)) (i : Int)
    (step : ∀ (Q' : Flow → Shared → Prop), (∀ h' tk' o' t, o'.data = .cell (some (.int i t)) → Fr g L h' m → News g L h' (y :: z :: (c, o') :: rest) → Q' .next { s with heap := h', toks := tk' }) → wpAny M A x Q' E s)
    (k : ∀ h' tk' o' t, o'.data = .cell (some (.int i t)) → Fr g L h' m → News g L h' (y :: z :: (c, o') :: rest) → Q .next { s with heap := h', toks := tk' }) : wpAny M A x Q E s := step Q k
abbrev mL (u : Option Value) (Lf : Addr) (most : Int) (tm : Tok) (m₀ : Str → Option Value) : Str → Option Value := fun y =>
  if y = Str.ofString "part" then u else if y = Str.ofString "most" then some (.int most tm) else if y = Str.ofString "left" then some (.ref Lf) else m₀ y
theorem mL_start (Lf : Addr) (most : Int) (tm : Tok) (m₀ : Str → Option Value) (y : Str) : (if y = Str.ofString "left" then some (Value.ref Lf) else if y = Str.ofString "most" then some (Value.int most tm) else m₀ y) = mL (m₀ (Str.ofString "part")) Lf most tm m₀ y := by
  unfold mL
  by_cases h1 : y = Str.ofString "part"
  · subst h1; rw [if_pos rfl, if_neg (by decide), if_neg (by decide)]
  · rw [if_neg h1]
    by_cases h2 : y = Str.ofString "most"
    · subst h2; rw [if_pos rfl, if_neg (by decide), if_pos rfl]
    · rw [if_neg h2, if_neg h2]
theorem mL_turn (u d : Option Value) (Lf : Addr) (most most' : Int) (tm tm' : Tok) (m₀ : Str → Option Value) (y : Str) : (if y = Str.ofString "most" then some (Value.int most' tm') else if y = Str.ofString "part" then d else mL u Lf most tm m₀ y) = mL d Lf most' tm' m₀ y := by
  unfold mL
  by_cases h1 : y = Str.ofString "part"
  · subst h1; rw [if_pos rfl, if_neg (by decide), if_pos rfl]
  · by_cases h2 : y = Str.ofString "most"
    · subst h2; rw [if_pos rfl, if_neg (by decide), if_pos rfl]
    · rw [if_neg h1, if_neg h2, if_neg h1, if_neg h1, if_neg h2, if_neg h2]
inductive LevJ (g : Heap) (C : Addr) (m₀ : Str → Option Value) (tot : Int) (n : Nat) (m : Str → Option Value) (news : List (Addr × Obj)) : Prop
  | mk (u : Option Value) (Lf : Addr) (most : Int) (tm : Tok) (its : List Value) (st : List (List DT × Int)) (k : Nat) (oc : Obj) (cv : Option Value) (rest : List (Addr × Obj))
    (_ : ∀ y, m y = mL u Lf most tm m₀ y) (_ : news = (Lf, listOf its.toArray k) :: (C, oc) :: rest) (_ : oc.data = .cell cv) (_ : Lf ≠ C) (_ : ∀ q ∈ rest, q.1 ≠ Lf) (_ : ∀ q ∈ rest, q.1 ≠ C)
    (_ : StkAre g rest its st) (_ : smx st most = tot) (_ : cntS st = n) (_ : n ≤ 100)
def PileK (g : Heap) (Lf C : Addr) (lv : Int) (ds : List DT) (news : List (Addr × Obj)) (i : Nat) (ys : List Value) (nw : List (Addr × Obj)) : Prop :=
  ∃ new, nw = new ++ news ∧ StkAre g new ys (kids lv (ds.take i)) ∧ (∀ q ∈ new, q.1 ≠ Lf) ∧ (∀ q ∈ new, q.1 ≠ C)
theorem PileK.start {g : Heap} {Lf C : Addr} {lv : Int} {ds : List DT} {news : List (Addr × Obj)} : PileK g Lf C lv ds news 0 [] news :=
  ⟨[], rfl, .nil, List.forall_mem_nil _, List.forall_mem_nil _⟩
theorem PileK.skip {g : Heap} {Lf C : Addr} {lv : Int} {ds : List DT} {news nw : List (Addr × Obj)} {i : Nat} {ys : List Value} {d : DT} (x : PileK g Lf C lv ds news i ys nw) (hd : ds[i]? = some d) (h : isTupD d = false) : PileK g Lf C lv ds news (i + 1) ys nw := by
  obtain ⟨new, e, hs, a, b⟩ := x
  refine ⟨new, e, ?_, a, b⟩
  rw [List.take_add_one, hd, kids_append]
  cases d with
  | tup es => cases h
  | none => simpa [kids] using hs
  | int i => simpa [kids] using hs
  | str x => simpa [kids] using hs
theorem PileK.push {g : Heap} {Lf C T P : Addr} {lv : Int} {t : Tok} {ds es : List DT} {vs : List Value} {news nw : List (Addr × Obj)} {i : Nat} {ys : List Value} (x : PileK g Lf C lv ds news i ys nw) (hd : ds[i]? = some (.tup es)) (ht : IsTup g P vs.toArray) (hD : DsIn g vs es)
    (h1 : T ≠ Lf) (h2 : T ≠ C) : PileK g Lf C lv ds news (i + 1) (ys ++ [.ref T]) ((T, pairT P lv t) :: nw) := by
  obtain ⟨new, e, hs, a, b⟩ := x
  refine ⟨(T, pairT P lv t) :: new, by rw [e]; rfl, ?_, List.forall_mem_cons.mpr ⟨h1, a⟩, List.forall_mem_cons.mpr ⟨h2, b⟩⟩
  rw [List.take_add_one, hd, kids_append]
  exact (hs.mono fun q hq => .tail _ hq).append (.cons (.head _) ht hD .nil)
theorem PileK.mem {g : Heap} {Lf C : Addr} {lv : Int} {ds : List DT} {news nw : List (Addr × Obj)} {i : Nat} {ys : List Value} {q : Addr × Obj} (x : PileK g Lf C lv ds news i ys nw) (h : q ∈ news) : q ∈ nw := by
  obtain ⟨new, rfl, _⟩ := x
  exact List.mem_append_right _ h
theorem cellEq {o : Obj} {x y : Int} {t : Tok} (h : o.data = .cell (some (.int x t))) (e : x = y) : o.data = .cell (some (.int y t)) := e ▸ h
theorem allLt_mem {d : Addr} {l : List (Addr × Obj)} (x : AllLt d l) : ∀ p ∈ l, @LT.lt Nat _ p.1 d := by
  induction l with
  | nil => intro p hp; cases hp
  | cons a l ih =>
    intro p hp
    rcases List.mem_cons.mp hp with e | hp
    · rw [e]; exact x.1
    · exact ih x.2 p hp
theorem off1_mem {D : Addr} {l : List (Addr × Obj)} (x : LCg.Off1 D l) : ∀ p ∈ l, @Ne Nat p.1 D := by
  induction l with
  | nil => intro p hp; cases hp
  | cons a l ih =>
    intro p hp
    rcases List.mem_cons.mp hp with e | hp
    · rw [e]; exact x.1
    · exact ih x.2 p hp
theorem turn4 {g h : Heap} {L : Addr} {a b c d : Addr × Obj} {nw : List (Addr × Obj)} (N : News g L h (a :: b :: c :: d :: nw)) : News g L h (b :: c :: d :: a :: nw) :=
  cb_drop N fun q hq => by
    simp only [List.mem_cons] at hq ⊢
    rcases hq with h | h | h | h | h <;> simp [h]
theorem pullK {g h : Heap} {L : Addr} {a b c d : Addr × Obj} {new rest : List (Addr × Obj)} (N : News g L h (a :: (new ++ b :: c :: d :: rest))) : News g L h (a :: c :: d :: (new ++ rest)) :=
  cb_drop N fun q hq => by
    simp only [List.mem_cons, List.mem_append] at hq ⊢
    rcases hq with h | h | h | h | h <;> simp [h]
theorem DsIn.get {h : Heap} : ∀ {vs : List Value} {ds : List DT} {i : Nat} {v : Value}, DsIn h vs ds → vs[i]? = some v → ∃ d, ds[i]? = some d ∧ DIn h v d
  | _, _, 0, v, .cons a _, e => ⟨_, rfl, by simp at e; exact e ▸ a⟩
  | _, _, i + 1, v, .cons _ b, e => by simpa using DsIn.get b (by simpa using e)
theorem cntS_len : ∀ st : List (List DT × Int), st.length ≤ cntS st
  | [] => Nat.le_refl _
  | x :: st => by have := cntS_len st; show st.length + 1 ≤ (1 + cnts x.1) + cntS st; omega
theorem lev_start {g h : Heap} {L' Lf D1 D2 C P : Addr} {o2 oc : Obj} {t0 t1 : Tok} {cv : Option Value} {m₀ : Str → Option Value} {vs : List Value} {ds : List DT}
    (F : Fr g L' h fun y => if y = Str.ofString "left" then some (Value.ref Lf) else if y = Str.ofString "most" then some (Value.int 0 t0) else m₀ y)
    (N : News g L' h [(D2, o2), (Lf, listOf #[Value.ref D1] 0), (D1, pairT P 0 t1), (C, oc)]) (hc : oc.data = .cell cv) (h1 : @Ne Nat Lf C) (h2 : @Ne Nat D1 Lf) (h3 : @Ne Nat D1 C) (ht : IsTup g P vs.toArray) (hD : DsIn g vs ds) (hn : 1 + cnts ds ≤ 100) :
    ∃ m₁ news, Fr g L' h m₁ ∧ News g L' h news ∧ LevJ g C m₀ (levP ds) (1 + cnts ds) m₁ news := by
  refine ⟨_, (Lf, listOf [Value.ref D1].toArray 0) :: (C, oc) :: [(D1, pairT P 0 t1)], F, cb_drop N ?_, _, Lf, 0, t0, [.ref D1], [(ds, 0)], 0, oc, cv, [(D1, pairT P 0 t1)], mL_start _ _ _ _, rfl, hc, h1, ?_, ?_, .cons (.head _) ht hD .nil, ?_, rfl, hn⟩
  · intro q hq
    rcases List.mem_cons.mp hq with rfl | hq
    · simp
    · rcases List.mem_cons.mp hq with rfl | hq
      · simp
      · rw [List.mem_singleton.mp hq]; simp
  · intro q hq; rw [List.mem_singleton.mp hq]; exact h2
  · intro q hq; rw [List.mem_singleton.mp hq]; exact h3
  · have := levs_nn ds
    show max (0 : Int) (0 + levP ds) = levP ds
    unfold levP
    split <;> omega
section
variable {w : World} {dp un : Nat} {gd : Option (List Code)} {cn : Str} {cs : Scope} {a : Addr} {ccd : Value} {cl : List (Str × Addr)} {outer : List Env} {A₀ : Around} {base h₀ : Heap} {L : Addr} {m : Str → Option Value} {s : Shared} {Q E : Value → Shared → Prop}
    {p : Program} {loose : List Str} {mean : ExcName → Option Value} {mg mb : Str → Option Value} {P : Addr} {vs : List Value} {ds : List DT}

set_option maxHeartbeats 4000000 in
theorem C_levels (B : Below A₀ base outer h₀) (F : Fr h₀ L s.heap m) (X : (KK w.params).In h₀) (T : Top p loose mean mg mb h₀) (hk : cs.kind = .function) (hd : dp + 2 < recursionLimit) (hu : un + 20 < cLine)
    (ht : IsTup s.heap P vs.toArray) (hD : DsIn s.heap vs ds) (hn : 1 + cnts ds ≤ 100)
    (k : ∀ t h' tk', s.heap.StaysIn h' → Q (.int (levP ds) t) { s with heap := h', toks := tk' }) :
    wpAny (model PR w) (ktrTop dp un gd cn cs L a ccd cl outer) (call (.ref 96) [.ref P]) Q E s := by
  obtain ⟨sh, sg, sd, sk, so⟩ := s
  dsimp only at F ht hD k
  refine wpAny_call ?_
  refine' enterC (hid := []) (by assumption) (by assumption) News.nil (by assumption) (by assumption) ?kA ?kF ?kK ?k6 ?k7 ?k8 ?k9 ?kB ?kD ?_ ?c2 ?c3 ?c4
  (case kA => exact rfl); (case kF => exact rfl); (case kK => assumption); (case k6 => k_dflt k_is); (case k7 => k_dflt k_is); (case k8 => ktr_room); (case k9 => exact BindsTo.of_eq rfl); (case kB => exact rfl); (case kD => decide); (case c2 => exact rfl); (case c3 => exact rfl); (case c4 => exact rfl)
  intro g L' h₁ tk₁ cells hkeep F' N' Y' hlt B' X' T'
  have ht' : IsTup g P vs.toArray := ht.keeps (fun b o e => hkeep b o e (by simp))
  have hD' : DsIn g vs ds := hD.keeps (fun b o e => hkeep b o e (by simp))
  clear B F X T ht hk hD hlt
  obtain ⟨oc, hE, hc⟩ := CellsAre.one Y'
  subst hE
  have hcv : ∃ cv, oc.data = .cell cv := ⟨_, hc⟩
  clear Y' hc
  obtain ⟨cv, d1⟩ := hcv
  refine opq1 F' (x := Str.ofString "tree") (v := .ref P) (by rfl) fun m₀ F0 => ?_
  clear F'
  dsimp only
  dsimp only [List.append_nil, List.cons_append, List.nil_append] at N'
  refine anyQF fun Q9 hQ9 => ?_
  have k9 : ∀ t h' tk', g.StaysIn h' → Q9 (.ret (.int (levP ds) t)) ⟨h', sg, sd, tk', so⟩ := fun t h' tk' st => hQ9 _ _ (k t h' tk' fun b o e => st b o (hkeep b o e (by simp)))
  clear hQ9 k hkeep
  have z1 : StopAt "exec While Compare" := .mk
  have z2 : StopAt "eval ListComp" := .mk
  have z3 : StopAt "compareOp NotEq ref ref" := .mk
  k_steps
  unfold Halt
  (rename Fr _ _ _ _ => F1)
  (rename News _ _ _ _ => N1)
  obtain ⟨m₁, news, F2, N2, J0⟩ := lev_start F1 N1 d1 (by omega) (by omega) (by omega) ht' hD' hn
  clear F1 N1 d1
  (rename (StopAt "exec While Compare") => z1)
  clear z1
  refine While_inv2 (LevJ g (L' + 1) _ (levP ds)) F2 N2 J0 ?turn
  case turn =>
    intro n m₂ news₂ h tk F3 N3 J3
    clear F2 N2 J0
    refine anyQF fun Q8 hQ8 => ?_
    dsimp only at hQ8
    obtain ⟨u, Lf, most, tm, its, st, kk, oc, cv, rest, hm, rfl, hc, hLC, hR1, hR2, hst, htot, hcnt, hn3⟩ := J3
    have F4 := frCongr F3 hm
    clear F3 hm
    replace hLC := neN hLC
    by_cases hits : its = []
    · subst hits
      cases hst
      k_steps
      unfold Halt
      refine my_neNil0 (News.isList (by k_asm) (by k_mem)) (News.isList (by k_asm) (by k_mem)) (by ktr_units) ?_
      (try dsimp only)
      k_steps
      refine hQ8 _ _ ?_
      clear hQ8
      rw [if_neg (by decide)]
      k_steps
      dsimp only
      rw [show most = levP ds from htot]
      exact k9 _ _ _ (Fr.keep (by assumption))
    · obtain ⟨T0, P0, lv, tp, vs0, ds0, its', st', rfl, rfl, hT0, hP0, hd0, hst'⟩ := hst.last hits
      have q1 := hst'.length
      have q2 := cntS_len st'
      have q3 : cntS st' + (1 + cnts ds0) = n := by rw [← hcnt, cntS_append]; rfl
      have q4 := hd0.length
      have q5 := cnts_len ds0
      have hz0 : its'.length ≤ 1000 := by omega
      have hz1 : vs0.length ≤ 100 := by omega
      k_steps
      unfold Halt
      refine my_neNil1 (News.isList (by k_asm) (by k_mem)) (News.isList (by k_asm) (by k_mem)) (by ktr_units) ?_
      (try dsimp only)
      k_steps
      refine hQ8 _ _ ?_
      clear hQ8
      rw [if_pos rfl]
      refine anyQF fun Q7 hQ7 => ?_
      have z3 : StopAt "exec If" := .mk
      have z4 : StopAt "call builtin:list.pop" := .mk
      have z5 : StopAt "assign Tuple" := .mk
      have z6 : StopAt "call builtin:list.extend" := .mk
      k_steps
      unfold Halt
      refine' popAny ?kF ?kN ?kU ?k2 ?_; (case kF => k_asm); (case kN => k_asm); (case kU => intro ws'; k_upd); (case k2 => assumption); intro h' F' N'; (try dsimp only at N'); (try k_sweep)
      k_steps
      unfold Halt
      refine' unpackN_ ?k1 ?k2 ?k3 ?k4 ?k5 ?k6 ?_; (case k1 => k_asm); (case k2 => k_asm); (case k3 => exact stkTup (by assumption) (by assumption)); (case k4 => exact rfl); (case k5 => exact rfl); (case k6 => exact rfl); k_whole
      intro h' F' N'
      (try k_sweep)
      k_steps
      unfold Halt
      (rename (StopAt "exec If") => z3)
      clear z3
      (rename Fr _ _ _ _ => FF)
      (rename News _ _ _ _ => NN)
      obtain ⟨lw, hlw⟩ : ∃ lw : Int, lw = lv + if startsN ds0 = true then 1 else 0 := ⟨_, rfl⟩
      refine midC FF NN lw ?_ ?_
      · clear hQ7
        intro Q6 q
        have z3 : StopAt "call ref" := .mk
        k_steps
        unfold Halt
        refine' C_starts ?kB ?kF ?kX ?kT ?kk ?kd ?ku ?kl ?kt ?kn ?_; (case kl => exact Fr.tup (by assumption) (by assumption)); (case kt => exact DsIn.keeps (Fr.keep (by assumption)) (by assumption)); (case kn => assumption); (case kB => k_asm); (case kF => k_asm); (case kX => k_asm); (case kT => k_asm); (case kk => first | exact rfl | assumption); (case kd => ktr_room); (case ku => ktr_units)
        intro h' tk' st'; (have F' := stayF (by k_asm) st'); (have N' := stayN (by k_asm) st'); (try dsimp only); (try k_sweep); clear st'
        k_steps
        all_goals exact q _ _ _ _ (cellEq (by assumption) (by rw [hlw]; simp [*])) (by assumption) (by assumption)
      · intro h9 tk9 o9 t9 dc F9 N9
        clear FF NN
        dsimp only
        k_steps
        unfold Halt
        (rename Fr _ _ _ _ => FF)
        (rename News _ _ _ _ => NN)
        refine comp_tup (cl := [(Str.ofString "level", L' + 1)]) (PileK g Lf (L' + 1) lw ds0 _) (by rfl) FF NN (.inl hP0) hz1 (by with_unfolding_all rfl) (by decide) (by rfl) (by decide) (by rfl) ?_ PileK.start ?_ ?_
        · intro Q' q
          k_steps
          exact q
        · rintro s₂ ⟨hh, rfl⟩ i v ys nw I oI C oC D m₂ h tk E' hv hK hC hx F N off ne
          obtain ⟨d, hd9, hvd⟩ := hd0.get hv
          have hCm := hK.mem (List.Mem.tail _ (.tail _ (.head _)))
          have hLm := hK.mem (List.Mem.tail _ (.head _))
          clear FF NN
          have z7 : StopAt "call builtin:isinstance" := .mk
          k_steps
          unfold Halt
          refine isiTup (DIn.keeps (Fr.keep (by assumption)) (by assumption)) ?_
          intro tk'; (try dsimp only)
          k_steps
          all_goals first
            | (have hAll := And.right (And.right (And.right ‹_ ∧ _ ∧ _ ∧ AllLt _ nw›))
               have hA := ltN (allLt_mem hAll _ hLm)
               have hB := ltN (allLt_mem hAll _ hCm)
               dsimp only at hA hB
               have ht9 := ‹isTupD _ = true›
               cases hvd with
               | tup hq1 hq2 => exact ⟨_, _, (_, pairT _ lw _) :: nw, rfl, by assumption, turn4 (by assumption), ⟨⟨neN (by omega), neN (by omega), neN (by omega)⟩, off⟩, (fun _ h => .tail _ (hK.mem h)), hK.push hd9 hq1 hq2 (neN (by omega)) (neN (by omega))⟩
               | none => cases ht9
               | int _ _ => cases ht9
               | str _ _ => cases ht9)
            | (refine ⟨_, _, nw, rfl, by assumption, by assumption, off, (fun _ h => hK.mem h), hK.skip hd9 (by assumption)⟩)
        · intro ys nw D h tk hK F N off
          obtain ⟨new, rfl, hst2, hn1, hn2⟩ := hK
          have hLD := neN (off1_mem off _ (List.mem_append_right _ (.tail _ (.head _))))
          have N2 := pullK N
          have hR1' : ∀ q ∈ new ++ rest, q.1 ≠ Lf := fun q hq => (List.mem_append.mp hq).elim (hn1 q) (hR1 q)
          have hR2' : ∀ q ∈ new ++ rest, q.1 ≠ L' + 1 := fun q hq => (List.mem_append.mp hq).elim (hn2 q) (hR2 q)
          have hst3 := (hst'.mono (r' := new ++ rest) fun q hq => List.mem_append_right _ hq).append (hst2.mono (r' := new ++ rest) fun q hq => List.mem_append_left _ hq)
          have hy1 := hst2.length
          rw [hd0.length, List.take_length] at hst3 hy1
          have hy2 := cntS_len (kids lw ds0)
          have hy3 := kids_cnt lw ds0
          have hz4 : its'.length + ys.length ≤ 1000 := by omega
          clear FF NN N
          generalize new ++ rest = rest2 at N2 hR1' hR2' hst3
          k_steps
          unfold Halt
          refine' extAny ?kF ?kN ?kb ?kU ?k2 ?_; (case kF => k_asm); (case kN => k_asm); (case kb => k_mem); (case kU => intro ws' k'; k_upd); (case k2 => assumption); intro h' k' F' N'; (try dsimp only at N'); (try k_sweep)
          k_steps
          refine hQ7 _ _ ?_
          (rename News _ _ _ _ => NE)
          have hlt9 : cntS (st' ++ kids lw ds0) < n := by rw [← hcnt]; exact cntS_turn _ _ _ _
          have hw9 : ∀ x : Int, x = lw → (if x > most then x else most) = max most lw := by intro x hx; subst hx; split <;> omega
          refine ⟨_, _, _, (Lf, listOf (its' ++ ys).toArray _) :: (L' + 1, _) :: rest2, cntS (st' ++ kids lw ds0), rfl, by assumption, fun q hq => NE q (.tail _ hq), hlt9, some (.ref P0), Lf, _, _, its' ++ ys, st' ++ kids lw ds0, _, _, _, rest2, fun y => mL_turn _ _ _ _ _ _ _ _ _, rfl, dc, hLC, hR1', hR2', hst3, ?_, rfl, by omega⟩
          rw [← htot, ← smx_turn, ← hlw, hw9 _ rfl]
end
end
/- part E7 -/
section
open PySem PySem.W PyProof.Rows PySem.Calls PySem.Spec
mutual
def ty : DT → Int
  | .tup ds => if typedN ds = true then 1 + tys 3 ds else tys 0 ds
  | _ => 0
def tys : Nat → List DT → Int
  | _, [] => 0
  | 0, d :: ds => max (ty d) (tys 0 ds)
  | k + 1, _ :: ds => tys k ds
end
def tyP (ds : List DT) : Int := if typedN ds = true then 1 + tys 3 ds else tys 0 ds
theorem tys_drop : ∀ (k : Nat) (ds : List DT), tys k ds = tys 0 (ds.drop k)
  | 0, ds => rfl
  | k + 1, [] => by rw [List.drop_nil]; rfl
  | k + 1, d :: ds => tys_drop k ds
theorem tys_nn0 : ∀ ds : List DT, (∀ d ∈ ds, 0 ≤ ty d) → 0 ≤ tys 0 ds
  | [], _ => Int.le_refl _
  | d :: ds, h => by have := h d (.head _); show 0 ≤ max (ty d) (tys 0 ds); omega
def tmx (st : List (List DT × Int)) (m : Int) : Int := st.foldl (fun acc x => max acc (x.2 + tyP x.1)) m
theorem tmx_append (st st' : List (List DT × Int)) (m : Int) : tmx (st ++ st') m = tmx st' (tmx st m) := by
  unfold tmx; rw [List.foldl_append]
theorem tmx_ge (st : List (List DT × Int)) : ∀ m : Int, m ≤ tmx st m := by
  induction st with
  | nil => intro m; exact Int.le_refl _
  | cons x st ih => intro m; have := ih (max m (x.2 + tyP x.1)); show m ≤ tmx st (max m (x.2 + tyP x.1)); omega
theorem kids_tmx (lv : Int) : ∀ (ds : List DT) (m : Int), lv ≤ m → tmx (kids lv ds) m = max m (lv + tys 0 ds)
  | [], m, h => by show m = max m (lv + 0); omega
  | .tup es :: ds, m, h => by
    show tmx (kids lv ds) (max m (lv + tyP es)) = max m (lv + max (ty (.tup es)) (tys 0 ds))
    rw [kids_tmx lv ds _ (by omega), show ty (.tup es) = tyP es by unfold ty tyP; rfl]
    omega
  | .none :: ds, m, h => by show tmx (kids lv ds) m = max m (lv + max 0 (tys 0 ds)); rw [kids_tmx lv ds m h]; omega
  | .int _ :: ds, m, h => by show tmx (kids lv ds) m = max m (lv + max 0 (tys 0 ds)); rw [kids_tmx lv ds m h]; omega
  | .str _ :: ds, m, h => by show tmx (kids lv ds) m = max m (lv + max 0 (tys 0 ds)); rw [kids_tmx lv ds m h]; omega
theorem kids_lv (lv most : Int) (h : lv ≤ most) : ∀ ds : List DT, ∀ x ∈ kids lv ds, x.2 ≤ most
  | [], x, hx => nomatch hx
  | .tup es :: ds, x, hx => by
    rcases List.mem_cons.mp hx with rfl | hx
    · exact h
    · exact kids_lv lv most h ds x hx
  | .none :: ds, x, hx => kids_lv lv most h ds x hx
  | .int _ :: ds, x, hx => kids_lv lv most h ds x hx
  | .str _ :: ds, x, hx => kids_lv lv most h ds x hx
theorem tmx_turnT (st : List (List DT × Int)) (ds : List DT) (lv most : Int) (hlv : lv + 1 ≤ most) (ht : typedN ds = true) : tmx (st ++ kids (lv + 1) (ds.drop 3)) most = tmx (st ++ [(ds, lv)]) most := by
  rw [tmx_append, tmx_append]
  have := tmx_ge st most
  rw [kids_tmx _ _ _ (by omega)]
  show _ = max (tmx st most) (lv + tyP ds)
  unfold tyP
  rw [if_pos ht, tys_drop 3 ds]
  omega
theorem tmx_turnF (st : List (List DT × Int)) (ds : List DT) (lv most : Int) (hlv : lv ≤ most) (ht : typedN ds = false) : tmx (st ++ kids lv ds) most = tmx (st ++ [(ds, lv)]) most := by
  rw [tmx_append, tmx_append]
  have := tmx_ge st most
  rw [kids_tmx _ _ _ (by omega)]
  show _ = max (tmx st most) (lv + tyP ds)
  unfold tyP
  rw [if_neg (by rw [ht]; decide)]
mutual
theorem ty_nn : ∀ d : DT, 0 ≤ ty d
  | .tup ds => by have := tys_nn 3 ds; have := tys_nn 0 ds; unfold ty; split <;> omega
  | .none => Int.le_refl _
  | .int _ => Int.le_refl _
  | .str _ => Int.le_refl _
theorem tys_nn : ∀ (k : Nat) (ds : List DT), 0 ≤ tys k ds
  | _, [] => by unfold tys; exact Int.le_refl _
  | 0, d :: ds => by have := ty_nn d; have := tys_nn 0 ds; show 0 ≤ max (ty d) (tys 0 ds); omega
  | k + 1, _ :: ds => tys_nn k ds
end
theorem tmx_raise (st : List (List DT × Int)) (ds : List DT) (lv most : Int) (hlv : most < lv + 1) (ht : typedN ds = true) : most < tmx (st ++ [(ds, lv)]) most := by
  rw [tmx_append]
  show most < max (tmx st most) (lv + tyP ds)
  have := tys_nn 3 ds
  unfold tyP
  rw [if_pos ht]
  omega
theorem cnts_drop : ∀ (k : Nat) (ds : List DT), cnts (ds.drop k) ≤ cnts ds
  | 0, ds => Nat.le_refl _
  | k + 1, [] => Nat.le_refl _
  | k + 1, d :: ds => by have := cnts_drop k ds; show cnts (ds.drop k) ≤ cnt d + cnts ds; omega
theorem DsIn.drop {h : Heap} : ∀ (k : Nat) {vs : List Value} {ds : List DT}, DsIn h vs ds → DsIn h (vs.drop k) (ds.drop k)
  | 0, _, _, x => x
  | k + 1, _, _, .nil => .nil
  | k + 1, _, _, .cons _ b => DsIn.drop k b
end
/- part E8 -/
section
open PySem PySem.W PySem.W.X PyProof.Rows PySem.Calls PySem.Spec
theorem raise_endX {M : Model} {A : Around} {base g h₂ : Heap} {env : Env} {outer : List Env} {L a e d C t : Addr} {m : Str → Option Value} {name : Str} {scope : Scope} {cl' : List (Str × Addr)} {cd : Value} {s : Shared} {gs : Array GenState} {dr : Drawn} {tk : Nat} {os : OsState} {w : World} {msg : Str} {sp : Int} {Q : Value → Unit → Shared → Prop} {E : Value → Value → Shared → Prop}
    (X : (KK w.params).In g) (B : Below A base (env :: outer) g) (F : Fr g L h₂ m) (he : h₂.get? e = some (excObj C d t)) (ge : g.get? e = none) (gd : g.get? d = none) (dL : d ≠ L) (D : DictAt h₂ d msg sp) (cover : ∀ b o, s.heap.get? b = some o → g.get? b = some o)
    (k : ∀ h' B', (∀ b o, s.heap.get? b = some o → b ∉ (env :: outer).filterMap (·.frame) → B'.get? b = some o) → FlyD B' (env :: outer) e (.ref C) d .none h' → s.heap.UpToSlots h' → s.heap.get? e = none → s.heap.get? d = none → DictAt B' d msg sp → Q (.ref e) () ⟨h', gs, dr, tk, os⟩)
    (hk : scope.kind = .function := by rfl) : RaiseEnd w C (fun e s' => wpAny M (A.deeper (envX name scope L a cd cl')) (leaving (envX name scope L a cd cl') e) (Q e) (E e) s') (.ref e) ⟨h₂, gs, dr, tk, os⟩ := by
  refine ⟨e, d, t, rfl, X.keeps F.keep, he, ?_⟩
  have B₁ := pushX (env := envX name scope L a cd cl') B F rfl hk
  have gL : g.get? L = none := kts_self F
  have none_ : ∀ {b : Addr}, g.get? b = none → s.heap.get? b = none := fun {b} hb => by
    cases q : s.heap.get? b with
    | none => rfl
    | some o => have := cover _ _ q; rw [hb] at this; cases this
  have inG : ∀ {b : Addr}, b ∈ (env :: outer).filterMap (·.frame) → ∃ o, g.get? b = some o := fun {b} hb => by
    obtain ⟨_, o, ho, _⟩ := B.frames.mem hb; exact ⟨o, ho⟩
  have hfm : (envX name scope L a cd cl' :: env :: outer).filterMap (·.frame) = L :: (env :: outer).filterMap (·.frame) := rfl
  have nd : d ∉ e :: (envX name scope L a cd cl' :: env :: outer).filterMap (·.frame) := fun hm => by
    rw [hfm] at hm
    rcases List.mem_cons.mp hm with q | hm
    · obtain ⟨h1, h2, t1, t3, tk1, tl, n, ho⟩ := D
      rw [q, he] at ho; cases ho
    · rcases List.mem_cons.mp hm with q | hm
      · exact dL q
      · obtain ⟨o, ho⟩ := inG hm; rw [gd] at ho; cases ho
  refine leaveNewD (base := hideAll h₂ (e :: (envX name scope L a cd cl' :: env :: outer).filterMap (·.frame))) (Around.frames_deeper B.stack)
    (funFrames_hide B₁.frames fun env' he' b hb => List.mem_cons_of_mem _ (List.mem_filterMap.mpr ⟨env', he', hb⟩)) rfl he (fun b o q => of_hideAll _ q) (hideAll_none _ (.head _)) fun h' H U => ?_
  refine k h' _ (fun b o hb hn => hideAll_get _ (F.keep b o (cover b o hb)) fun hm => ?_) H (fun b o hb hnf => U b o (F.keep b o (cover b o hb)) hnf) (none_ ge) (none_ gd) ?_
  · rw [hfm] at hm
    rcases List.mem_cons.mp hm with q | hm
    · have := cover b o hb; rw [q, ge] at this; cases this
    · rcases List.mem_cons.mp hm with q | hm
      · have := cover b o hb; rw [q, gL] at this; cases this
      · exact hn hm
  · obtain ⟨h1, h2, t1, t3, tk1, tl, n, ho⟩ := D
    exact ⟨h1, h2, t1, t3, tk1, tl, n, hideAll_get _ ho nd⟩
section
variable {prog : Program} {w : World} {A : Around} {E : Value → Shared → Prop} {s : Shared} {h₀ : Heap} {L t : Addr} {m : Str → Option Value} {news : List (Addr × Obj)} {value slice : PySem.Expr} {v1 v2 v3 : Value} {r : List Value} {u : Tok} {Q : Value → Shared → Prop}
theorem my_slice3 (F : Fr h₀ L s.heap m) (N : News h₀ L s.heap news) (ht : IsTup s.heap t (v1 :: v2 :: v3 :: r).toArray) (hln : (v1 :: v2 :: v3 :: r).length ≤ 100)
    (h : ∀ D h', Fr h₀ L h' m → News h₀ L h' ((D, { cls := .type "tuple", data := .seq r.toArray }) :: news) → (∀ p ∈ news, p.1 < D) → Q (.ref D) { s with heap := h' })
    (hs : subscripted slice false (.ref t) (.ref s.heap.objs.size) = operate [.ref s.heap.objs.size, .ref t] (getItem (.ref t) (.ref s.heap.objs.size))) (hg : ∀ r, letTemporaryGo value (.ref t) r = pure ()) :
    wpAny (model prog w) A (subscriptTail value slice (.ref t) (.ref s.heap.objs.size)) Q E { s with heap := s.heap.push { cls := .type "slice", data := .fields #[.int 3 u, .none, .none] } } :=
  slice_tuple_from (a := 3) F N ht (by decide) (by simp) (fun h' F' N' => h _ h' F' N' fun p hp => Nat.lt_succ_of_lt (Heap.lt_size (N p hp).1)) hs hg (by rw [sizeLine_eq]; rw [List.size_toArray]; omega)
end
section
variable {w : World} {dp un : Nat} {gd : Option (List Code)} {cn : Str} {cs : Scope} {a : Addr} {ccd : Value} {cl : List (Str × Addr)} {outer : List Env} {A₀ : Around} {base h₀ : Heap} {L : Addr} {m : Str → Option Value} {s : Shared} {Q E : Value → Shared → Prop}
    {p : Program} {loose : List Str} {mean : ExcName → Option Value} {mg mb : Str → Option Value} {P : Addr} {vs : List Value} {ds : List DT} {b : Bool}
theorem C_typedB (B : Below A₀ base outer h₀) (F : Fr h₀ L s.heap m) (X : (KK w.params).In h₀) (T : Top p loose mean mg mb h₀) (hk : cs.kind = .function) (hd : dp + 1 < recursionLimit) (hu : un + 10 < cLine)
    (ht : IsTup s.heap P vs.toArray) (hD : DsIn s.heap vs ds) (hn : vs.length ≤ 100) (hb : typedN ds = b)
    (k : ∀ h' tk', s.heap.StaysIn h' → Q (.bool b) { s with heap := h', toks := tk' }) :
    wpAny (model PR w) (ktrTop dp un gd cn cs L a ccd cl outer) (call (.ref 103) [.ref P]) Q E s :=
  C_typed B F X T hk hd hu ht hD hn (by rw [hb]; exact k)
end
theorem typN {g h : Heap} {L : Addr} {a b c d e : Addr × Obj} {rest : List (Addr × Obj)} (N : News g L h (a :: b :: c :: d :: e :: rest)) : News g L h (b :: d :: e :: rest) :=
  cb_drop N fun q hq => by
    simp only [List.mem_cons] at hq ⊢
    rcases hq with h | h | h | h <;> simp [h]
theorem typed_open {h : Heap} {vs : List Value} {ds : List DT} (hD : DsIn h vs ds) (ht : typedN ds = true) : ∃ v1 v2 i t vs3 d1 d2 ds3, vs = v1 :: v2 :: .int i t :: vs3 ∧ ds = d1 :: d2 :: .int i :: ds3 ∧ DsIn h vs3 ds3 := by
  cases hD with
  | nil => cases ht
  | cons a1 r1 =>
    cases r1 with
    | nil => cases ht
    | cons a2 r2 =>
      cases r2 with
      | nil => cases ht
      | @cons v3 d3 _ _ a3 r3 =>
        cases a3 with
        | int i t => exact ⟨_, _, i, t, _, _, _, _, rfl, rfl, r3⟩
        | none => simp [typedN, isIntD] at ht
        | str x t => simp [typedN, isIntD] at ht
        | tup _ _ => simp [typedN, isIntD] at ht

abbrev mT (u ui : Option Value) (Lf : Addr) (m₀ : Str → Option Value) : Str → Option Value := fun y =>
  if y = Str.ofString "inner" then ui else if y = Str.ofString "part" then u else if y = Str.ofString "left" then some (.ref Lf) else m₀ y
theorem mT_start (Lf : Addr) (m₀ : Str → Option Value) (y : Str) : (if y = Str.ofString "left" then some (Value.ref Lf) else m₀ y) = mT (m₀ (Str.ofString "part")) (m₀ (Str.ofString "inner")) Lf m₀ y := by
  unfold mT
  by_cases h1 : y = Str.ofString "inner"
  · subst h1; rw [if_pos rfl, if_neg (by decide)]
  · rw [if_neg h1]
    by_cases h2 : y = Str.ofString "part"
    · subst h2; rw [if_pos rfl, if_neg (by decide)]
    · rw [if_neg h2]
theorem mT_turn (u ui c d : Option Value) (Lf : Addr) (m₀ : Str → Option Value) (y : Str) : (if y = Str.ofString "inner" then c else if y = Str.ofString "part" then d else mT u ui Lf m₀ y) = mT d c Lf m₀ y := by
  unfold mT
  by_cases h1 : y = Str.ofString "inner"
  · subst h1; rw [if_pos rfl, if_pos rfl]
  · rw [if_neg h1, if_neg h1]
    by_cases h2 : y = Str.ofString "part"
    · subst h2; rw [if_pos rfl, if_pos rfl, if_neg h1]
    · rw [if_neg h2, if_neg h2, if_neg h1, if_neg h2]
inductive TypJ (g : Heap) (C : Addr) (m₀ : Str → Option Value) (most tot : Int) (n : Nat) (m : Str → Option Value) (news : List (Addr × Obj)) : Prop
  | mk (u ui : Option Value) (Lf : Addr) (its : List Value) (st : List (List DT × Int)) (k : Nat) (oc : Obj) (cv : Option Value) (rest : List (Addr × Obj))
    (_ : ∀ y, m y = mT u ui Lf m₀ y) (_ : news = (Lf, listOf its.toArray k) :: (C, oc) :: rest) (_ : oc.data = .cell cv) (_ : Lf ≠ C) (_ : ∀ q ∈ rest, q.1 ≠ Lf) (_ : ∀ q ∈ rest, q.1 ≠ C)
    (_ : StkAre g rest its st) (_ : tmx st most = tot) (_ : ∀ x ∈ st, x.2 ≤ most) (_ : cntS st = n) (_ : n ≤ 100)
inductive TypMid (g : Heap) (L' Lf C : Addr) (o : Obj) (m : Str → Option Value) (its : List Value) (st : List (List DT × Int)) (cb : Nat) (most tot : Int) (h' : Heap) : Prop
  | mk (IN : Addr) (vsI : List Value) (dsI : List DT) (lw : Int) (oc : Obj) (t : Tok) (rest : List (Addr × Obj))
    (_ : Fr g L' h' (fun y => if y = Str.ofString "inner" then some (.ref IN) else m y)) (_ : News g L' h' ((Lf, o) :: (C, oc) :: rest)) (_ : oc.data = .cell (some (.int lw t)))
    (_ : ∀ q ∈ rest, q.1 ≠ Lf) (_ : ∀ q ∈ rest, q.1 ≠ C) (_ : StkAre g rest its st)
    (_ : IsTup g IN vsI.toArray ∨ ∃ z, (IN, z) ∈ (Lf, o) :: (C, oc) :: rest ∧ z.cls = .type "tuple" ∧ ∃ n, z.data = .seq vsI.toArray n)
    (_ : DsIn g vsI dsI) (_ : vsI.length ≤ 100) (_ : cnts dsI ≤ cb) (_ : tmx (st ++ kids lw dsI) most = tot) (_ : lw ≤ most)
theorem midF {M : Model} {A : Around} {E : Value → Shared → Prop} {s : Shared} {g : Heap} {L : Addr} {m : Str → Option Value} {x : Sem Flow} {Q : Flow → Shared → Prop} (_ : Fr g L s.heap m) (P : (Str → Option Value) → Heap → Prop)
    (step : ∀ (Q' : Flow → Shared → Prop), (∀ h' tk', P m h' → Q' .next { s with heap := h', toks := tk' }) → wpAny M A x Q' E s)
    (k : ∀ h' tk', P m h' → Q .next { s with heap := h', toks := tk' }) : wpAny M A x Q E s := step Q k
theorem typN2 {g h : Heap} {L : Addr} {a b c d e : Addr × Obj} {rest : List (Addr × Obj)} (N : News g L h (a :: b :: c :: d :: e :: rest)) : News g L h (d :: e :: b :: rest) :=
  cb_drop N fun q hq => by
    simp only [List.mem_cons] at hq ⊢
    rcases hq with h | h | h | h <;> simp [h]
theorem pullK2 {g h : Heap} {L : Addr} {a c d : Addr × Obj} {new rest : List (Addr × Obj)} (N : News g L h (a :: (new ++ c :: d :: rest))) : News g L h (a :: c :: d :: (new ++ rest)) :=
  cb_drop N fun q hq => by
    simp only [List.mem_cons, List.mem_append] at hq ⊢
    rcases hq with h | h | h | h | h <;> simp [h]
theorem typN1 {g h : Heap} {L : Addr} {c d e : Addr × Obj} {rest : List (Addr × Obj)} (N : News g L h (c :: d :: e :: rest)) : News g L h (d :: e :: rest) := fun q hq => N q (.tail _ hq)
theorem RaiseEnd.mono {w : World} {C : Addr} {E E' : Value → Shared → Prop} {v : Value} {s : Shared} (x : RaiseEnd w C E v s) (h : ∀ e s, E e s → E' e s) : RaiseEnd w C E' v s := by
  obtain ⟨e, d, t, h1, h2, h3, h4⟩ := x
  exact ⟨e, d, t, h1, h2, h3, h _ _ h4⟩
theorem typ_start {g h : Heap} {L' Lf D1 C P : Addr} {oc : Obj} {t1 : Tok} {cv : Option Value} {m₀ : Str → Option Value} {vs : List Value} {ds : List DT} {most : Int}
    (F : Fr g L' h fun y => if y = Str.ofString "left" then some (Value.ref Lf) else m₀ y)
    (N : News g L' h [(Lf, listOf #[Value.ref D1] 0), (D1, pairT P 0 t1), (C, oc)]) (hc : oc.data = .cell cv) (h1 : @Ne Nat Lf C) (h2 : @Ne Nat D1 Lf) (h3 : @Ne Nat D1 C) (ht : IsTup g P vs.toArray) (hD : DsIn g vs ds) (hn : 1 + cnts ds ≤ 100) (hm : 0 ≤ most) :
    ∃ m₁ news, Fr g L' h m₁ ∧ News g L' h news ∧ TypJ g C m₀ most (max most (tyP ds)) (1 + cnts ds) m₁ news := by
  refine ⟨_, (Lf, listOf [Value.ref D1].toArray 0) :: (C, oc) :: [(D1, pairT P 0 t1)], F, cb_drop N ?_, _, _, Lf, [.ref D1], [(ds, 0)], 0, oc, cv, [(D1, pairT P 0 t1)], mT_start _ _, rfl, hc, h1, ?_, ?_, .cons (.head _) ht hD .nil, ?_, ?_, rfl, hn⟩
  · intro q hq
    rcases List.mem_cons.mp hq with rfl | hq
    · simp
    · rcases List.mem_cons.mp hq with rfl | hq
      · simp
      · rw [List.mem_singleton.mp hq]; simp
  · intro q hq; rw [List.mem_singleton.mp hq]; exact h2
  · intro q hq; rw [List.mem_singleton.mp hq]; exact h3
  · show max most (0 + tyP ds) = max most (tyP ds)
    rw [Int.zero_add]
  · intro x hx; rw [List.mem_singleton.mp hx]; exact hm
section
variable {w : World} {dp un : Nat} {gd : Option (List Code)} {cn : Str} {cs : Scope} {a : Addr} {ccd : Value} {cl : List (Str × Addr)} {outer : List Env} {A₀ : Around} {base h₀ : Heap} {L : Addr} {m : Str → Option Value} {s : Shared} {Q E : Value → Shared → Prop}
    {p : Program} {loose : List Str} {mean : ExcName → Option Value} {mg mb : Str → Option Value} {P : Addr} {vs : List Value} {ds : List DT} {most : Int} {tmo : Tok}

set_option maxHeartbeats 4000000 in
theorem C_ctyped (B : Below A₀ base outer h₀) (F : Fr h₀ L s.heap m) (X : (KK w.params).In h₀) (T : Top p loose mean mg mb h₀) (hk : cs.kind = .function) (hd : dp + 5 < 390) (hu : un + 40 < 190)
    (ht : IsTup s.heap P vs.toArray) (hD : DsIn s.heap vs ds) (hn : 1 + cnts ds ≤ 100) (hmo : 0 ≤ most)
    (k1 : tyP ds ≤ most → ∀ h' tk', s.heap.StaysIn h' → Q .none { s with heap := h', toks := tk' })
    (k2 : most < tyP ds → ∀ e d B' h' tk' msg sp, (∀ b o, s.heap.get? b = some o → b ∉ (envX cn cs L a ccd cl :: outer).filterMap (·.frame) → B'.get? b = some o) →
      FlyD B' (envX cn cs L a ccd cl :: outer) e (.ref 57) d .none h' → s.heap.UpToSlots h' → s.heap.get? e = none → s.heap.get? d = none → DictAt B' d msg sp → E (.ref e) { s with heap := h', toks := tk' }) :
    wpAny (model PR w) (ktrTop dp un gd cn cs L a ccd cl outer) (call (.ref 108) [.ref P, .int most tmo]) Q E s := by
  have hd' : dp + 5 < recursionLimit := Nat.lt_trans hd (by decide)
  have hu' : un + 40 < cLine := Nat.lt_trans hu (by decide)
  obtain ⟨sh, sg, sd, sk, so⟩ := s
  dsimp only at F ht hD k1 k2
  refine wpAny_call ?_
  refine' enterC (hid := []) (by assumption) (by assumption) News.nil (by assumption) (by assumption) ?kA ?kF ?kK ?k6 ?k7 ?k8 ?k9 ?kB ?kD ?_ ?c2 ?c3 ?c4
  (case kA => exact rfl); (case kF => exact rfl); (case kK => assumption); (case k6 => k_dflt k_is); (case k7 => k_dflt k_is); (case k8 => ktr_room); (case k9 => exact BindsTo.of_eq rfl); (case kB => exact rfl); (case kD => decide); (case c2 => exact rfl); (case c3 => exact rfl); (case c4 => exact rfl)
  intro g L' h₁ tk₁ cells hkeep F' N' Y' hlt B' X' T'
  have ht' : IsTup g P vs.toArray := ht.keeps (fun b o e => hkeep b o e (by simp))
  have hD' : DsIn g vs ds := hD.keeps (fun b o e => hkeep b o e (by simp))
  have hcov : ∀ b o, sh.get? b = some o → g.get? b = some o := fun b o e => hkeep b o e (by simp)
  clear B F X T ht hk hD hlt hkeep
  obtain ⟨oc, hE, hc⟩ := CellsAre.one Y'
  subst hE
  have hcv : ∃ cv, oc.data = .cell cv := ⟨_, hc⟩
  clear Y' hc
  obtain ⟨cv, d1⟩ := hcv
  refine opq2 F' (x := Str.ofString "most_levels") (y := Str.ofString "rows") (v := .int most tmo) (u := .ref P) (by rfl) (by rfl) fun m₀ F0 => ?_
  clear F'
  dsimp only
  dsimp only [List.append_nil, List.cons_append, List.nil_append] at N'
  refine anyQP (by passes_own) fun Q9 E9 hP9 hQ9 hE9 => ?_
  have k9 : tyP ds ≤ most → ∀ h' tk', g.StaysIn h' → Q9 .next ⟨h', sg, sd, tk', so⟩ := fun q h' tk' st => hQ9 _ _ (k1 q h' tk' fun b o e => st b o (hcov b o e))
  clear hQ9 k1
  have z1 : StopAt "exec While Compare" := .mk
  have z2 : StopAt "eval ListComp" := .mk
  have z3 : StopAt "compareOp NotEq ref ref" := .mk
  k_steps
  unfold Halt
  (rename Fr _ _ _ _ => F1)
  (rename News _ _ _ _ => N1)
  obtain ⟨m₁, news, F2, N2, J0⟩ := typ_start F1 N1 d1 (by k_ne) (by k_ne) (by k_ne) ht' hD' hn hmo
  clear F1 N1 d1
  (rename (StopAt "exec While Compare") => z1)
  clear z1
  refine While_inv2 (TypJ g (L' + 1) _ most (max most (tyP ds))) F2 N2 J0 ?turn (hE := hP9)
  case turn =>
    intro n m₂ news₂ h tk F3 N3 J3
    clear F2 N2 J0
    refine anyQ fun Q8 hQ8 => ?_
    dsimp only at hQ8
    obtain ⟨u, ui, Lf, its, st, kk, oc, cv, rest, hm, rfl, hc, hLC, hR1, hR2, hst, htot, hlvs, hcnt, hn3⟩ := J3
    have F4 := frCongr F3 hm
    clear F3 hm
    replace hLC := neN hLC
    by_cases hits : its = []
    · subst hits
      cases hst
      clear hE9 k2
      k_steps
      unfold Halt
      refine my_neNil0 (News.isList (by k_asm) (by k_mem)) (News.isList (by k_asm) (by k_mem)) (by ktr_units) ?_
      (try dsimp only)
      k_steps
      refine hQ8 _ _ ?_
      clear hQ8
      rw [if_neg (by decide)]
      k_steps
      (try dsimp only)
      exact k9 (Int.le_trans (Int.le_max_right _ _) (Int.le_of_eq htot.symm)) _ _ (Fr.keep (by assumption))
    · obtain ⟨T0, P0, lv, tp, vs0, ds0, its', st', rfl, rfl, hT0, hP0, hd0, hst'⟩ := hst.last hits
      have q1 := hst'.length
      have q2 := cntS_len st'
      have q3 : cntS st' + (1 + cnts ds0) = n := by rw [← hcnt, cntS_append]; rfl
      have q4 := hd0.length
      have q5 := cnts_len ds0
      have hz0 : its'.length ≤ 1000 := by omega
      have hz1 : vs0.length ≤ 100 := by omega
      have hlv := hlvs _ (List.mem_append_right _ (.head _))
      clear hst
      k_steps
      unfold Halt
      refine my_neNil1 (News.isList (by k_asm) (by k_mem)) (News.isList (by k_asm) (by k_mem)) (by ktr_units) ?_
      (try dsimp only)
      k_steps
      refine hQ8 _ _ ?_
      clear hQ8
      rw [if_pos rfl]
      refine anyQ fun Q7 hQ7 => ?_
      have z3 : StopAt "exec If" := .mk
      have z4 : StopAt "call builtin:list.pop" := .mk
      have z5 : StopAt "assign Tuple" := .mk
      have z6 : StopAt "call builtin:list.extend" := .mk
      k_steps
      unfold Halt
      refine' popAny ?kF ?kN ?kU ?k2 ?_; (case kF => k_asm); (case kN => k_asm); (case kU => intro ws'; k_upd); (case k2 => assumption); intro h' F' N'; (try dsimp only at N'); (try k_sweep)
      k_steps
      unfold Halt
      refine' unpackN_ ?k1 ?k2 ?k3 ?k4 ?k5 ?k6 ?_; (case k1 => k_asm); (case k2 => k_asm); (case k3 => exact stkTup (by assumption) (by assumption)); (case k4 => exact rfl); (case k5 => exact rfl); (case k6 => exact rfl); k_whole
      intro h' F' N'
      (try k_sweep)
      k_steps
      unfold Halt
      (rename (StopAt "exec If") => z3)
      (rename (StopAt "assign Tuple") => z5)
      clear z3 z5
      (rename Fr _ _ _ _ => FF)
      (rename News _ _ _ _ => NN)
      refine midF FF (fun m h' => TypMid g L' Lf (L' + 1) (listOf its'.toArray (kk + 1)) m its' st' (cnts ds0) most (max most (tyP ds)) h') ?_ ?_
      · clear hQ7 k9
        intro Q6 q
        (try dsimp only at q)
        cases hty : typedN ds0 with
        | true =>
          obtain ⟨v1, v2, i3, t3, vs3, e1, e2, ds3, rfl, rfl, hd3⟩ := typed_open hd0 hty
          have z1 : StopAt "call ref" := .mk
          have z2 : StopAt "subscriptTail" := .mk
          have z3 : StopAt "subscriptTail Name Slice ref ref" := .mk
          have z4 : StopAt "exec Raise some none" := .mk
          k_steps
          all_goals (repeat' (first
            | (unfold Halt
               with_reducible show wpAny _ _ (call (Value.ref 103) [_]) _ _ _
               refine' C_typedB ?kB ?kF ?kX ?kT ?kk ?kd ?ku ?kl ?kt ?kn ?kb ?_; (case kb => assumption); (case kl => exact Fr.tup (by assumption) (by assumption)); (case kt => exact DsIn.keeps (Fr.keep (by assumption)) (by assumption)); (case kn => assumption)
               (case kB => k_asm); (case kF => k_asm); (case kX => k_asm); (case kT => k_asm); (case kk => first | exact rfl | assumption); (case kd => ktr_room); (case ku => ktr_units)
               intro h' tk' st'; (have F' := stayF (by k_asm) st'); (have N' := stayN (by k_asm) st'); (try dsimp only); (try k_sweep); clear st'
               k_steps)
            | (unfold Halt
               with_reducible show wpAny _ _ (subscriptTail _ _ (Value.ref _) (Value.int _ _)) _ _ _
               refine' my_itemT ?kl ?k0 ?k1 ?k2 ?_ ?k6 ?k7; (case kl => exact Fr.tup (by assumption) (by assumption)); (case k0 => decide); (case k1 => exact rfl); (case k2 => assumption); (case k6 => with_unfolding_all rfl); (case k7 => (intro _; with_unfolding_all rfl))
               k_steps)
            | (unfold Halt
               refine' my_slice3 ?F ?N ?l ?z ?_ ?s ?t; (case F => k_asm); (case N => k_asm); (case l => exact Fr.tup (by assumption) (by assumption)); (case z => assumption); (case s => with_unfolding_all rfl); (case t => (intro _; with_unfolding_all rfl))
               intro D' h' F' N' l1; (try k_lt l1); (try k_sweep)
               k_steps)
            | (unfold Halt
               with_reducible show wpAny _ _ (call (Value.ref _) [Value.str _ _, Value.int _ _]) _ _ _
               refine' U_exc ?kC ?kB ?kF ?kX ?kT rfl ?kN ?kd ?ku ?_; (case kC => decide); (case kB => k_asm); (case kT => k_asm); (case kF => k_asm); (case kX => k_asm); (case kN => k_asm); (case kd => ktr_room); (case ku => ktr_units)
               intro e' d' t' h' tk' F' N' ge' gd' dL' he' hD'; (try dsimp only); (try k_sweep)
               k_steps)
            | (unfold Halt
               refine' raise_of (C := 57) (Or.inr rfl) ?hh ?_; (case hh => exact rfl)
               k_steps)))
          · (rename _ < _ + 1 => hgt)
            refine RaiseEnd.mono (raise_endX (s := ⟨sh, sg, sd, sk, so⟩) X' B' (by assumption) (by assumption) (by assumption) (by assumption) (by assumption) (by assumption) hcov ?_) hE9
            intro h' B2 cov fly up ne nd dat
            refine k2 ?_ _ _ B2 _ _ _ _ cov fly up ne nd dat
            have := tmx_raise st' (e1 :: e2 :: .int i3 :: ds3) lv most hgt hty
            rw [htot] at this
            omega
          · have hng : lv + 1 ≤ most := Int.not_lt.mp ‹_›
            refine q _ _ (.mk _ vs3 ds3 (lv + 1) _ _ ((_, _) :: rest) (by assumption) (typN2 (by assumption)) (by assumption) (List.forall_mem_cons.mpr ⟨by k_ne, hR1⟩) (List.forall_mem_cons.mpr ⟨by k_ne, hR2⟩) (hst'.mono fun q hq => .tail _ hq) (.inr ⟨_, .tail _ (.tail _ (.head _)), rfl, _, rfl⟩) hd3 (Nat.le_trans (Nat.le_add_right _ 3) hz1) (cnts_drop 3 (e1 :: e2 :: DT.int i3 :: ds3)) ((tmx_turnT st' (e1 :: e2 :: .int i3 :: ds3) lv most hng hty).trans htot) hng)
        | false =>
          have z1 : StopAt "call ref" := .mk
          k_steps
          unfold Halt
          refine' C_typedB ?kB ?kF ?kX ?kT ?kk ?kd ?ku ?kl ?kt ?kn ?kb ?_; (case kb => assumption); (case kl => exact Fr.tup (by assumption) (by assumption)); (case kt => exact DsIn.keeps (Fr.keep (by assumption)) (by assumption)); (case kn => assumption)
          (case kB => k_asm); (case kF => k_asm); (case kX => k_asm); (case kT => k_asm); (case kk => first | exact rfl | assumption); (case kd => ktr_room); (case ku => ktr_units)
          intro h' tk' st'; (have F' := stayF (by k_asm) st'); (have N' := stayN (by k_asm) st'); (try dsimp only); (try k_sweep); clear st'
          k_steps
          refine q _ _ (.mk P0 vs0 ds0 lv _ _ rest (by assumption) (typN1 (by assumption)) (by assumption) hR1 hR2 hst' (.inl hP0) hd0 hz1 (Nat.le_refl _) ((tmx_turnF st' ds0 lv most hlv hty).trans htot) hlv)
      · clear FF NN
        intro h9 tk9 J9
        obtain ⟨IN, vsI, dsI, lw, oc9, t9, rest9, F9, N9, dc, hR1, hR2, hst', hsrc, hdI, hzI, hcI, htmx, hlwm⟩ := J9
        dsimp only
        k_steps
        unfold Halt
        (rename Fr _ _ _ _ => FF)
        (rename News _ _ _ _ => NN)
        refine comp_tup (cl := [(Str.ofString "level", L' + 1)]) (PileK g Lf (L' + 1) lw dsI _) (by rfl) FF NN hsrc hzI (by with_unfolding_all rfl) (by decide) (by rfl) (by decide) (by rfl) ?_ PileK.start ?_ ?_
        · intro Q' q
          k_steps
          exact q
        · rintro s₂ ⟨hh, rfl⟩ i v ys nw I oI C oC D m₂ h tk E' hv hK hC hx F N off ne
          obtain ⟨d, hd9, hvd⟩ := hdI.get hv
          have hCm := hK.mem (List.Mem.tail _ (.head _))
          have hLm := hK.mem (List.Mem.head _)
          clear FF NN
          have z7 : StopAt "call builtin:isinstance" := .mk
          k_steps
          unfold Halt
          refine isiTup (DIn.keeps (Fr.keep (by assumption)) (by assumption)) ?_
          intro tk'; (try dsimp only)
          k_steps
          all_goals first
            | (have hAll := And.right (And.right (And.right ‹_ ∧ _ ∧ _ ∧ AllLt _ nw›))
               have hA := ltN (allLt_mem hAll _ hLm)
               have hB := ltN (allLt_mem hAll _ hCm)
               dsimp only at hA hB
               have ht9 := ‹isTupD _ = true›
               cases hvd with
               | tup hq1 hq2 => exact ⟨_, _, (_, pairT _ lw _) :: nw, rfl, by assumption, turn4 (by assumption), ⟨⟨by k_ne, by k_ne, by k_ne⟩, off⟩, (fun _ h => .tail _ (hK.mem h)), hK.push hd9 hq1 hq2 (by k_ne) (by k_ne)⟩
               | none => cases ht9
               | int _ _ => cases ht9
               | str _ _ => cases ht9)
            | (refine ⟨_, _, nw, rfl, by assumption, by assumption, off, (fun _ h => hK.mem h), hK.skip hd9 (by assumption)⟩)
        · intro ys nw D h tk hK F N off
          obtain ⟨new, rfl, hst2, hn1, hn2⟩ := hK
          have hLD := neN (off1_mem off _ (List.mem_append_right _ (.head _)))
          have N2 := pullK2 N
          have hR1' : ∀ q ∈ new ++ rest9, q.1 ≠ Lf := fun q hq => (List.mem_append.mp hq).elim (hn1 q) (hR1 q)
          have hR2' : ∀ q ∈ new ++ rest9, q.1 ≠ L' + 1 := fun q hq => (List.mem_append.mp hq).elim (hn2 q) (hR2 q)
          have hst3 := (hst'.mono (r' := new ++ rest9) fun q hq => List.mem_append_right _ hq).append (hst2.mono (r' := new ++ rest9) fun q hq => List.mem_append_left _ hq)
          have hy1 := hst2.length
          rw [hdI.length, List.take_length] at hst3 hy1
          have hy2 := cntS_len (kids lw dsI)
          have hy3 := kids_cnt lw dsI
          have hz4 : its'.length + ys.length ≤ 1000 := by omega
          clear FF NN N
          generalize new ++ rest9 = rest2 at N2 hR1' hR2' hst3
          k_steps
          unfold Halt
          refine' extAny ?kF ?kN ?kb ?kU ?k2 ?_; (case kF => k_asm); (case kN => k_asm); (case kb => k_mem); (case kU => intro ws' k'; k_upd); (case k2 => assumption); intro h' k' F' N'; (try dsimp only at N'); (try k_sweep)
          k_steps
          refine hQ7 _ _ ?_
          (rename News _ _ _ _ => NE)
          have hlt9 : cntS (st' ++ kids lw dsI) < n := by rw [cntS_append]; omega
          have hlv9 : ∀ x ∈ st' ++ kids lw dsI, x.2 ≤ most := fun x hx => (List.mem_append.mp hx).elim (fun q => hlvs x (List.mem_append_left _ q)) (kids_lv lw most hlwm dsI x)
          exact ⟨_, _, _, (Lf, listOf (its' ++ ys).toArray _) :: (L' + 1, _) :: rest2, cntS (st' ++ kids lw dsI), rfl, by assumption, fun q hq => NE q (.tail _ hq), hlt9, some (.ref P0), _, Lf, its' ++ ys, st' ++ kids lw dsI, _, _, _, rest2, fun y => mT_turn _ _ _ _ _ _ _, rfl, dc, hLC, hR1', hR2', hst3, htmx, hlv9, rfl, by omega⟩
end
end
/- part E9 -/
section
open PySem PySem.W PyProof.Rows PySem.Calls PySem.Spec
section
variable {w : World} {A₀ : Around} {E : Value → Shared → Prop} {base g G B h₁ : Heap} {outer : List Env} {L a e d C : Addr} {m : Str → Option Value} {name : Str} {scope : Scope} {cd : Value}
  {b₀ : Stmt} {suite : List Stmt} {pos np : Pos} {rest : List ExceptHandler} {Q : Flow → Shared → Prop} {KF : Frag} {gs : Array GenState} {dr : Drawn} {tk : Nat} {os : OsState} {msg : Str} {sp : Int}
  {p : Program} {loose : List Str} {mean : ExcName → Option Value} {mg mb : Str → Option Value} {x : Str}

theorem caughtN (K : Below A₀ base outer g) (F : Fr g L G m) (hBG : ∀ b o, G.get? b = some o → b ∉ (envOf name scope L a cd :: outer).filterMap (·.frame) → B.get? b = some o)
    (fly : FlyD B (envOf name scope L a cd :: outer) e (.ref C) d .none h₁) (hsm : G.UpToSlots h₁) (XB : KF.In base) (TB : Top p loose mean mg mb base) (ne : G.get? e = none) (nd : G.get? d = none) (dat : DictAt B d msg sp)
    (ex : nsIn KF mainGlobals x = some (some (.ref C))) (q : ktsIn KF C "BaseException" = true)
    (k : ∀ h' g' tk', KtsTurn (outer.filterMap (·.frame)) g g' → Fr g' L h' m → Below A₀ base outer g' → KF.In g' → Top p loose mean mg mb g' →
      wpAny (model PR w) ((A₀.deeper (envOf name scope L a cd)).mark (some (.ref e))) (execs (b₀ :: suite) (envOf name scope L a cd)) Q
        (notedBy (model PR w) ((A₀.deeper (envOf name scope L a cd)).mark (some (.ref e))) (envOf name scope L a cd) (cameBackBy (model PR w) (A₀.deeper (envOf name scope L a cd)) (envOf name scope L a cd) E)) ⟨h', gs, dr, tk', os⟩)
    (hk : scope.kind = .function) (hx : (envOf name scope L a cd).kindOf x = some .globalImplicit) (hd : (x == ("__debug__" : Str)) = false) :
    wpAny (model PR w) (A₀.deeper (envOf name scope L a cd)) (noteFrame (.ref e) (envOf name scope L a cd))
      (fun _ s₂ => wpAny (model PR w) (A₀.deeper (envOf name scope L a cd)) (setFlight (.ref e) none) (fun _ s₃ =>
        wpAny (model PR w) (A₀.deeper (envOf name scope L a cd)) (handleBy (.ref e) (envOf name scope L a cd) (.ExceptHandler (some (.Name x np)) none (b₀ :: suite) pos :: rest)) Q E s₃) E s₂) E ⟨h₁, gs, dr, tk, os⟩ := by
  have hL : B.get? L = none := by
    obtain ⟨_, ⟨L', _, hf, hn', _⟩, _⟩ := fly.frames
    obtain rfl : L = L' := Option.some.inj hf
    exact hn'
  refine noteD (s := ⟨h₁, gs, dr, tk, os⟩) (Around.frames_deeper K.stack) rfl fly fun h₄ fly₄ U₄ => ?_
  refine flightD (s := ⟨h₄, gs, dr, tk, os⟩) fly₄ fun h₅ fly₅ U₅ => ?_
  have hsm₅ := hsm.trans (U₄.trans U₅)
  obtain ⟨g₅, T₅, F₅, K₅⟩ := kts_ground K F hBG fly₅.stays hsm₅
  have X₅ : KF.In g₅ := XB.keeps K₅.stays
  have P₅ : TopRead p loose mg mb g₅ := topRead_of (TB.keeps K₅.stays)
  obtain ⟨ob, vsb, _, _, _, hob, hobc, _⟩ := fly₅.traced
  obtain ⟨nm, q', N, bs, bm, hdct, sn, sub, ab, col, dd, k0, k1, k2, k3, k5, newId, hC, hbase, hbT⟩ := kts_cls X₅ q
  have hC₅ := F₅.keep _ _ hC
  refine wpAny_handleBy_cons (codeAny_handlers_test (name_K (s := ⟨h₅, gs, dr, tk, os⟩) F₅ X₅ P₅ ex ?_ hk hx hd)) (by intro q; cases q)
  refine wpAny_excMatches_sub_self hC₅ hob hobc hbase (codeAny_handlers_suite ?_)
  refine flightD (s := ⟨h₅, gs, dr, tk, os⟩) fly₅ fun h₆ fly₆ U₆ => ?_
  have hsm₆ := hsm₅.trans U₆
  obtain ⟨g₆, T₆, F₆, K₆⟩ := kts_ground K F hBG fly₆.stays hsm₆
  have X₆ : KF.In g₆ := XB.keeps K₆.stays
  have P₆ : Top p loose mean mg mb g₆ := TB.keeps K₆.stays
  exact k h₆ g₆ _ T₆ F₆ K₆ X₆ P₆
end
section
variable {w : World} {dp un : Nat} {gd : Option (List Code)} {cn : Str} {cs : Scope} {a : Addr} {ccd : Value} {cl : List (Str × Addr)} {outer : List Env} {A₀ : Around} {base h₀ : Heap} {L : Addr} {m : Str → Option Value} {s : Shared} {Q E : Value → Shared → Prop}
    {p : Program} {loose : List Str} {mean : ExcName → Option Value} {mg mb : Str → Option Value} {P : Addr} {vs : List Value} {ds : List DT} {most : Int} {tmo : Tok}
set_option maxHeartbeats 4000000 in
theorem C_refused (B : Below A₀ base [] h₀) (F : Fr h₀ L s.heap m) (X : (KK w.params).In h₀) (T : Top p loose mean mg mb h₀) (XB : (KK w.params).In base) (TB : Top p loose mean mg mb base) (hk : cs.kind = .function) (hd : dp + 6 < 390) (hu : un + 50 < 190)
    (ht : IsTup s.heap P vs.toArray) (hD : DsIn s.heap vs ds) (hn : 1 + cnts ds ≤ 100) (hmo : 0 ≤ most)
    (k : ∀ h' tk', (∀ b o, s.heap.get? b = some o → b ≠ L → h'.get? b = some o) → h'.Ns L m → Q (.bool (decide (most < tyP ds))) { s with heap := h', toks := tk' }) :
    wpAny (model PR w) (ktrTop dp un gd cn cs L a ccd cl []) (call (.ref 183) [.ref P, .int most tmo]) Q E s := by
  have hd' : dp + 6 < recursionLimit := Nat.lt_trans hd (by decide)
  have hu' : un + 50 < cLine := Nat.lt_trans hu (by decide)
  refine wpAny_call ?_
  refine' enterS (hid := []) (by assumption) (by assumption) News.nil (by assumption) (by assumption) ?kA ?kF ?kK ?k6 ?k7 ?k8 ?k9 ?kB ?_ ?c2 ?c3 ?c4 ?c5
  (case kA => exact rfl); (case kF => exact rfl); (case kK => assumption); (case k6 => k_dflt k_is); (case k7 => k_dflt k_is); (case k8 => ktr_room); (case k9 => exact BindsTo.of_eq rfl); (case kB => exact locs rfl); (case c2 => exact rfl); (case c3 => exact rfl); (case c4 => exact rfl); (case c5 => decide)
  intro g L' h₁ tk₁ hkeep F' N' B' X' T'
  have ht' : IsTup g P vs.toArray := ht.keeps (fun b o e => hkeep b o e (by simp))
  have hD' : DsIn g vs ds := hD.keeps (fun b o e => hkeep b o e (by simp))
  replace F' := frCongr (m' := fun y => List.lookup y [(Str.ofString "most", Value.int most tmo), (Str.ofString "rows", Value.ref P)]) F' (fun _ => rfl)
  dsimp only
  have z1 : StopAt "call ref" := .mk
  k_steps
  unfold Halt
  (rename (StopAt "call ref") => z1)
  clear z1
  refine C_ctyped B' F' X' T' rfl (by omega) (by show un + 3 + 40 < 190; omega) (ht'.keeps F'.keep) (hD'.keeps F'.keep) hn hmo ?_ ?_
  · intro hc h' tk' st
    have F2 := stayF F' st
    have N2 := stayN N' st
    clear F' N'
    dsimp only
    k_steps
    all_goals (
      dsimp only
      have K9 : ∀ b o, s.heap.get? b = some o → _ := fun b o e => Fr.keep (by assumption) b o (hkeep b o e (by simp))
      rw [show decide (most < tyP ds) = false from decide_eq_false (by omega)] at k
      exact k _ _ (fun b o e _ => K9 b o e) (F.ns.keeps K9))
  · intro hc e d B2 h' tk' msg sp cov fly up ne nd dat
    refine caughtN (x := Str.ofString "TypeFault") B' F' cov fly up XB TB ne nd dat (by k_dflt k_is) (kts57 _) ?_ rfl rfl rfl
    intro h₂ g₂ tk₂ Tn F2 B3 X3 T3
    have N2 : News g₂ L' h₂ [] := News.nil
    clear cov fly up dat B' F' N' X' T'
    k_steps
    all_goals (
      dsimp only
      rw [show decide (most < tyP ds) = true from decide_eq_true hc] at k
      exact k _ _ (fun b o q hb => Fr.keep (by assumption) b o (Tn.other b o (hkeep b o q (by simp)) (by simpa using hb))) (nsTurn F.ns (fun b o q => hkeep b o q (by simp)) Tn (Fr.keep (by assumption))))
end
end
/- part E10 -/
section
open PySem PySem.W PyProof.Rows PySem.Calls PySem.Spec
abbrev tupO (vs : List Value) : Obj := { cls := .type "tuple", data := .seq vs.toArray }
mutual
/-- a datum whose tuples lie in a ledger -/
inductive LIn (nw : List (Addr × Obj)) : Value → DT → Prop
  | none : LIn nw .none .none
  | int (i : Int) (t : Tok) : LIn nw (.int i t) (.int i)
  | str (x : Str) (t : Tok) : LIn nw (.str x t) (.str x)
  | tup {a : Addr} {vs : List Value} {ds : List DT} : (a, tupO vs) ∈ nw → LsIn nw vs ds → LIn nw (.ref a) (.tup ds)
inductive LsIn (nw : List (Addr × Obj)) : List Value → List DT → Prop
  | nil : LsIn nw [] []
  | cons {v : Value} {d : DT} {vs : List Value} {ds : List DT} : LIn nw v d → LsIn nw vs ds → LsIn nw (v :: vs) (d :: ds)
end
mutual
theorem LIn.map {nw nw' : List (Addr × Obj)} (h : ∀ a vs, (a, tupO vs) ∈ nw → (a, tupO vs) ∈ nw') : ∀ {v : Value} {d : DT}, LIn nw v d → LIn nw' v d
  | _, _, .none => .none
  | _, _, .int i t => .int i t
  | _, _, .str x t => .str x t
  | _, _, .tup ht hs => .tup (h _ _ ht) (LsIn.map h hs)
theorem LsIn.map {nw nw' : List (Addr × Obj)} (h : ∀ a vs, (a, tupO vs) ∈ nw → (a, tupO vs) ∈ nw') : ∀ {vs : List Value} {ds : List DT}, LsIn nw vs ds → LsIn nw' vs ds
  | _, _, .nil => .nil
  | _, _, .cons a b => .cons (LIn.map h a) (LsIn.map h b)
end
mutual
theorem LIn.din {g h : Heap} {L : Addr} {nw : List (Addr × Obj)} (N : ∀ q ∈ nw, h.get? q.1 = some q.2) : ∀ {v : Value} {d : DT}, LIn nw v d → DIn h v d
  | _, _, .none => .none
  | _, _, .int i t => .int i t
  | _, _, .str x t => .str x t
  | _, _, .tup ht hs => .tup ⟨_, N _ ht, rfl, _, rfl⟩ (LsIn.din (g := g) (L := L) N hs)
theorem LsIn.din {g h : Heap} {L : Addr} {nw : List (Addr × Obj)} (N : ∀ q ∈ nw, h.get? q.1 = some q.2) : ∀ {vs : List Value} {ds : List DT}, LsIn nw vs ds → DsIn h vs ds
  | _, _, .nil => .nil
  | _, _, .cons a b => .cons (LIn.din (g := g) (L := L) N a) (LsIn.din (g := g) (L := L) N b)
end
/-- what is new in a heap -/
def NewIn (h h' : Heap) (nw : List (Addr × Obj)) : Prop := ∀ q ∈ nw, h'.get? q.1 = some q.2 ∧ h.get? q.1 = none
def noSrc (src : Addr) (nw : List (Addr × Obj)) : List (Addr × Obj) := nw.filter fun q => decide (@Ne Nat q.1 src)
theorem newOf {s₀ g h h' : Heap} {src L' : Addr} {nw hid : List (Addr × Obj)} (hkeep : ∀ b o, s₀.get? b = some o → b ∉ hid.map (·.1) → g.get? b = some o) (hh : ∀ q ∈ hid, q.1 = src) (N : News g L' h nw) (st : StaysBut src h h') : NewIn s₀ h' (noSrc src nw) := by
  intro q hq
  obtain ⟨h1, h2⟩ := List.mem_filter.mp hq
  have h2' : q.1 ≠ src := by simpa using h2
  refine ⟨st _ _ (N q h1).1 h2', ?_⟩
  cases e : s₀.get? q.1 with
  | none => rfl
  | some o =>
    have := hkeep _ _ e (fun hm => by
      obtain ⟨z, hz, ez⟩ := List.mem_map.mp hm
      exact h2' (ez.symm.trans (hh z hz)))
    rw [(N q h1).2.2] at this; cases this
theorem memOf {g h : Heap} {src L' : Addr} {nw : List (Addr × Obj)} {x y : Int} {tx ty : Tok} {n : Nat} (N : News g L' h nw) (hs : (src, pool x y tx ty n) ∈ nw) : ∀ a vs, (a, tupO vs) ∈ nw → (a, tupO vs) ∈ noSrc src nw := by
  intro a vs hm
  refine List.mem_filter.mpr ⟨hm, ?_⟩
  have : a ≠ src := fun e => by
    have h1 := (N _ hm).1
    have h2 := (N _ hs).1
    dsimp only at h1 h2
    rw [e, h2] at h1
    have hc := congrArg Obj.cls (Option.some.inj h1)
    injection hc with hc
    exact absurd hc (by decide)
  simpa using this
theorem srcMem {g h : Heap} {L' src : Addr} {nw : List (Addr × Obj)} {o : Obj} (_ : News g L' h nw) (hm : (src, o) ∈ nw) : (src, o) ∈ nw := hm
theorem srcOne {g h : Heap} {L' src : Addr} {nw : List (Addr × Obj)} {o : Obj} (N : News g L' h nw) (hm : (src, o) ∈ nw) : News g L' h [(src, o)] := fun q hq => by
  rw [List.mem_singleton.mp hq]; exact N _ hm
def sK : Str := Str.ofString "k"
def sT : Str := Str.ofString "t"
def nine : List (List DT × Bool × Bool) :=
  [([], false, false), ([.str sK, .int 7], true, false), ([.str sK, .tup [.str sT], .int 7], false, true), ([.str sK], false, false),
   ([.none, .int 7], false, false), ([.str sK, .str (Str.ofString "m"), .int 7], false, false), ([.str sK, .int 3, .int 7], true, false),
   ([.str sK, .tup [.str sT, .int 1], .int 0], false, true), ([.str sK, .tup [.str sT]], false, false)]
mutual
/-- a display of nested tuples of written ints, strs and None -/
inductive ConstD : PySem.Expr → DT → Prop
  | none (k : Nat) (pos : Pos) : ConstD (.Constant .none k pos) .none
  | int (i : Int) (k : Nat) (pos : Pos) : ConstD (.Constant (.int i) k pos) (.int i)
  | str (x : Str) (k : Nat) (pos : Pos) : ConstD (.Constant (.str x) k pos) (.str x)
  | tup {es : List PySem.Expr} {ds : List DT} (k : Nat) (pos : Pos) : ConstsD es ds → Nat.ble ds.length 100 = true → ConstD (.Tuple es k pos) (.tup ds)
inductive ConstsD : List PySem.Expr → List DT → Prop
  | nil : ConstsD [] []
  | cons {e : PySem.Expr} {d : DT} {es : List PySem.Expr} {ds : List DT} : ConstD e d → ConstsD es ds → ConstsD (e :: es) (d :: ds)
end
theorem ConstD.star {e : PySem.Expr} {d : DT} (a : ConstD e d) (es : List PySem.Expr) (env : Env) : starEach (e :: es) env = (false, eval e env) :: starEach es env := by cases a <;> rfl
theorem LsIn.length {nw : List (Addr × Obj)} : ∀ {vs : List Value} {ds : List DT}, LsIn nw vs ds → vs.length = ds.length
  | _, _, .nil => rfl
  | _, _, .cons _ b => by simp [LsIn.length b]
section
variable {M : Model} {A : Around} {E : Value → Shared → Prop} {env : Env} {g : Heap} {L : Addr} {m : Str → Option Value}
mutual
theorem ConstD.ev : ∀ {e : PySem.Expr} {d : DT}, ConstD e d → ∀ {s : Shared} {news : List (Addr × Obj)} {Q : Value → Shared → Prop}, Fr g L s.heap m → News g L s.heap news →
    (∀ v new h' tk', LIn new v d → Fr g L h' m → News g L h' (new ++ news) → (∀ q ∈ new, ∀ p ∈ news, @LT.lt Nat _ p.1 q.1) → Q v { s with heap := h', toks := tk' }) → wpAny M A (eval e env) Q E s
  | _, _, .none _ _, s, _, _, F, N, h => Constant_none (h .none [] s.heap s.toks .none F N (fun _ hq => by cases hq))
  | _, _, .int i _ _, s, _, _, F, N, h => fun _ _ _ => h _ [] s.heap _ (.int i _) F N (fun _ hq => by cases hq)
  | _, _, .str x _ _, s, _, _, F, N, h => Constant_str (h _ [] s.heap _ (.str x _) F N (fun _ hq => by cases hq))
  | _, _, .tup _ _ c z, s, news, Q, F, N, h => Tuple_ (ConstsD.ev c F N fun vs new h' tk' hl F1 N1 o1 =>
      kup_newTuple (s := { s with heap := h', toks := tk' }) F1 N1 (fun D h2 F2 N2 l2 => h (.ref D) ((D, tupO vs) :: new) h2 tk' (.tup (.head _) (LsIn.map (fun _ _ q => .tail _ q) hl)) F2 N2 (fun q hq p hp => by
        rcases List.mem_cons.mp hq with rfl | hq
        · exact l2 p (List.mem_append_right _ hp)
        · exact o1 q hq p hp)) (by rw [LsIn.length hl, sizeLine_eq]; have := bleN z; omega))
theorem ConstsD.ev : ∀ {es : List PySem.Expr} {ds : List DT}, ConstsD es ds → ∀ {s : Shared} {news : List (Addr × Obj)} {pos : Pos} {Q : List Value → Shared → Prop}, Fr g L s.heap m → News g L s.heap news →
    (∀ vs new h' tk', LsIn new vs ds → Fr g L h' m → News g L h' (new ++ news) → (∀ q ∈ new, ∀ p ∈ news, @LT.lt Nat _ p.1 q.1) → Q vs { s with heap := h', toks := tk' }) → wpAny M A (spliced (backTo pos (starEach es env))) Q E s
  | _, _, .nil, s, _, _, _, F, N, h => spliced_none (h [] [] s.heap s.toks .nil F N (fun _ hq => by cases hq))
  | _, _, .cons a b, s, news, _, Q, F, N, h => spliced_more (ConstD.ev a F N fun v new1 h1 tk1 l1 F1 N1 o1 =>
      ConstsD.ev b (s := { s with heap := h1, toks := tk1 }) F1 N1 fun vs new2 h2 tk2 l2 F2 N2 o2 => h (v :: vs) (new2 ++ new1) h2 tk2 (.cons (LIn.map (fun _ _ q => List.mem_append_right _ q) l1) (LsIn.map (fun _ _ q => List.mem_append_left _ q) l2)) F2 (by rw [List.append_assoc]; exact N2) (fun q hq p hp => by
        rcases List.mem_append.mp hq with hq | hq
        · exact o2 q hq p (List.mem_append_right _ hp)
        · exact o1 q hq p hp)) (he := ConstD.star a _ _)
end
end
inductive NRowsD : List PySem.Expr → List (List DT × Bool × Bool) → Prop
  | nil : NRowsD [] []
  | cons {e : PySem.Expr} {ds : List DT} {es : List PySem.Expr} {rs : List (List DT × Bool × Bool)} (nb tb : Bool) (k k1 k2 : Nat) (p p1 p2 : Pos) : ConstD e (.tup ds) → NRowsD es rs → NRowsD (.Tuple [e, .Constant (.bool nb) k1 p1, .Constant (.bool tb) k2 p2] k p :: es) ((ds, nb, tb) :: rs)
inductive NRowsIn (nw : List (Addr × Obj)) : List Value → List (List DT × Bool × Bool) → Prop
  | nil : NRowsIn nw [] []
  | cons {V P : Addr} {ds : List DT} {nb tb : Bool} {vs : List Value} {rs : List (List DT × Bool × Bool)} : (V, tupO [.ref P, .bool nb, .bool tb]) ∈ nw → LIn nw (.ref P) (.tup ds) → NRowsIn nw vs rs → NRowsIn nw (.ref V :: vs) ((ds, nb, tb) :: rs)
theorem NRowsIn.map {nw nw' : List (Addr × Obj)} (h : ∀ a vs, (a, tupO vs) ∈ nw → (a, tupO vs) ∈ nw') {vs : List Value} {rs : List (List DT × Bool × Bool)} (x : NRowsIn nw vs rs) : NRowsIn nw' vs rs := by
  induction x with
  | nil => exact .nil
  | cons a b _ ih => exact .cons (h _ _ a) (LIn.map h b) ih
theorem NRowsIn.length {nw : List (Addr × Obj)} {vs : List Value} {rs : List (List DT × Bool × Bool)} (x : NRowsIn nw vs rs) : vs.length = rs.length := by
  induction x with
  | nil => rfl
  | cons _ _ _ ih => simp [ih]
theorem NRowsIn.mem {nw : List (Addr × Obj)} {vs : List Value} {rs : List (List DT × Bool × Bool)} (x : NRowsIn nw vs rs) {v : Value} (h : v ∈ vs) : ∃ V P ds nb tb, v = .ref V ∧ (V, tupO [.ref P, .bool nb, .bool tb]) ∈ nw ∧ LIn nw (.ref P) (.tup ds) ∧ (ds, nb, tb) ∈ rs := by
  induction x with
  | nil => cases h
  | cons a b _ ih =>
    rcases List.mem_cons.mp h with rfl | h
    · exact ⟨_, _, _, _, _, rfl, a, b, .head _⟩
    · obtain ⟨V, P, ds, nb, tb, e, m1, m2, m3⟩ := ih h
      exact ⟨V, P, ds, nb, tb, e, m1, m2, .tail _ m3⟩
section
variable {M : Model} {A : Around} {E : Value → Shared → Prop} {env : Env} {g : Heap} {L : Addr} {m : Str → Option Value}
theorem NRowsD.ev : ∀ {es : List PySem.Expr} {rs : List (List DT × Bool × Bool)}, NRowsD es rs → ∀ {s : Shared} {news : List (Addr × Obj)} {pos : Pos} {Q : List Value → Shared → Prop}, Fr g L s.heap m → News g L s.heap news →
    (∀ vs new h' tk', NRowsIn new vs rs → Fr g L h' m → News g L h' (new ++ news) → Q vs { s with heap := h', toks := tk' }) → wpAny M A (spliced (backTo pos (starEach es env))) Q E s
  | _, _, .nil, s, _, _, _, F, N, h => spliced_none (h [] [] s.heap s.toks .nil F N)
  | _, _, .cons nb tb k k1 k2 p p1 p2 a b, s, news, _, Q, F, N, h => spliced_more (Tuple_ (spliced_more (ConstD.ev a F N fun v new1 h1 tk1 l1 F1 N1 _ =>
      spliced_more (Constant_bool (spliced_more (Constant_bool (spliced_none (kup_newTuple (s := { s with heap := h1, toks := tk1 }) F1 N1 (fun D h2 F2 N2 _ =>
        NRowsD.ev b (s := { s with heap := h2, toks := tk1 }) F2 N2 fun vs new3 h3 tk3 l3 F3 N3 => by
          cases l1 with
          | tup la lb => exact h _ (new3 ++ (D, tupO [.ref _, .bool nb, .bool tb]) :: new1) h3 tk3 (.cons (List.mem_append_right _ (.head _)) (LIn.map (fun _ _ q => List.mem_append_right _ (.tail _ q)) (.tup la lb)) (NRowsIn.map (fun _ _ q => List.mem_append_left _ q) l3)) F3 (by rw [List.append_assoc]; exact N3)) (bleN rfl)))))) ) (he := ConstD.star a _ _)))
theorem my_rows {es : List PySem.Expr} {rs : List (List DT × Bool × Bool)} {pos : Pos} {s : Shared} {news : List (Addr × Obj)} {Q : Value → Shared → Prop} (c : NRowsD es rs) (hz : Nat.ble rs.length 100 = true) (F : Fr g L s.heap m) (N : News g L s.heap news)
    (h : ∀ l vs new h' tk', NRowsIn new vs rs → Fr g L h' m → News g L h' ((l, listOf vs.toArray 0) :: (new ++ news)) → (∀ p ∈ new ++ news, p.1 < l) → Q (.ref l) { s with heap := h', toks := tk' }) : wpAny M A (eval (.List es pos) env) Q E s :=
  List_ (NRowsD.ev c F N fun vs new h' tk' hr F1 N1 => newList_K (s := { s with heap := h', toks := tk' }) F1 N1 (fun l h2 F2 N2 l1 => h l vs new h2 tk' hr F2 N2 l1) (by rw [NRowsIn.length hr, sizeLine_eq]; have := bleN hz; omega))
end
theorem NRowsIn.app {nw : List (Addr × Obj)} {vs ws : List Value} {rs us : List (List DT × Bool × Bool)} (x : NRowsIn nw vs rs) (y : NRowsIn nw ws us) : NRowsIn nw (vs ++ ws) (rs ++ us) := by
  induction x with
  | nil => exact y
  | cons a b _ ih => exact .cons a b ih
theorem my_addR {prog : Program} {w : World} {A : Around} {E : Value → Shared → Prop} {s : Shared} {h₀ : Heap} {L l b : Addr} {m : Str → Option Value} {news : List (Addr × Obj)} {vs ws : List Value} {rs us : List (List DT × Bool × Bool)} {Q : Value → Shared → Prop} (F : Fr h₀ L s.heap m) (N : News h₀ L s.heap news)
    (hl : (l, listOf vs.toArray 0) ∈ news) (hb : (b, listOf ws.toArray 0) ∈ news) (hi : NRowsIn news vs rs) (hj : NRowsIn news ws us) (hz : Nat.ble (rs.length + us.length) 100 = true)
    (h : ∀ D zs h', NRowsIn ((D, listOf (List.toArray zs) 0) :: news) zs (rs ++ us) → Fr h₀ L h' m → News h₀ L h' ((D, listOf (List.toArray zs) 0) :: news) → (∀ p ∈ news, p.1 < D) → Q (.ref D) { s with heap := h' }) :
    wpAny (model prog w) A (binaryOp .Add (.ref l) (.ref b)) Q E s :=
  add_arrays F N (News.isList N hl) (News.isList N hb) (fun h' F' N' => h _ (vs ++ ws) h' (NRowsIn.map (fun _ _ q => .tail _ q) (hi.app hj)) F' (by simpa using N') fun q hq => Heap.lt_size (N q hq).1) (by have := hi.length; have := hj.length; have := bleN hz; rw [sizeLine_eq]; simp; omega)
section
variable {w : World} {dp un : Nat} {gd : Option (List Code)} {cn : Str} {cs : Scope} {a : Addr} {ccd : Value} {cl : List (Str × Addr)} {outer : List Env} {A₀ : Around} {base h₀ : Heap} {L : Addr} {m : Str → Option Value} {s : Shared} {Q E : Value → Shared → Prop}
    {p : Program} {loose : List Str} {mean : ExcName → Option Value} {mg mb : Str → Option Value} {src : Addr} {x y : Int} {tx ty : Tok} {n : Nat}
set_option maxHeartbeats 4000000 in
theorem C_begin (B : Below A₀ base outer h₀) (F : Fr h₀ L s.heap m) (X : (KK w.params).In h₀) (T : Top p loose mean mg mb h₀) (hk : cs.kind = .function) (hd : dp + 3 < recursionLimit) (hu : un + 30 < cLine)
    (N : News h₀ L s.heap [(src, pool x y tx ty n)]) (hx : 0 ≤ x) (hy : 0 ≤ y) (hy2 : y < 2147483647)
    (k : ∀ V vs nb tb new ds h' tk', NewIn s.heap h' new → StaysBut src s.heap h' → PoolAt src h' → (V, tupO [.ref vs, .bool nb, .bool tb]) ∈ new → LIn new (.ref vs) (.tup ds) → (ds, nb, tb) ∈ nine → Q (.ref V) { s with heap := h', toks := tk' }) :
    wpAny (model PR w) (ktrTop dp un gd cn cs L a ccd cl outer) (call (.ref 171) [.ref src]) Q E s := by
  obtain ⟨sh, sg, sd, sk, so⟩ := s
  dsimp only at F N k
  refine wpAny_call ?_
  refine' enterS (by assumption) (by assumption) (by assumption) (by assumption) (by assumption) ?kA ?kF ?kK ?k6 ?k7 ?k8 ?k9 ?kB ?_ ?c2 ?c3 ?c4 ?c5
  (case kA => exact rfl); (case kF => exact rfl); (case kK => assumption); (case k6 => k_dflt k_is); (case k7 => k_dflt k_is); (case k8 => ktr_room); (case k9 => exact BindsTo.of_eq rfl); (case kB => exact locs rfl); (case c2 => exact rfl); (case c3 => exact rfl); (case c4 => exact rfl); (case c5 => decide)
  intro g L' h₁ tk₁ hkeep F' N' B' X' T'
  dsimp only
  refine anyQF ?_
  intro Q9 hQ9
  clear B F X T N hk
  have z1 : StopAt "call ref" := .mk
  have z2 : StopAt "eval List" := .mk
  have z3 : StopAt "binaryOp Add ref ref" := .mk
  k_steps
  unfold Halt
  refine' my_rows (rs := [([], false, false), ([.str (Str.ofString "k"), .int 7], true, false), ([.str (Str.ofString "k"), .tup [.str (Str.ofString "t")], .int 7], false, true), ([.str (Str.ofString "k")], false, false)]) ?kc ?kz ?kF ?kN ?_
  (case kc => exact (.cons _ _ _ _ _ _ _ _ (.tup _ _ .nil rfl) (.cons _ _ _ _ _ _ _ _ (.tup _ _ (.cons (.str _ _ _) (.cons (.int _ _ _) .nil)) rfl) (.cons _ _ _ _ _ _ _ _ (.tup _ _ (.cons (.str _ _ _) (.cons (.tup _ _ (.cons (.str _ _ _) .nil) rfl) (.cons (.int _ _ _) .nil))) rfl) (.cons _ _ _ _ _ _ _ _ (.tup _ _ (.cons (.str _ _ _) .nil) rfl) .nil))))); (case kz => exact rfl); (case kF => k_asm); (case kN => k_asm)
  intro l1 vs1 new1 h2 tk2 hR1 F1 N1 o1
  replace F1 := frCongr (m' := fun y => List.lookup y [(Str.ofString "source", Value.ref src)]) F1 (fun _ => rfl)
  dsimp only
  clear F' N'
  k_steps
  unfold Halt
  refine' my_rows (rs := [([.none, .int 7], false, false), ([.str (Str.ofString "k"), .str (Str.ofString "m"), .int 7], false, false), ([.str (Str.ofString "k"), .int 3, .int 7], true, false)]) ?kc ?kz ?kF ?kN ?_
  (case kc => exact (.cons _ _ _ _ _ _ _ _ (.tup _ _ (.cons (.none _ _) (.cons (.int _ _ _) .nil)) rfl) (.cons _ _ _ _ _ _ _ _ (.tup _ _ (.cons (.str _ _ _) (.cons (.str _ _ _) (.cons (.int _ _ _) .nil))) rfl) (.cons _ _ _ _ _ _ _ _ (.tup _ _ (.cons (.str _ _ _) (.cons (.int _ _ _) (.cons (.int _ _ _) .nil))) rfl) .nil)))); (case kz => exact rfl); (case kF => k_asm); (case kN => k_asm)
  intro l2 vs2 new2 h3 tk3 hR2 F2 N2 o2
  dsimp only
  k_steps
  unfold Halt
  refine' my_addR ?kF ?kN ?kl ?kb ?ki ?kj ?kz ?_
  (case kF => k_asm); (case kN => k_asm); (case kl => exact .tail _ (List.mem_append_right _ (.head _))); (case kb => exact .head _)
  (case ki => exact hR1.map (fun _ _ q => .tail _ (List.mem_append_right _ (.tail _ (List.mem_append_left _ q))))); (case kj => exact hR2.map (fun _ _ q => .tail _ (List.mem_append_left _ q))); (case kz => exact rfl)
  intro l3 vs3 h4 hR3 F3 N3 o3
  dsimp only
  have hs3 : (src, pool x y tx ty n) ∈ (l2, listOf vs2.toArray 0) :: (new2 ++ (l1, listOf vs1.toArray 0) :: (new1 ++ [(src, pool x y tx ty n)])) := .tail _ (List.mem_append_right _ (.tail _ (List.mem_append_right _ (.head _))))
  clear F2 N2 hR1 hR2 o1 o2 o3
  revert hs3 N3 hR3
  generalize (l2, listOf vs2.toArray 0) :: (new2 ++ (l1, listOf vs1.toArray 0) :: (new1 ++ [(src, pool x y tx ty n)])) = nw
  intro hR3 N3 hs3
  k_steps
  unfold Halt
  refine' my_rows (rs := [([.str (Str.ofString "k"), .tup [.str (Str.ofString "t"), .int 1], .int 0], false, true), ([.str (Str.ofString "k"), .tup [.str (Str.ofString "t")]], false, false)]) ?kc ?kz ?kF ?kN ?_
  (case kc => exact (.cons _ _ _ _ _ _ _ _ (.tup _ _ (.cons (.str _ _ _) (.cons (.tup _ _ (.cons (.str _ _ _) (.cons (.int _ _ _) .nil)) rfl) (.cons (.int _ _ _) .nil))) rfl) (.cons _ _ _ _ _ _ _ _ (.tup _ _ (.cons (.str _ _ _) (.cons (.tup _ _ (.cons (.str _ _ _) .nil) rfl) .nil)) rfl) .nil))); (case kz => exact rfl); (case kF => k_asm); (case kN => k_asm)
  intro l4 vs4 new4 h5 tk5 hR4 F4 N4 o4
  dsimp only
  k_steps
  unfold Halt
  refine' my_addR ?kF ?kN ?kl ?kb ?ki ?kj ?kz ?_
  (case kF => k_asm); (case kN => k_asm); (case kl => exact .tail _ (List.mem_append_right _ (.head _))); (case kb => exact .head _)
  (case ki => exact hR3.map (fun _ _ q => .tail _ (List.mem_append_right _ q))); (case kj => exact hR4.map (fun _ _ q => .tail _ (List.mem_append_left _ q))); (case kz => exact rfl)
  intro l vs h6 hR F6 N6 o6
  dsimp only
  have hsm := (List.mem_cons_of_mem (l, listOf vs.toArray 0) (List.mem_cons_of_mem (l4, listOf vs4.toArray 0) (List.mem_append_right new4 (List.mem_cons_of_mem (l3, listOf vs3.toArray 0) hs3))))
  have o9 := Nat.ne_of_gt (o6 _ (List.mem_cons_of_mem (l4, listOf vs4.toArray 0) (List.mem_append_right new4 (List.mem_cons_of_mem (l3, listOf vs3.toArray 0) hs3))))
  clear F4 N4 hR3 hR4 o4 o6 hs3
  revert hsm N6 hR
  generalize (l4, listOf vs4.toArray 0) :: (new4 ++ (l3, listOf vs3.toArray 0) :: nw) = nv
  intro hR N6 hsm
  k_steps
  unfold Halt
  have N9 := srcOne N6 hsm
  refine C_one B' F6 X' T' rfl (by ktr_room) (by ktr_units) N9 hx hy hy2 (News.isList N6 (.head _)) o9 (by rw [hR.length]; decide) (by rw [hR.length]; decide) ?_
  intro v h' tk' hv st P
  have F7 := butF F6 N9 st
  have N7 : News g L' h' [] := News.nil
  have nn := newOf hkeep (fun q hq => by rw [List.mem_singleton.mp hq]) N6 st
  have sb : StaysBut src sh h' := fun b o e ne => st b o (F6.keep b o (hkeep b o e (by simp [ne]))) ne
  obtain ⟨V, P0, ds, nb, tb, rfl, m1, m2, m3⟩ := hR.mem (by simpa using hv)
  have mm := memOf N6 hsm
  have k9 := hQ9 (.ret (.ref V)) _ (k V P0 nb tb _ ds h' tk' nn sb P (mm _ _ m1) (LIn.map mm m2) m3)
  clear F6 N9 N6 hR hsm mm nn sb st hQ9 k m1 m2 m3 hv o9
  dsimp only
  k_steps
  exact k9
end
end
/- part E11 -/
section
open PySem PySem.W PyProof.Rows PySem.Calls PySem.Spec
open LCg
section
variable {prog : Program} {w : World} {A : Around} {E : Value → Shared → Prop} {s : Shared} {h₀ : Heap} {L : Addr} {m : Str → Option Value} {env : Env} {news : List (Addr × Obj)}
/-- the turns of a block without a test, by an invariant -/
theorem restU {S : List (Addr × Obj) → Prop} {P : Nat → Value → Prop} {elt : Expr} {x : Str} {scope : Scope} {cl : List (Str × Addr)} {s₂ : Shared} {Fin : List Value → List (Addr × Obj) → Prop} (K : Nat → List Value → List (Addr × Obj) → Prop) (n : Nat)
    (turn : ∀ i v ys nw I oI C oC D m₂ h tk (E' : Value → Shared → Prop), i < n → P i v → K i ys nw → NsObj oC m₂ → m₂ x = some v → Fr h₀ L h m → News h₀ L h ((I, oI) :: (C, oC) :: (D, lst ys) :: nw) → Off3 I C D nw → ((@Ne Nat I C) ∧ (@Ne Nat I D) ∧ (@Ne Nat C D)) →
      wpAny (model prog w) A (eval elt (compEnvC scope cl C env)) (CompEnd h₀ L m { s₂ with heap := h, toks := tk } I oI C oC D (lst ys) S (fun y nw' => K (i + 1) (ys ++ [y]) nw')) E' { s₂ with heap := h, toks := tk })
    (done : ∀ ys nw, K n ys nw → Fin ys nw) : ∀ (k i : Nat) (ys : List Value) (nw : List (Addr × Obj)), i + k = n → K i ys nw →
    CompRest prog w A h₀ L m env elt x scope cl s₂ S P Fin k i ys nw := by
  intro k
  induction k with
  | zero => intro i ys nw hi hK; exact .zero (done ys nw ((by omega : i = n) ▸ hK))
  | succ k ih =>
    intro i ys nw hi hK
    refine .succ fun v I oI C oC D m₂ h tk E' hv hC hx F N off ne => ?_
    refine wpAny_mono (turn i v ys nw I oI C oC D m₂ h tk E' (by omega) hv hK hC hx F N off ne) (fun y s₅ h₅ => ?_) fun _ _ e => e
    obtain ⟨h₄, tk₄, n₄, e₄, F₄, N₄, o₄, S₄, R₄⟩ := h₅
    exact ⟨h₄, tk₄, n₄, e₄, F₄, N₄, o₄, S₄, ih (i + 1) _ _ (by omega) R₄⟩

/-- over range(n) -/
theorem comp_range {elt iter : Expr} {x : Str} {px : Pos} {scope : Scope} {cl : List (Str × Addr)} {pos : Pos} {Q : Value → Shared → Prop} (K : Nat → List Value → List (Addr × Obj) → Prop) (n : Nat) (hn : n ≤ 100) (hh : A.handled = none)
    (F₀ : Fr h₀ L s.heap m)
    (hclos : closureFor scope env = pure cl) (hcell : ∀ y ∈ scope.names, y.2 ≠ .cell) (hkind : scope.kind = .function)
    (hnames : ∀ y ∈ scope.names, y.2 = .local → scope.names.lookup y.1 = some .local) (hx : scope.names.lookup x = some .local)
    (hit : ∀ Q' : Value → Shared → Prop, (∀ r t u v s₁ news, Fr h₀ L s₁.heap m → News h₀ L s₁.heap news → IsRange s₁.heap r 0 (n : Int) 1 t u v → K 0 [] news → (∃ h tk, s₁ = { s with heap := h, toks := tk }) → Q' (.ref r) s₁) → wpAny (model prog w) A (eval iter env) Q' E s)
    (turn : ∀ (s₂ : Shared), (∃ h tk, s₂ = { s with heap := h, toks := tk }) → ∀ i v ys nw I oI C oC D m₂ h tk (E' : Value → Shared → Prop), i < n → K i ys nw → NsObj oC m₂ → m₂ x = some v → Fr h₀ L h m → News h₀ L h ((I, oI) :: (C, oC) :: (D, lst ys) :: nw) → Off3 I C D nw → ((@Ne Nat I C) ∧ (@Ne Nat I D) ∧ (@Ne Nat C D)) →
      wpAny (model prog w) A (eval elt (compEnvC scope cl C env)) (CompEnd h₀ L m { s₂ with heap := h, toks := tk } I oI C oC D (lst ys) (fun _ => True) (fun y nw' => K (i + 1) (ys ++ [y]) nw')) E' { s₂ with heap := h, toks := tk })
    (done : ∀ (s₂ : Shared), (∃ h tk, s₂ = { s with heap := h, toks := tk }) → ∀ ys nw D h tk, K n ys nw → Fr h₀ L h m → News h₀ L h ((D, lst ys) :: nw) → Off1 D nw → Q (.ref D) { s₂ with heap := h, toks := tk })
    (hs : ∀ x, foldedSetIterable iter env x = pure x := by intro _; rfl) :
    wpAny (model prog w) A (eval (.ListComp elt [⟨.Name x px, iter, [], 0⟩] scope pos) env) Q E s := by
  refine ListComp_U F₀ hclos hcell hkind hnames hx (hit _ fun r t u v s₁ nw F N hr k0 hs₁ => ?_) hs
  obtain ⟨hq, tq, rfl⟩ := hs₁
  refine CompSrc.range (n := n) hh F N hr (small_one (by omega) (by omega) (by omega) (by omega)) (by rw [rangeSize_one]; split <;> omega) (by rw [sizeLine_eq]; omega) fun g => ?_
  exact restU K n (fun i v ys nw I oI C oC D m₂ h tk E' hi _ => turn _ ⟨_, _, rfl⟩ i v ys nw I oI C oC D m₂ h tk E' hi) (fun ys nw hK D h tk F' N' o => done { s with heap := g, toks := tq } ⟨g, tq, rfl⟩ ys nw D h tk hK F' N' o) n 0 [] nw (by omega) k0

/-- over a list of the ledger, the ledger left as it is but for what K tells -/
theorem comp_list {elt iter : Expr} {x : Str} {px : Pos} {scope : Scope} {cl : List (Str × Addr)} {pos : Pos} {Q : Value → Shared → Prop} {ax : Addr} {zs : List Value} {c : Nat} (K : Nat → List Value → List (Addr × Obj) → Prop) (hn : zs.length ≤ 100) (hh : A.handled = none)
    (F : Fr h₀ L s.heap m) (N : News h₀ L s.heap news) (hm : (ax, ({ cls := .type "list", data := .seq zs.toArray c } : Obj)) ∈ news)
    (hclos : closureFor scope env = pure cl) (hcell : ∀ y ∈ scope.names, y.2 ≠ .cell) (hkind : scope.kind = .function)
    (hnames : ∀ y ∈ scope.names, y.2 = .local → scope.names.lookup y.1 = some .local) (hx : scope.names.lookup x = some .local)
    (hit : ∀ Q' : Value → Shared → Prop, Q' (.ref ax) s → wpAny (model prog w) A (eval iter env) Q' E s) (k0 : K 0 [] news)
    (turn : ∀ (s₂ : Shared), (∃ h, s₂ = { s with heap := h }) → ∀ i v ys nw I oI C oC D m₂ h tk (E' : Value → Shared → Prop), zs[i]? = some v → K i ys nw → NsObj oC m₂ → m₂ x = some v → Fr h₀ L h m → News h₀ L h ((I, oI) :: (C, oC) :: (D, lst ys) :: nw) → Off3 I C D nw → ((@Ne Nat I C) ∧ (@Ne Nat I D) ∧ (@Ne Nat C D)) →
      wpAny (model prog w) A (eval elt (compEnvC scope cl C env)) (CompEnd h₀ L m { s₂ with heap := h, toks := tk } I oI C oC D (lst ys) (SrcAt h₀ ax zs.toArray) (fun y nw' => K (i + 1) (ys ++ [y]) nw')) E' { s₂ with heap := h, toks := tk })
    (done : ∀ ys nw D h tk, K zs.length ys nw → Fr h₀ L h m → News h₀ L h ((D, lst ys) :: nw) → Off1 D nw → Q (.ref D) { s with heap := h, toks := tk })
    (hs : ∀ x, foldedSetIterable iter env x = pure x := by intro _; rfl) :
    wpAny (model prog w) A (eval (.ListComp elt [⟨.Name x px, iter, [], 0⟩] scope pos) env) Q E s := by
  refine ListComp_U F hclos hcell hkind hnames hx (hit _ ?_) hs
  refine CompSrc.ledger (k := c) hh F N hm (by rw [sizeLine_eq]; simp; omega) fun g => ?_
  have hsz : zs.toArray.size = zs.length := by simp
  rw [hsz]
  exact restU K zs.length (fun i v ys nw I oI C oC D m₂ h tk E' hi hv => turn _ ⟨_, rfl⟩ i v ys nw I oI C oC D m₂ h tk E' (by simpa using hv)) (fun ys nw hK D h tk F' N' o => done ys nw D h tk hK F' N' o) _ 0 [] news (by omega) k0
end
end
/- part P8 -/
section
open PySem PySem.W PyProof.Rows PySem.Calls PySem.Spec
def mx : List Int → Int
  | [] => 0
  | x :: xs => max x (mx xs)
theorem mx_nn : ∀ xs : List Int, 0 ≤ mx xs
  | [] => Int.le_refl _
  | x :: xs => by have := mx_nn xs; show 0 ≤ max x (mx xs); omega
theorem mx_ub : ∀ {xs : List Int} {a : Int}, a ∈ xs → a ≤ mx xs
  | x :: xs, a, h => by
    show a ≤ max x (mx xs)
    rcases List.mem_cons.mp h with rfl | h
    · omega
    · have := mx_ub h; omega
theorem mx_le : ∀ {xs : List Int} {M : Int}, 0 ≤ M → (∀ a ∈ xs, a ≤ M) → mx xs ≤ M
  | [], _, h, _ => h
  | x :: xs, M, h, k => by
    have h1 := k x (.head _)
    have h2 := mx_le h fun a ha => k a (.tail _ ha)
    show max x (mx xs) ≤ M
    omega
/-- the greatest of [0] + xs + [e] -/
theorem mx_is {xs : List Int} {M e : Int} (hm : M ∈ [0] ++ xs ++ [e]) (hu : ∀ a ∈ [0] ++ xs ++ [e], a ≤ M) (he : 0 ≤ e) : M = max (mx xs) e := by
  have h0 := hu 0 (by simp)
  have h1 := hu e (by simp)
  have h2 := mx_le (xs := xs) h0 fun a ha => hu a (by simp [ha])
  have h3 := mx_nn xs
  simp only [List.mem_append, List.mem_singleton] at hm
  rcases hm with (rfl | hm) | rfl
  · omega
  · have := mx_ub hm; omega
  · omega
theorem mx_is0 {xs : List Int} {M : Int} (hm : M ∈ [0] ++ xs) (hu : ∀ a ∈ [0] ++ xs, a ≤ M) : M = mx xs := by
  have h0 := hu 0 (by simp)
  have h2 := mx_le (xs := xs) h0 fun a ha => hu a (by simp [ha])
  have h3 := mx_nn xs
  simp only [List.mem_append, List.mem_singleton] at hm
  rcases hm with rfl | hm
  · omega
  · have := mx_ub hm; omega
theorem levs_append : ∀ a b : List DT, levs (a ++ b) = max (levs a) (levs b)
  | [], b => by have := levs_nn b; show levs b = max 0 (levs b); omega
  | d :: a, b => by show max (lev d) (levs (a ++ b)) = max (max (lev d) (levs a)) (levs b); rw [levs_append a b]; omega
theorem levs_kids : ∀ ps : List (List DT), levs (ps.map .tup) = mx (ps.map levP)
  | [] => rfl
  | d :: ps => by show max (lev (.tup d)) (levs (ps.map .tup)) = max (levP d) (mx (ps.map levP)); rw [levs_kids ps]; rfl
theorem tys_kids : ∀ ps : List (List DT), tys 0 (ps.map .tup) = mx (ps.map tyP)
  | [] => rfl
  | d :: ps => by show max (ty (.tup d)) (tys 0 (ps.map .tup)) = max (tyP d) (mx (ps.map tyP)); rw [tys_kids ps]; rfl
theorem cnts_append : ∀ a b : List DT, cnts (a ++ b) = cnts a + cnts b
  | [], b => by show cnts b = 0 + cnts b; omega
  | d :: a, b => by show cnt d + cnts (a ++ b) = cnt d + cnts a + cnts b; rw [cnts_append a b]; omega
def isKE : List DT → Bool
  | [] => true
  | [.str x] => x == sK
  | _ => false
def isKT : List DT → Bool
  | [.str x, .tup [.str y]] => x == sK && y == sT
  | _ => false
def isT1 : DT → Bool
  | .tup [.str x, .int i] => x == sT && i == 1
  | _ => false
def begF (ds : List DT) (b : Bool) : List DT := if ((isKE ds && b) || isKT ds) = true then [.none] else ds
def extraF : List DT → Int
  | _ :: d :: _ => if isT1 d = true then 1 else 0
  | _ => 0
theorem extra_nn (ds : List DT) : 0 ≤ extraF ds := by
  unfold extraF; split
  · split <;> decide
  · decide
def b2i (b : Bool) : Int := if b = true then 1 else 0
/-- what a drawn begin and its parts make -/
theorem tree_law {ds0 : List DT} {nb tb : Bool} (h : (ds0, nb, tb) ∈ nine) (ps : List (List DT)) :
    startsN (begF ds0 (!ps.isEmpty) ++ ps.map .tup) = nb ∧ typedN (begF ds0 (!ps.isEmpty) ++ ps.map .tup) = tb ∧
    levP (begF ds0 (!ps.isEmpty) ++ ps.map .tup) = max (mx (ps.map levP)) (extraF (begF ds0 (!ps.isEmpty))) + b2i nb ∧
    tyP (begF ds0 (!ps.isEmpty) ++ ps.map .tup) = mx (ps.map tyP) + b2i tb ∧ cnts (begF ds0 (!ps.isEmpty) ++ ps.map .tup) ≤ 5 + cnts (ps.map .tup) := by
  have hst : startsN (begF ds0 (!ps.isEmpty) ++ ps.map .tup) = nb ∧ typedN (begF ds0 (!ps.isEmpty) ++ ps.map .tup) = tb ∧ levs (begF ds0 (!ps.isEmpty)) = extraF (begF ds0 (!ps.isEmpty)) ∧
      (if tb = true then tys 3 (begF ds0 (!ps.isEmpty) ++ ps.map .tup) else tys 0 (begF ds0 (!ps.isEmpty) ++ ps.map .tup)) = tys 0 (ps.map DT.tup) ∧ cnts (begF ds0 (!ps.isEmpty)) ≤ 5 := by
    simp only [nine, List.mem_cons, Prod.mk.injEq, List.not_mem_nil, or_false] at h
    have e1 : ∀ n : Int, 0 ≤ n → max 0 n = n := by intro n hn; omega
    rcases h with ⟨rfl, rfl, rfl⟩ | ⟨rfl, rfl, rfl⟩ | ⟨rfl, rfl, rfl⟩ | ⟨rfl, rfl, rfl⟩ | ⟨rfl, rfl, rfl⟩ | ⟨rfl, rfl, rfl⟩ | ⟨rfl, rfl, rfl⟩ | ⟨rfl, rfl, rfl⟩ | ⟨rfl, rfl, rfl⟩
    all_goals cases ps with
      | nil => exact ⟨by rfl, by rfl, by decide, by decide, by decide⟩
      | cons q ps =>
        rw [show (!(q :: ps).isEmpty) = true from rfl]
        refine ⟨by cases ps <;> rfl, by cases ps <;> rfl, by decide, ?_, by decide⟩
        have hn := tys_nn 0 (List.map DT.tup (q :: ps))
        generalize hz : List.map DT.tup (q :: ps) = zs at hn
        have e2 := e1 _ hn
        first
          | rfl
          | exact e2
          | (show max 0 (max 0 (tys 0 zs)) = tys 0 zs; rw [e2, e2])
          | (show max 0 (max 0 (max 0 (tys 0 zs))) = tys 0 zs; rw [e2, e2, e2])
  obtain ⟨h1, h2, h3, h4, h5⟩ := hst
  refine ⟨h1, h2, ?_, ?_, ?_⟩
  · show (if startsN _ = true then 1 else 0) + levs _ = _
    rw [h1, levs_append, h3, levs_kids]
    unfold b2i
    omega
  · show (if typedN _ = true then 1 + tys 3 _ else tys 0 _) = _
    rw [h2, ← tys_kids, ← h4]
    unfold b2i
    cases tb
    · simp
    · simp; omega
  · rw [cnts_append]; omega
end
/- part E12a -/
section
open PySem PySem.W PyProof.Rows PySem.Calls PySem.Spec
mutual
def pd : DT → PyData
  | .none => .none
  | .int i => .int i
  | .str x => .str x
  | .tup ds => .tuple (pds ds)
def pds : List DT → List PyData
  | [] => []
  | d :: ds => pd d :: pds ds
end
mutual
theorem LIn.reads {g h : Heap} {L : Addr} {nw : List (Addr × Obj)} (N : News g L h nw) : ∀ {v : Value} {d : DT}, LIn nw v d → ∃ as, Reads h v (pd d) as
  | _, _, .none => ⟨_, Reads.none⟩
  | _, _, .int i t => ⟨_, Reads.int i t⟩
  | _, _, .str x t => ⟨_, Reads.str x t⟩
  | _, _, .tup ht hs => by
    obtain ⟨as, q⟩ := LsIn.reads N hs
    rw [pd]
    exact ⟨_, reads_tuple_at (N.get ht) rfl rfl (by simpa using q)⟩
theorem LsIn.reads {g h : Heap} {L : Addr} {nw : List (Addr × Obj)} (N : News g L h nw) : ∀ {vs : List Value} {ds : List DT}, LsIn nw vs ds → ∃ as, ReadsAll h vs (pds ds) as
  | _, _, .nil => ⟨_, ReadsAll.nil⟩
  | _, _, .cons a b => by
    obtain ⟨as, q⟩ := LIn.reads N a
    obtain ⟨bs, p⟩ := LsIn.reads N b
    rw [pds]
    exact ⟨_, ReadsAll.cons q p⟩
end
theorem LIn.sub {nw nw' : List (Addr × Obj)} (hs : ∀ q ∈ nw, q ∈ nw') {v : Value} {d : DT} (h : LIn nw v d) : LIn nw' v d := h.map fun _ _ => hs _
theorem LsIn.sub {nw nw' : List (Addr × Obj)} (hs : ∀ q ∈ nw, q ∈ nw') {v : List Value} {d : List DT} (h : LsIn nw v d) : LsIn nw' v d := h.map fun _ _ => hs _
theorem LsIn.append {nw : List (Addr × Obj)} : ∀ {vs ws : List Value} {ds es : List DT}, LsIn nw vs ds → LsIn nw ws es → LsIn nw (vs ++ ws) (ds ++ es)
  | _, _, _, _, .nil, y => y
  | _, _, _, _, .cons a b, y => .cons a (LsIn.append b y)
theorem LIn.open {nw : List (Addr × Obj)} {B : Addr} {ds : List DT} (h : LIn nw (.ref B) (.tup ds)) : ∃ vs, (B, tupO vs) ∈ nw ∧ LsIn nw vs ds := by
  cases h with
  | tup a b => exact ⟨_, a, b⟩

/-- what the nine begins answer -/
theorem nine_ok : ∀ x ∈ nine, SeqAt.shaped (pd (.tup x.1)) = true ∧ x.1.length ≤ 3 ∧ PyData.eqv (pd (.tup x.1)) (pd (.tup [.str sK, .tup [.str sT]])) = isKT x.1 ∧
    ([pd (.tup [.str sK]), pd (.tup [])].any fun y => PyData.eqv y (pd (.tup x.1))) = isKE x.1 := by
  intro x h
  simp only [nine, List.mem_cons, List.not_mem_nil, or_false] at h
  rcases h with rfl | rfl | rfl | rfl | rfl | rfl | rfl | rfl | rfl
  all_goals exact ⟨by decide +kernel, by decide, by decide +kernel, by decide +kernel⟩
def tens : List (List DT) := [.none] :: nine.map (·.1)
theorem begF_tens {ds : List DT} {nb tb : Bool} (h : (ds, nb, tb) ∈ nine) (b : Bool) : begF ds b ∈ tens := by
  unfold begF
  split
  · exact .head _
  · exact .tail _ (List.mem_map_of_mem (f := (·.1)) h)
theorem tens_ok : ∀ ds ∈ tens, ds.length ≤ 3 ∧ ∀ d0 d1 r, ds = d0 :: d1 :: r → SeqAt.shaped (pd d1) = true ∧ PyData.eqv (pd d1) (pd (.tup [.str sT, .int 1])) = isT1 d1 := by
  intro ds h
  simp only [tens, nine, List.map_cons, List.map_nil, List.mem_cons, List.not_mem_nil, or_false] at h
  rcases h with rfl | rfl | rfl | rfl | rfl | rfl | rfl | rfl | rfl | rfl
  all_goals refine ⟨by decide, fun d0 d1 r e => ?_⟩
  all_goals cases e
  all_goals exact ⟨by decide +kernel, by decide +kernel⟩

section
variable {prog : Program} {w : World} {A : Around} {E : Value → Shared → Prop} {s : Shared} {g : Heap} {L l b : Addr} {m : Str → Option Value} {news n1 n2 : List (Addr × Obj)} {vs ws : List Value} {v : Value} {d e : DT} {ds es : List DT} {ns : List Int} {c : Bool} {n : Nat}
theorem my_eqD {Q : Value → Shared → Prop} (N : News g L s.heap news) (hx : LIn n1 v d) (s1 : ∀ q ∈ n1, q ∈ news) (hb : LIn n2 (.ref b) e) (s2 : ∀ q ∈ n2, q ∈ news) (h1 : SeqAt.shaped (pd d) = true) (h2 : SeqAt.shaped (pd e) = true) (hc : PyData.eqv (pd d) (pd e) = c)
    (hu : A.units + 64 < cLine) (h : Q (.bool c) s) : wpAny (model prog w) A (compareOp .Eq v (.ref b)) Q E s := by
  obtain ⟨as, ra⟩ := (hx.sub s1).reads N
  obtain ⟨bs, rb⟩ := (hb.sub s2).reads N
  exact eq_dataH ra rb h1 h2 hu (by rw [hc]; exact h)
theorem my_inD {Q : Value → Shared → Prop} (N : News g L s.heap news) (hx : LIn n1 v d) (s1 : ∀ q ∈ n1, q ∈ news) (hl : (l, listOf ws.toArray n) ∈ news) (hb : LsIn n2 ws es) (s2 : ∀ q ∈ n2, q ∈ news) (h1 : SeqAt.shaped (pd d) = true) (h2 : PyData.canLayAll0 (pds es) = true)
    (hc : ((pds es).any fun y => PyData.eqv y (pd d)) = c) (hu : A.units + 70 < cLine) (h : Q (.bool c) s) : wpAny (model prog w) A (compareOp .In v (.ref l)) Q E s := by
  obtain ⟨as, ra⟩ := (hx.sub s1).reads N
  obtain ⟨bs, rb⟩ := (hb.sub s2).reads N
  have q := SeqAt.depth_of_shaped h1
  refine SeqAt.in_list_reads (reads_list_at (N.get hl) rfl rfl (by simpa [W.listOf] using rb)) ra h2 (SeqAt.canLay_of_shaped h1) ?_ (by rw [hc]; exact h)
  have := Nat.min_le_right (PyData.depthAll (pds es)) (pd d).depth
  omega
theorem my_maxI {Q : Value → Shared → Prop} (hh : A.handled = none) (F : Fr g L s.heap m) (N : News g L s.heap news) (hl : s.heap.IsList l vs.toArray) (hi : IntsAre vs ns) (hne : 0 < ns.length)
    (h : ∀ h' M (t : Tok) tk, Fr g L h' m → News g L h' news → M ∈ ns → (∀ a, a ∈ ns → a ≤ M) → Q (.int M t) { s with heap := h', toks := tk }) : wpAny (model prog w) A (call (.builtin "max") [.ref l]) Q E s :=
  max_list_N hh F N hl hi hne h
theorem my_addD {Q : Value → Shared → Prop} (F : Fr g L s.heap m) (N : News g L s.heap news) (h1 : (l, tupO vs) ∈ news) (h2 : (b, tupO ws) ∈ news) (hz : vs.length + ws.length ≤ 100)
    (h : ∀ T h', Fr g L h' m → News g L h' ((T, tupO (vs ++ ws)) :: news) → Q (.ref T) { s with heap := h' }) : wpAny (model prog w) A (binaryOp .Add (.ref l) (.ref b)) Q E s := by
  refine add_tuples F N (News.isTup N h1) (News.isTup N h2) (fun e => ?_) (fun _ e => ?_) (fun _ _ h' F' N' => h _ h' F' N') (by rw [sizeLine_eq]; omega)
  · subst e
    exact h b s.heap F fun q hq => by
      rcases List.mem_cons.mp hq with rfl | hq
      · exact N _ h2
      · exact N _ hq
  · subst e
    exact h l s.heap F fun q hq => by
      rcases List.mem_cons.mp hq with rfl | hq
      · rw [List.append_nil]; exact N _ h1
      · exact N _ hq
theorem my_tupOf {Q : Value → Shared → Prop} (F : Fr g L s.heap m) (N : News g L s.heap news) (h1 : (l, listOf vs.toArray n) ∈ news) (hz : vs.length ≤ 100)
    (h : ∀ T h', Fr g L h' m → News g L h' ((T, tupO vs) :: news) → (∀ p ∈ news, p.1 < T) → Q (.ref T) { s with heap := h' }) : wpAny (model prog w) A (call (.type "tuple") [.ref l]) Q E s :=
  kde_tupleOf F N (News.isList N h1) (by simp; omega) (by simp) h
theorem my_neSame {Q : Value → Shared → Prop} (h : Q (.bool false) s) : wpAny (model prog w) A (compareOp .NotEq (.bool c) (.bool c)) Q E s := by
  cases c <;> exact ne_bool h
end
section
variable {w : World} {dp un : Nat} {gd : Option (List Code)} {cn : Str} {cs : Scope} {a : Addr} {ccd : Value} {cl : List (Str × Addr)} {outer : List Env} {A₀ : Around} {base h₀ : Heap} {L : Addr} {m : Str → Option Value} {s : Shared} {Q E : Value → Shared → Prop}
    {p : Program} {loose : List Str} {mean : ExcName → Option Value} {mg mb : Str → Option Value} {P : Addr} {vs : List Value} {ds : List DT} {b : Bool}
theorem C_startsB (B : Below A₀ base outer h₀) (F : Fr h₀ L s.heap m) (X : (KK w.params).In h₀) (T : Top p loose mean mg mb h₀) (hk : cs.kind = .function) (hd : dp + 1 < recursionLimit) (hu : un + 10 < cLine)
    (ht : IsTup s.heap P vs.toArray) (hD : DsIn s.heap vs ds) (hn : vs.length ≤ 100) (hb : startsN ds = b)
    (k : ∀ h' tk', s.heap.StaysIn h' → Q (.bool b) { s with heap := h', toks := tk' }) :
    wpAny (model PR w) (ktrTop dp un gd cn cs L a ccd cl outer) (call (.ref 91) [.ref P]) Q E s :=
  C_starts B F X T hk hd hu ht hD hn (by rw [hb]; exact k)
end

/-- what a drawn tree is, in a ledger -/
def TreeIn (new : List (Addr × Obj)) (R : Addr) (ds : List DT) : Prop :=
  ∃ (T : Addr) (vs : List Value) (c : Nat) (t1 t2 : Tok), (R, listOf #[.ref T, .int (levP ds) t1, .int (tyP ds) t2] c) ∈ new ∧ (T, tupO vs) ∈ new ∧ LsIn new vs ds
theorem TreeIn.sub {nw nw' : List (Addr × Obj)} (hs : ∀ q ∈ nw, q ∈ nw') {R : Addr} {ds : List DT} (h : TreeIn nw R ds) : TreeIn nw' R ds := by
  obtain ⟨T, vs, c, t1, t2, h1, h2, h3⟩ := h
  exact ⟨T, vs, c, t1, t2, hs _ h1, hs _ h2, h3.sub hs⟩
inductive PartsIn (nw : List (Addr × Obj)) : List Value → List (List DT) → Prop
  | nil : PartsIn nw [] []
  | cons {R : Addr} {ds : List DT} {ys : List Value} {ps : List (List DT)} : TreeIn nw R ds → PartsIn nw ys ps → PartsIn nw (.ref R :: ys) (ds :: ps)
theorem PartsIn.sub {nw nw' : List (Addr × Obj)} (hs : ∀ q ∈ nw, q ∈ nw') {ys : List Value} {ps : List (List DT)} (h : PartsIn nw ys ps) : PartsIn nw' ys ps := by
  induction h with
  | nil => exact .nil
  | cons a _ ih => exact .cons (a.sub hs) ih
theorem PartsIn.snoc {nw : List (Addr × Obj)} {ys : List Value} {ps : List (List DT)} {R : Addr} {ds : List DT} (h : PartsIn nw ys ps) (t : TreeIn nw R ds) : PartsIn nw (ys ++ [.ref R]) (ps ++ [ds]) := by
  induction h with
  | nil => exact .cons t .nil
  | cons a _ ih => exact .cons a ih
theorem PartsIn.length {nw : List (Addr × Obj)} {ys : List Value} {ps : List (List DT)} (h : PartsIn nw ys ps) : ys.length = ps.length := by
  induction h with
  | nil => rfl
  | cons _ _ ih => simp [ih]
theorem PartsIn.get {nw : List (Addr × Obj)} {ys : List Value} {ps : List (List DT)} (h : PartsIn nw ys ps) : ∀ {i : Nat} {v : Value}, ys[i]? = some v → ∃ R ds, v = .ref R ∧ ps[i]? = some ds ∧ TreeIn nw R ds := by
  induction h with
  | nil => intro i v e; simp at e
  | cons a _ ih =>
    intro i v e
    cases i with
    | zero => cases e; exact ⟨_, _, rfl, rfl, a⟩
    | succ i => obtain ⟨R, ds, e1, e2, e3⟩ := ih (i := i) (v := v) (by simpa using e); exact ⟨R, ds, e1, by simpa using e2, e3⟩
def bnd (deep : Nat) : Nat := 6 * (2 ^ (deep + 1) - 1)
theorem bnd_succ (d : Nat) : bnd (d + 1) = 6 + 2 * bnd d := by
  unfold bnd
  have h1 : 2 ^ (d + 1 + 1) = 2 * 2 ^ (d + 1) := by rw [Nat.pow_succ]; omega
  have h2 : 0 < 2 ^ (d + 1) := Nat.pow_pos (by decide)
  omega
theorem cnts_snoc (ps : List (List DT)) (ds : List DT) : cnts ((ps ++ [ds]).map DT.tup) = cnts (ps.map DT.tup) + (1 + cnts ds) := by
  rw [List.map_append, cnts_append]
  show _ + (cnt (.tup ds) + 0) = _
  rfl
theorem tree_get {nw : List (Addr × Obj)} {R : Addr} {ds : List DT} (h : TreeIn nw R ds) : ∃ (T : Addr) (vs : List Value) (c : Nat) (t1 t2 : Tok), (R, listOf #[.ref T, .int (levP ds) t1, .int (tyP ds) t2] c) ∈ nw ∧ LIn nw (.ref T) (.tup ds) := by
  obtain ⟨T, vs, c, t1, t2, h1, h2, h3⟩ := h
  exact ⟨T, vs, c, t1, t2, h1, .tup h2 h3⟩
theorem memOfL {g h : Heap} {src L' R T : Addr} {nw : List (Addr × Obj)} {x y a b : Int} {tx ty t1 t2 : Tok} {n c : Nat} (N : News g L' h nw) (hs : (src, pool x y tx ty n) ∈ nw) (hm : (R, listOf #[.ref T, .int a t1, .int b t2] c) ∈ nw) : (R, listOf #[.ref T, .int a t1, .int b t2] c) ∈ noSrc src nw := by
  refine List.mem_filter.mpr ⟨hm, ?_⟩
  have : R ≠ src := fun e => by
    have h1 := (N _ hm).1
    have h2 := (N _ hs).1
    dsimp only at h1 h2
    rw [e, h2] at h1
    have hc := congrArg Obj.data (Option.some.inj h1)
    injection hc with hc _
    have := congrArg Array.size hc
    simp at this
  simpa using this
theorem TreeIn.noSrc {g h : Heap} {src L' R : Addr} {nw : List (Addr × Obj)} {x y : Int} {tx ty : Tok} {n : Nat} {ds : List DT} (N : News g L' h nw) (hs : (src, pool x y tx ty n) ∈ nw) (ht : TreeIn nw R ds) : TreeIn (noSrc src nw) R ds := by
  obtain ⟨T, vs, c, t1, t2, h1, h2, h3⟩ := ht
  have mm := memOf N hs
  exact ⟨T, vs, c, t1, t2, memOfL N hs h1, mm _ _ h2, h3.map mm⟩
section
variable {prog : Program} {w : World} {A : Around} {E : Value → Shared → Prop} {s : Shared} {g : Heap} {L l b : Addr} {news n1 n2 : List (Addr × Obj)} {ws : List Value} {v : Value} {d1 : DT} {ds0 : List DT} {nb tb : Bool} {n : Nat}
theorem U_in9 {Q : Value → Shared → Prop} (N : News g L s.heap news) (h9 : (ds0, nb, tb) ∈ nine) (hx : LIn n1 v (.tup ds0)) (s1 : ∀ q ∈ n1, q ∈ news) (hl : (l, W.listOf ws.toArray n) ∈ news) (hb : LsIn news ws [.tup [.str sK], .tup []])
    (hu : A.units + 70 < cLine) (h : Q (.bool (isKE ds0)) s) : wpAny (model prog w) A (compareOp .In v (.ref l)) Q E s := by
  obtain ⟨a, b, c, d⟩ := nine_ok _ h9
  exact my_inD N hx s1 hl hb (fun _ h => h) a (by decide +kernel) d hu h
theorem U_eq9 {Q : Value → Shared → Prop} (N : News g L s.heap news) (h9 : (ds0, nb, tb) ∈ nine) (hx : LIn n1 v (.tup ds0)) (s1 : ∀ q ∈ n1, q ∈ news) (hb : LIn news (.ref b) (.tup [.str sK, .tup [.str sT]]))
    (hu : A.units + 70 < cLine) (h : Q (.bool (isKT ds0)) s) : wpAny (model prog w) A (compareOp .Eq v (.ref b)) Q E s := by
  obtain ⟨a, b, c, d⟩ := nine_ok _ h9
  exact my_eqD N hx s1 hb (fun _ h => h) a (by decide +kernel) c (by omega) h
theorem U_eqT {Q : Value → Shared → Prop} (N : News g L s.heap news) (h1 : SeqAt.shaped (pd d1) = true) (h2 : PyData.eqv (pd d1) (pd (.tup [.str sT, .int 1])) = isT1 d1) (hx : LIn n1 v d1) (s1 : ∀ q ∈ n1, q ∈ news) (hb : LIn news (.ref b) (.tup [.str sT, .int 1]))
    (hu : A.units + 70 < cLine) (h : Q (.bool (isT1 d1)) s) : wpAny (model prog w) A (compareOp .Eq v (.ref b)) Q E s :=
  my_eqD N hx s1 hb (fun _ h => h) h1 (by decide +kernel) h2 (by omega) h
end
open LCg in
/-- over range(n), n drawn -/
theorem comp_rangeN {prog : Program} {w : World} {A : Around} {E : Value → Shared → Prop} {s : Shared} {h₀ : Heap} {L : Addr} {m : Str → Option Value} {env : Env} {elt iter : Expr} {x : Str} {px : Pos} {scope : Scope} {cl : List (Str × Addr)} {pos : Pos} {Q : Value → Shared → Prop} (K : Nat → List Value → List (Addr × Obj) → Prop) (M : Nat) (hM : M ≤ 100) (hh : A.handled = none)
    (F₀ : Fr h₀ L s.heap m)
    (hclos : closureFor scope env = pure cl) (hcell : ∀ y ∈ scope.names, y.2 ≠ .cell) (hkind : scope.kind = .function)
    (hnames : ∀ y ∈ scope.names, y.2 = .local → scope.names.lookup y.1 = some .local) (hx : scope.names.lookup x = some .local)
    (hit : ∀ Q' : Value → Shared → Prop, (∀ (n : Nat) r t u v s₁ news, n ≤ M → Fr h₀ L s₁.heap m → News h₀ L s₁.heap news → IsRange s₁.heap r 0 (n : Int) 1 t u v → K 0 [] news → (∃ h tk, s₁ = { s with heap := h, toks := tk }) → Q' (.ref r) s₁) → wpAny (model prog w) A (eval iter env) Q' E s)
    (turn : ∀ (s₂ : Shared), (∃ h tk, s₂ = { s with heap := h, toks := tk }) → ∀ i t ys nw I oI C oC D m₂ h tk (E' : Value → Shared → Prop), i < M → K i ys nw → NsObj oC m₂ → m₂ x = some (.int (i : Int) t) → Fr h₀ L h m → News h₀ L h ((I, oI) :: (C, oC) :: (D, lst ys) :: nw) → Off3 I C D nw → ((@Ne Nat I C) ∧ (@Ne Nat I D) ∧ (@Ne Nat C D)) →
      wpAny (model prog w) A (eval elt (compEnvC scope cl C env)) (CompEnd h₀ L m { s₂ with heap := h, toks := tk } I oI C oC D (lst ys) (fun _ => True) (fun y nw' => K (i + 1) (ys ++ [y]) nw')) E' { s₂ with heap := h, toks := tk })
    (done : ∀ (s₂ : Shared), (∃ h tk, s₂ = { s with heap := h, toks := tk }) → ∀ n ys nw D h tk, n ≤ M → K n ys nw → Fr h₀ L h m → News h₀ L h ((D, lst ys) :: nw) → Off1 D nw → Q (.ref D) { s₂ with heap := h, toks := tk })
    (hs : ∀ x, foldedSetIterable iter env x = pure x := by intro _; rfl) :
    wpAny (model prog w) A (eval (.ListComp elt [⟨.Name x px, iter, [], 0⟩] scope pos) env) Q E s := by
  refine ListComp_U F₀ hclos hcell hkind hnames hx (hit _ fun n r t u v s₁ nw hn F N hr k0 hs₁ => ?_) hs
  obtain ⟨hq, tq, rfl⟩ := hs₁
  refine CompSrc.range (n := n) hh F N hr (small_one (by omega) (by omega) (by omega) (by omega)) (by rw [rangeSize_one]; split <;> omega) (by rw [sizeLine_eq]; omega) fun g => ?_
  refine restU K n (fun i v ys nw I oI C oC D m₂ h tk E' hi hv hK hC hx2 => ?_) (fun ys nw hK D h tk F' N' o => done { s with heap := g, toks := tq } ⟨g, tq, rfl⟩ n ys nw D h tk hn hK F' N' o) n 0 [] nw (by omega) k0
  obtain ⟨t, rfl⟩ := hv
  rw [Int.zero_add] at hx2
  exact turn _ ⟨_, _, rfl⟩ i t ys nw I oI C oC D m₂ h tk E' (Nat.lt_of_lt_of_le hi hn) hK hC hx2
theorem takeS {α β : Type} {f : α → β} {ps : List α} {i : Nat} {d : α} (h : ps[i]? = some d) : (ps.take (i + 1)).map f = (ps.take i).map f ++ [f d] := by
  rw [List.take_add_one, h]; simp
theorem my_itemC {prog : Program} {w : World} {A : Around} {E : Value → Shared → Prop} {s : Shared} {value slice : PySem.Expr} {l : Addr} {vs : List Value} {k : Int} {u : Tok} {v : Value} {Q : Value → Shared → Prop}
    (hl : s.heap.IsList l vs.toArray) (h0 : 0 ≤ k) (hx : vs[k.toNat]? = some v) (hln : vs.length ≤ 100) (h : Q v s)
    (hs : subscripted slice false (.ref l) (.int k u) = operate [.ref l, .int k u] (getItem (.ref l) (.int k u)) := by with_unfolding_all rfl) :
    wpAny (model prog w) A (subscriptTail value slice (.ref l) (.int k u)) Q E s := by
  have hlt : k.toNat < vs.length := (List.getElem?_eq_some_iff.mp hx).1
  refine my_item hl h0 (by omega) hln (fun v' e => ?_) hs
  rw [hx] at e
  cases e
  exact h
theorem my_inNeg {prog : Program} {w : World} {A : Around} {E : Value → Shared → Prop} {s : Shared} {l : Addr} {vs : List Value} {ns : List Int} {k : Int} {t : Tok} {Q : Value → Shared → Prop} (hl : s.heap.IsList l vs.toArray) (hi : IntsAre vs ns) (hk : k < 0) (hn : ∀ a ∈ ns, 0 ≤ a)
    (h : Q (.bool false) s) : wpAny (model prog w) A (compareOp .In (.int k t) (.ref l)) Q E s := by
  refine in_list_ints hl hi ?_
  rw [show (ns.any (· == k)) = false from List.any_eq_false.mpr fun a ha => by
    have := hn a ha
    simp; omega]
  exact h
theorem mid_bool {M : Model} {A : Around} {E : Value → Shared → Prop} {s : Shared} {g : Heap} {L : Addr} {m : Str → Option Value} {news : List (Addr × Obj)} {x : Sem Value} {Q : Value → Shared → Prop} (_ : Fr g L s.heap m) (_ : News g L s.heap news) (b : Bool)
    (step : ∀ (Q' : Value → Shared → Prop), (∀ h' tk', Fr g L h' m → News g L h' news → Q' (.bool b) { s with heap := h', toks := tk' }) → wpAny M A x Q' E s) (k : ∀ h' tk', Fr g L h' m → News g L h' news → Q (.bool b) { s with heap := h', toks := tk' }) : wpAny M A x Q E s := step Q k
def extraB : List DT → Bool
  | _ :: d :: _ => isT1 d
  | _ => false
theorem extraB_is : ∀ ds : List DT, extraF ds = if extraB ds = true then 1 else 0
  | [] => rfl
  | [_] => rfl
  | _ :: _ :: _ => rfl
theorem my_len0 {prog : Program} {w : World} {A : Around} {E : Value → Shared → Prop} {s : Shared} {l : Addr} {Q : Value → Shared → Prop} (hl : IsTup s.heap l (List.toArray [])) (h : ∀ t tk', Q (.int 0 t) { s with toks := tk' }) : wpAny (model prog w) A (call (.builtin "len") [.ref l]) Q E s :=
  my_lenT (vs := []) hl (by decide) h
theorem my_len1 {prog : Program} {w : World} {A : Around} {E : Value → Shared → Prop} {s : Shared} {l : Addr} {v : Value} {Q : Value → Shared → Prop} (hl : IsTup s.heap l (List.toArray [v])) (h : ∀ t tk', Q (.int 1 t) { s with toks := tk' }) : wpAny (model prog w) A (call (.builtin "len") [.ref l]) Q E s :=
  my_lenT (vs := [v]) hl (Nat.le_of_ble_eq_true rfl) h
theorem nodes_is {xs : List Int} {M : Int} {ds : List DT} (hm : M ∈ [0] ++ xs ++ [if extraB ds = true then 1 else 0]) (hu : ∀ a, a ∈ [0] ++ xs ++ [if extraB ds = true then 1 else 0] → a ≤ M) : M = max (mx xs) (extraF ds) := by
  rw [extraB_is]
  exact mx_is hm hu (by split <;> decide)
section
variable {w : World} {dp un : Nat} {gd : Option (List Code)} {cn : Str} {cs : Scope} {a : Addr} {ccd : Value} {cl : List (Str × Addr)} {outer : List Env} {A₀ : Around} {base h₀ : Heap} {L : Addr} {m : Str → Option Value} {s : Shared} {Q E : Value → Shared → Prop}
    {p : Program} {loose : List Str} {mean : ExcName → Option Value} {mg mb : Str → Option Value} {P : Addr} {vs : List Value} {ds : List DT} {b : Bool} {news n1 : List (Addr × Obj)}
theorem U_starts (B : Below A₀ base outer h₀) (F : Fr h₀ L s.heap m) (X : (KK w.params).In h₀) (T : Top p loose mean mg mb h₀) (hk : cs.kind = .function) (hd : dp + 1 < recursionLimit) (hu : un + 10 < cLine)
    (N : News h₀ L s.heap news) (hm : (P, tupO vs) ∈ news) (hT : LsIn n1 vs ds) (s1 : ∀ q ∈ n1, q ∈ news) (hn : vs.length ≤ 100) (hb : startsN ds = b)
    (k : ∀ h' tk', Fr h₀ L h' m → News h₀ L h' news → Q (.bool b) { s with heap := h', toks := tk' }) :
    wpAny (model PR w) (ktrTop dp un gd cn cs L a ccd cl outer) (call (.ref 91) [.ref P]) Q E s :=
  C_startsB B F X T hk hd hu (News.isTup N hm) (LsIn.din (g := h₀) (L := L) (fun q hq => (N q (s1 q hq)).1) hT) hn hb fun h' tk' st => k h' tk' (stayF F st) (stayN N st)
theorem U_typed (B : Below A₀ base outer h₀) (F : Fr h₀ L s.heap m) (X : (KK w.params).In h₀) (T : Top p loose mean mg mb h₀) (hk : cs.kind = .function) (hd : dp + 1 < recursionLimit) (hu : un + 10 < cLine)
    (N : News h₀ L s.heap news) (hm : (P, tupO vs) ∈ news) (hT : LsIn n1 vs ds) (s1 : ∀ q ∈ n1, q ∈ news) (hn : vs.length ≤ 100) (hb : typedN ds = b)
    (k : ∀ h' tk', Fr h₀ L h' m → News h₀ L h' news → Q (.bool b) { s with heap := h', toks := tk' }) :
    wpAny (model PR w) (ktrTop dp un gd cn cs L a ccd cl outer) (call (.ref 103) [.ref P]) Q E s :=
  C_typedB B F X T hk hd hu (News.isTup N hm) (LsIn.din (g := h₀) (L := L) (fun q hq => (N q (s1 q hq)).1) hT) hn hb fun h' tk' st => k h' tk' (stayF F st) (stayN N st)
end
inductive HaltOn : Nat → Prop
  | on (n : Nat) : HaltOn n
end
/- part E12 -/
section
open PySem PySem.W PyProof.Rows PySem.Calls PySem.Spec
noncomputable abbrev envT (L' : Addr) : Env := envOfC (Str.ofString "_law_tree") (fdAt 26).2.2 L' 176 (.ref 175)
/-- the purse lies in a ledger -/
def PoolIn (src : Addr) (nw : List (Addr × Obj)) : Prop := ∃ x y tx ty n, (src, pool x y tx ty n) ∈ nw ∧ 0 ≤ x ∧ 0 ≤ y ∧ y < 2147483647
theorem PoolIn.sub {src : Addr} {nw nw' : List (Addr × Obj)} (h : PoolIn src nw) (hs : ∀ q ∈ nw, q ∈ nw') : PoolIn src nw' := by
  obtain ⟨x, y, tx, ty, n, h, r⟩ := h
  exact ⟨x, y, tx, ty, n, hs _ h, r⟩
/-- what is done with the tree -/
def TreeK (g : Heap) (L' src : Addr) (top : Nat) (sg : Array GenState) (sd : Drawn) (so : OsState) (Q : Flow → Shared → Prop) : Prop :=
  ∀ R ds nw h tk m, Fr g L' h m → News g L' h nw → PoolIn src nw → TreeIn nw R ds → 1 + cnts ds ≤ top → Q (.ret (.ref R)) ⟨h, sg, sd, tk, so⟩
theorem levs_pos (ps : List (List DT)) : ∀ z ∈ ps.map levP, 0 ≤ z := fun z hz => by
  obtain ⟨d, _, rfl⟩ := List.mem_map.mp hz
  have := levs_nn d
  unfold levP
  split
  · exact Int.add_nonneg (by decide) this
  · exact Int.add_nonneg (by decide) this
theorem begT1 {ds : List DT} {ys : List Value} (h1 : isKE ds = true) (h2 : ys.isEmpty = false) : begF ds (!ys.isEmpty) = [.none] := if_pos (by rw [h1, h2]; rfl)
theorem begT2 {ds : List DT} {b : Bool} (h : isKT ds = true) : begF ds b = [.none] := if_pos (by rw [h, Bool.or_true])
theorem begE1 {ds : List DT} {b : Bool} (h1 : isKE ds = false) (h : isKT ds = false) : begF ds b = ds := if_neg (by rw [h1, h, Bool.false_and]; decide)
theorem begE2 {ds : List DT} {ys : List Value} (h1 : ys.isEmpty = true) (h : isKT ds = false) : begF ds (!ys.isEmpty) = ds := if_neg (by rw [h1, h, Bool.not_true, Bool.and_false]; decide)
theorem newN {g h h' : Heap} {L' : Addr} {m : Str → Option Value} {new : List (Addr × Obj)} (F : Fr g L' h m) (hn : NewIn h h' new) : News g L' h' new := fun q hq => by
  obtain ⟨h1, h2⟩ := hn q hq
  refine ⟨h1, fun e => ?_, ?_⟩
  · obtain ⟨oL, es, ep, hL, _⟩ := F.ns
    rw [e, hL] at h2; cases h2
  · cases z : g.get? q.1 with
    | none => rfl
    | some o => have := F.keep _ _ z; rw [h2] at this; cases this
theorem newsApp {g h : Heap} {L' : Addr} {a b : List (Addr × Obj)} (N : News g L' h a) (M : News g L' h b) : News g L' h (a ++ b) := fun q hq => (List.mem_append.mp hq).elim (N q) (M q)
/-- what a call of the tree's def tells -/
def TreeSpec (deep : Nat) : Prop :=
  ∀ {w : World} {dp un : Nat} {gd : Option (List Code)} {cn : Str} {cs : Scope} {a : Addr} {ccd : Value} {cl : List (Str × Addr)} {outer : List Env} {A₀ : Around} {base h₀ : Heap} {L : Addr} {m : Str → Option Value} {s : Shared} {Q E : Value → Shared → Prop}
    {p : Program} {loose : List Str} {mean : ExcName → Option Value} {mg mb : Str → Option Value} {src : Addr} {x y : Int} {tx ty : Tok} {n : Nat} {dI : Int} {td : Tok}
    (_ : dI = (deep : Int)) (_ : Below A₀ base outer h₀) (_ : Fr h₀ L s.heap m) (_ : (KK w.params).In h₀) (_ : Top p loose mean mg mb h₀) (_ : cs.kind = .function) (_ : dp + 4 * deep + 10 < recursionLimit) (_ : un + 20 * deep + 200 < cLine)
    (_ : News h₀ L s.heap [(src, pool x y tx ty n)]) (_ : 0 ≤ x) (_ : 0 ≤ y) (_ : y < 2147483647)
    (_ : ∀ R new ds h' tk', NewIn s.heap h' new → StaysBut src s.heap h' → PoolAt src h' → TreeIn new R ds → 1 + cnts ds ≤ bnd deep → Q (.ref R) { s with heap := h', toks := tk' }),
    wpAny (model PR w) (ktrTop dp un gd cn cs L a ccd cl outer) (call (.ref 176) [.ref src, .int dI td]) Q E s
def PartsK (L' : Addr) (o1 o2 : Obj) (src : Addr) (new : List (Addr × Obj)) (d : Nat) (i : Nat) (ys : List Value) (nw : List (Addr × Obj)) : Prop :=
  ∃ (x y : Int) (tx ty : Tok) (n : Nat) (rest : List (Addr × Obj)) (ps : List (List DT)), nw = (L' + 1 + 1, o1) :: (L' + 1, o2) :: (src, pool x y tx ty n) :: rest ∧ 0 ≤ x ∧ 0 ≤ y ∧ y < 2147483647 ∧
    (∀ q ∈ new, q ∈ rest) ∧ (∀ q ∈ rest, q.1 ≠ src) ∧ (∀ q ∈ rest, @Ne Nat q.1 (L' + 1)) ∧ (∀ q ∈ rest, @Ne Nat q.1 (L' + 1 + 1)) ∧ PartsIn rest ys ps ∧ ps.length = i ∧ cnts (ps.map .tup) ≤ i * bnd d
theorem PartsK.start {L' : Addr} {o1 o2 : Obj} {src : Addr} {new : List (Addr × Obj)} {d : Nat} {x y : Int} {tx ty : Tok} {n : Nat} (h1 : 0 ≤ x) (h2 : 0 ≤ y) (h3 : y < 2147483647) (h4 : ∀ q ∈ new, q.1 ≠ src) (h5 : ∀ q ∈ new, @Ne Nat q.1 (L' + 1)) (h6 : ∀ q ∈ new, @Ne Nat q.1 (L' + 1 + 1)) :
    PartsK L' o1 o2 src new d 0 [] ((L' + 1 + 1, o1) :: (L' + 1, o2) :: (src, pool x y tx ty n) :: new) :=
  ⟨x, y, tx, ty, n, new, [], rfl, h1, h2, h3, fun _ h => h, h4, h5, h6, .nil, rfl, Nat.zero_le _⟩
theorem rangeNat {h : Heap} {r : Addr} {v : Int} {t u w : Tok} (hR : IsRange h r 0 v 1 t u w) (h0 : 0 ≤ v) : IsRange h r 0 ((v.toNat : Nat) : Int) 1 t u w := by rw [Int.toNat_of_nonneg h0]; exact hR
theorem mix6 {g h : Heap} {L : Addr} {a b c d e f : Addr × Obj} {new rest : List (Addr × Obj)} (M : News g L h new) (N : News g L h (a :: b :: c :: d :: e :: f :: rest)) : News g L h (a :: b :: c :: d :: e :: f :: (new ++ rest)) :=
  cb_drop (newsApp M N) fun q hq => by
    simp only [List.mem_cons, List.mem_append] at hq ⊢
    rcases hq with h | h | h | h | h | h | h | h <;> simp [h]
theorem offMix {I C D src : Addr} {a b : Addr × Obj} {o o' : Obj} {new rest : List (Addr × Obj)} (off : LCg.Off3 I C D (a :: b :: (src, o) :: rest)) (hn : ∀ q ∈ new, q.1 ≠ I ∧ q.1 ≠ C ∧ q.1 ≠ D) : LCg.Off3 I C D (a :: b :: (src, o') :: (new ++ rest)) :=
  ⟨off.1, off.2.1, off.2.2.1, LCg.Off3.of fun p hp => (List.mem_append.mp hp).elim (hn p) (LCg.Off3.mem off.2.2.2 p)⟩
theorem newNe {g h h' : Heap} {L b : Addr} {o : Obj} {new news : List (Addr × Obj)} (hn : NewIn h h' new) (N : News g L h news) (hm : (b, o) ∈ news) : ∀ q ∈ new, @Ne Nat q.1 b := fun q hq e => by
  have h1 := (hn q hq).2
  rw [show q.1 = b from e, (N _ hm).1] at h1; cases h1
theorem bnd_ge (d : Nat) : 6 ≤ bnd d := by
  cases d with
  | zero => decide
  | succ d => rw [bnd_succ]; omega
section
variable {w : World} {dp un : Nat} {gd : Option (List Code)} {cn : Str} {cs : Scope} {a : Addr} {ccd : Value} {cl : List (Str × Addr)} {outer : List Env} {base g h : Heap} {L L' : Addr} {m : Str → Option Value} {sg : Array GenState} {sd : Drawn} {tk : Nat} {so : OsState} {Q : Flow → Shared → Prop}
    {p : Program} {loose : List Str} {mean : ExcName → Option Value} {mg mb : Str → Option Value} {src : Addr} {nw : List (Addr × Obj)} {T D Bg : Addr} {nb tb : Bool} {vs ys vsB : List Value} {ds ds1 : List DT} {ps : List (List DT)} {c top : Nat} {nI yI : Int} {tn ty : Tok}
abbrev scP : Scope := { kind := .function, names := [(Str.ofString ".0", .local), (Str.ofString "part", .local)], isGenerator := false, isCoroutine := false }
/-- what is taken of each part -/
inductive Outs (P : Value → List DT → Prop) : List Value → List (List DT) → Prop
  | nil : Outs P [] []
  | snoc {vs : List Value} {ps : List (List DT)} {v : Value} {d : List DT} : Outs P vs ps → P v d → Outs P (vs ++ [v]) (ps ++ [d])
theorem Outs.ints {f : List DT → Int} {vs : List Value} {ps : List (List DT)} (h : Outs (fun v d => ∃ t, v = .int (f d) t) vs ps) : IntsAre vs (ps.map f) := by
  induction h with
  | nil => exact .nil
  | snoc _ b ih => obtain ⟨t, rfl⟩ := b; rw [List.map_append]; exact ih.append (.cons _ _ .nil)
theorem Outs.length {P : Value → List DT → Prop} {vs : List Value} {ps : List (List DT)} (h : Outs P vs ps) : vs.length = ps.length := by
  induction h with
  | nil => rfl
  | snoc _ _ ih => simp [ih]
set_option maxHeartbeats 4000000 in
theorem comp_part (X : (KK w.params).In g) {k : Int} (P : Value → List DT → Prop) (hk : 0 ≤ k) (hP : ∀ T t1 t2 ds, LIn nw (.ref T) (.tup ds) → ∃ v, ([.ref T, .int (levP ds) t1, .int (tyP ds) t2] : List Value)[k.toNat]? = some v ∧ P v ds) {u : Nat} {q1 q2 q3 q4 q5 q6 : Pos} {QV : Value → Shared → Prop}
    (F : Fr g L' h m) (e4 : m (Str.ofString "parts") = some (.ref D)) (N : News g L' h nw) (hD : (D, W.listOf ys.toArray c) ∈ nw) (hps : PartsIn nw ys ps) (hl2 : ys.length ≤ 2)
    (q : ∀ out l h' tk', Outs P out ps → out.length ≤ 2 → Fr g L' h' m → News g L' h' ((l, LCg.lst out) :: nw) → (∀ p ∈ nw, @Ne Nat p.1 l) → QV (.ref l) ⟨h', sg, sd, tk', so⟩) :
    wpAny (model PR w) ((ktrTop dp un gd cn cs L a ccd cl outer).deeper (envT L')) (eval (.ListComp (.Subscript (.Name (Str.ofString "part") q1) (.Constant (.int k) u q2) q3) [⟨.Name (Str.ofString "part") q4, .Name (Str.ofString "parts") q5, [], 0⟩] { kind := .function, names := [(Str.ofString ".0", .local), (Str.ofString "part", .local)], isGenerator := false, isCoroutine := false } q6) (envT L')) QV (fun _ _ => False) ⟨h, sg, sd, tk, so⟩ := by
  refine comp_list (cl := []) (fun i out nw' => nw' = nw ∧ Outs P out (ps.take i)) (Nat.le_trans hl2 (by decide)) (by rfl) F N hD (by with_unfolding_all rfl) (by decide) (by rfl) (by decide) (by rfl) ?_ ⟨rfl, .nil⟩ ?_ ?_
  · intro Q' q
    refine opqL F [(Str.ofString "parts", .ref D)] (fc e4 fn) ?_
    intro m₀ F0
    clear F
    k_steps
    exact q
  · clear F N q
    rintro s₂ ⟨hh, rfl⟩ i v out nw' I oI C oC D9 m₂ h tk E' hv ⟨rfl, hout⟩ hC hx F N off ne
    obtain ⟨R, dsR, rfl, hdsR, hTR⟩ := hps.get hv
    obtain ⟨T, vsT, cT, t1, t2, hR, hT⟩ := tree_get hTR
    obtain ⟨v, hv1, hv2⟩ := hP _ t1 t2 _ hT
    dsimp only
    have z1 : StopAt "subscriptTail" := .mk
    k_steps
    unfold Halt
    refine my_itemC (News.isList N (.tail _ (.tail _ (.tail _ hR)))) hk hv1 (Nat.le_of_ble_eq_true rfl) ?_ (by with_unfolding_all rfl)
    exact ⟨_, _, _, rfl, by assumption, by assumption, off, .inr ⟨_, hD, rfl, _, rfl⟩, rfl, by rw [List.take_add_one, hdsR]; exact .snoc hout hv2⟩
  · rintro out nw' D9 h tk ⟨rfl, hout⟩ F N off
    rw [hps.length, List.take_length] at hout
    exact q _ _ _ _ hout (by rw [hout.length, ← hps.length]; exact hl2) F N (off1_mem off)
set_option maxHeartbeats 4000000 in
theorem tree7 (B : Below (ktrTop dp un gd cn cs L a ccd cl outer) base (envX cn cs L a ccd cl :: outer) g) (X : (KK w.params).In g) (Tp : Top p loose mean mg mb g) (hd : dp + 10 < recursionLimit) (hu : un + 200 < cLine)
    (F : Fr g L' h m) (e1 : m (Str.ofString "tree") = some (.ref T)) (e2 : m (Str.ofString "is_node") = some (.bool nb)) (e3 : m (Str.ofString "is_told") = some (.bool tb)) (e5 : m (Str.ofString "nodes") = some (.int nI tn)) (e6 : m (Str.ofString "typed") = some (.int yI ty))
    (N : News g L' h nw) (hP : PoolIn src nw) (hT : (T, tupO vs) ∈ nw) (hTs : LsIn nw vs ds) (h3 : levP ds = nI + b2i nb) (h4 : tyP ds = yI + b2i tb) (h5 : 1 + cnts ds ≤ top) (k : TreeK g L' src top sg sd so Q) :
    wpAny (model PR w) ((ktrTop dp un gd cn cs L a ccd cl outer).deeper (envT L')) (execs ((fdAt 26).2.1.drop 7) (envT L')) Q (fun _ _ => False) ⟨h, sg, sd, tk, so⟩ := by
  refine opqL F [(Str.ofString "tree", .ref T), (Str.ofString "is_node", .bool nb), (Str.ofString "is_told", .bool tb), (Str.ofString "nodes", .int nI tn), (Str.ofString "typed", .int yI ty)] (fc e1 (fc e2 (fc e3 (fc e5 (fc e6 fn))))) ?_
  intro m₀ F0
  clear F e1 e2 e3 e5 e6
  k_steps
  exact k _ ds _ _ _ _ (by assumption) (by assumption) (hP.sub fun _ h => .tail _ h) ⟨T, vs, 0, _, _, by rw [h3, h4]; exact .head _, .tail _ hT, hTs.sub fun _ h => .tail _ h⟩ h5
set_option maxHeartbeats 4000000 in
theorem tree6 (B : Below (ktrTop dp un gd cn cs L a ccd cl outer) base (envX cn cs L a ccd cl :: outer) g) (X : (KK w.params).In g) (Tp : Top p loose mean mg mb g) (hd : dp + 10 < recursionLimit) (hu : un + 200 < cLine)
    (F : Fr g L' h m) (e1 : m (Str.ofString "tree") = some (.ref T)) (e2 : m (Str.ofString "is_node") = some (.bool nb)) (e3 : m (Str.ofString "is_told") = some (.bool tb)) (e4 : m (Str.ofString "parts") = some (.ref D)) (e5 : m (Str.ofString "nodes") = some (.int nI tn)) (e6 : m (Str.ofString "typed") = some (.int yI ty))
    (N : News g L' h nw) (hP : PoolIn src nw) (hT : (T, tupO vs) ∈ nw) (hTs : LsIn nw vs ds) (hD : (D, W.listOf ys.toArray c) ∈ nw) (hps : PartsIn nw ys ps) (hl : vs.length ≤ 100) (hl2 : ys.length ≤ 2)
    (h1 : startsN ds = nb) (h2 : typedN ds = tb) (h3 : levP ds = nI + b2i nb) (h4 : tyP ds = yI + b2i tb) (h5 : 1 + cnts ds ≤ top) (k : TreeK g L' src top sg sd so Q) :
    wpAny (model PR w) ((ktrTop dp un gd cn cs L a ccd cl outer).deeper (envT L')) (execs ((fdAt 26).2.1.drop 6) (envT L')) Q (fun _ _ => False) ⟨h, sg, sd, tk, so⟩ := by
  refine opqL F [(Str.ofString "tree", .ref T), (Str.ofString "is_node", .bool nb), (Str.ofString "is_told", .bool tb), (Str.ofString "parts", .ref D), (Str.ofString "nodes", .int nI tn), (Str.ofString "typed", .int yI ty)] (fc e1 (fc e2 (fc e3 (fc e4 (fc e5 (fc e6 fn)))))) ?_
  intro m₀ F0
  clear F e1 e2 e3 e4 e5 e6
  have zz0 : StopAt "call ref" := .mk
  have zz1 : StopAt "eval ListComp" := .mk
  have zz2 : StopAt "compareOp NotEq bool bool" := .mk
  have zz3 : StopAt "compareOp In int ref" := .mk
  have zz4 : StopAt "execs cons" := .mk
  have hd1 : dp + 1 + 1 < recursionLimit := Nat.lt_trans (Nat.add_lt_add_left (by decide) dp) hd
  have hu1 : un + 3 + 10 < cLine := Nat.lt_trans (Nat.add_lt_add_left (by decide) un) hu
  k_steps
  unfold Halt
  refine' U_starts ?kB ?kF ?kX ?kT rfl hd1 hu1 ?kN hT hTs (fun _ h => h) hl h1 ?_
  (case kB => k_asm); (case kF => k_asm); (case kX => k_asm); (case kT => k_asm); (case kN => k_asm)
  intro ha tka Fa Na
  dsimp only
  k_sweep
  k_steps
  unfold Halt
  refine my_neSame ?_
  k_steps
  unfold Halt
  refine' U_typed ?kB ?kF ?kX ?kT rfl hd1 hu1 ?kN hT hTs (fun _ h => h) hl h2 ?_
  (case kB => k_asm); (case kF => k_asm); (case kX => k_asm); (case kT => k_asm); (case kN => k_asm)
  intro hb tkb Fb Nb
  dsimp only
  k_sweep
  k_steps
  unfold Halt
  refine my_neSame ?_
  k_steps
  unfold Halt
  refine' comp_part X (fun v d => ∃ t, v = .int (levP d) t) (by decide) ?hP ?kF ?e4 ?kN hD hps hl2 ?_
  (case hP => exact fun T t1 t2 ds _ => ⟨_, rfl, _, rfl⟩); (case kF => k_asm); (case e4 => exact rfl); (case kN => k_asm)
  intro out l hc tkc ho hol Fc Nc nec
  dsimp only
  k_sweep
  k_steps
  unfold Halt
  refine my_inNeg (News.isList Nc (.head _)) ho.ints (by decide) (levs_pos ps) ?_
  k_steps
  unfold Halt
  exact tree7 B X Tp hd hu Fc rfl rfl rfl rfl rfl Nc (hP.sub fun _ h => .tail _ h) (.tail _ hT) (hTs.sub fun _ h => .tail _ h) h3 h4 h5 k
set_option maxHeartbeats 4000000 in
theorem tree5 (B : Below (ktrTop dp un gd cn cs L a ccd cl outer) base (envX cn cs L a ccd cl :: outer) g) (X : (KK w.params).In g) (Tp : Top p loose mean mg mb g) (hd : dp + 10 < recursionLimit) (hu : un + 200 < cLine)
    (F : Fr g L' h m) (e1 : m (Str.ofString "tree") = some (.ref T)) (e2 : m (Str.ofString "is_node") = some (.bool nb)) (e3 : m (Str.ofString "is_told") = some (.bool tb)) (e4 : m (Str.ofString "parts") = some (.ref D)) (e5 : m (Str.ofString "nodes") = some (.int nI tn))
    (N : News g L' h nw) (hP : PoolIn src nw) (hT : (T, tupO vs) ∈ nw) (hTs : LsIn nw vs ds) (hD : (D, W.listOf ys.toArray c) ∈ nw) (hps : PartsIn nw ys ps) (hl : vs.length ≤ 100) (hl2 : ys.length ≤ 2)
    (h1 : startsN ds = nb) (h2 : typedN ds = tb) (h3 : levP ds = nI + b2i nb) (h4 : tyP ds = mx (ps.map tyP) + b2i tb) (h5 : 1 + cnts ds ≤ top) (k : TreeK g L' src top sg sd so Q) :
    wpAny (model PR w) ((ktrTop dp un gd cn cs L a ccd cl outer).deeper (envT L')) (execs ((fdAt 26).2.1.drop 5) (envT L')) Q (fun _ _ => False) ⟨h, sg, sd, tk, so⟩ := by
  refine opqL F [(Str.ofString "tree", .ref T), (Str.ofString "is_node", .bool nb), (Str.ofString "is_told", .bool tb), (Str.ofString "parts", .ref D), (Str.ofString "nodes", .int nI tn)] (fc e1 (fc e2 (fc e3 (fc e4 (fc e5 fn))))) ?_
  intro m₀ F0
  clear F e1 e2 e3 e4 e5
  have zz0 : StopAt "eval ListComp" := .mk
  have zz1 : StopAt "binaryOp Add ref ref" := .mk
  have zz2 : StopAt "call builtin:max" := .mk
  have zz3 : StopAt "execs cons" := .mk
  have hlp : ps.length ≤ 2 := hps.length ▸ hl2
  k_steps
  unfold Halt
  refine' comp_part X (fun v d => ∃ t, v = .int (tyP d) t) (by decide) ?hP ?kF ?e4 ?kN (.tail _ hD) (hps.sub fun _ h => .tail _ h) hl2 ?_
  (case hP => exact fun T t1 t2 ds _ => ⟨_, rfl, _, rfl⟩); (case kF => k_asm); (case e4 => exact rfl); (case kN => k_asm)
  intro out l hc tkc ho hol Fc Nc nec
  dsimp only
  k_sweep
  k_steps
  unfold Halt
  refine my_add (vs := [.int 0 _]) (ns := [0]) Fc Nc (News.isList Nc (.tail _ (.head _))) (News.isList Nc (.head _)) (.cons _ _ .nil) ho.ints (by rw [List.length_map]; exact Nat.le_trans (Nat.add_le_add_left hlp 1) (by decide)) ?_
  intro D2 us hh Fe Ne l1 hI
  dsimp only
  k_steps
  unfold Halt
  refine my_maxI rfl Fe Ne (News.isList Ne (.head _)) hI (Nat.succ_pos _) ?_
  intro hg M t tkg Fg Ng hM hU
  have hy := mx_is0 hM hU
  subst hy
  clear hM hU
  dsimp only
  k_sweep
  k_steps
  unfold Halt
  exact tree6 B X Tp hd hu (by assumption) rfl rfl rfl rfl rfl rfl (by assumption) (hP.sub fun _ h => .tail _ (.tail _ (.tail _ h))) (.tail _ (.tail _ (.tail _ hT))) (hTs.sub fun _ h => .tail _ (.tail _ (.tail _ h))) (.tail _ (.tail _ (.tail _ hD))) (hps.sub fun _ h => .tail _ (.tail _ (.tail _ h))) hl hl2 h1 h2 h3 h4 h5 k
set_option maxHeartbeats 4000000 in
theorem extra_ev {p1 p2 p3 p4 p5 p6 p7 p8 p9 p10 p11 p12 p13 : Pos} {u1 u2 u3 u4 u5 : Nat} {QV : Value → Shared → Prop} (B : Below (ktrTop dp un gd cn cs L a ccd cl outer) base (envX cn cs L a ccd cl :: outer) g) (X : (KK w.params).In g) (Tp : Top p loose mean mg mb g) (hd : dp + 10 < recursionLimit) (hu : un + 200 < cLine)
    (F : Fr g L' h m) (e0 : m (Str.ofString "begin") = some (.ref Bg)) (N : News g L' h nw) (hB : (Bg, tupO vsB) ∈ nw) (hBs : LsIn nw vsB ds1) (h10 : ds1 ∈ tens)
    (q : ∀ h' tk', Fr g L' h' m → News g L' h' nw → QV (.bool (extraB ds1)) ⟨h', sg, sd, tk', so⟩) :
    wpAny (model PR w) ((ktrTop dp un gd cn cs L a ccd cl outer).deeper (envT L')) (eval (.BoolOp .And [.Compare (.Call (.Name (Str.ofString "len") p1) [.Name (Str.ofString "begin") p2] [] p3) [.Gt] [.Constant (.int 1) u1 p4] p5, .Compare (.Subscript (.Name (Str.ofString "begin") p6) (.Constant (.int 1) u2 p7) p8) [.Eq] [.Tuple [.Constant (.str (Str.ofString "t")) u3 p9, .Constant (.int 1) u4 p10] u5 p11] p12] p13) (envT L')) QV (fun _ _ => False) ⟨h, sg, sd, tk, so⟩ := by
  obtain ⟨hl, hten⟩ := tens_ok ds1 h10
  have hBn := hBs.length
  refine opqE F [(Str.ofString "begin", .ref Bg)] (fc e0 fn) ?_
  intro m₀ hE F0
  clear F e0
  have zz1 : StopAt "call builtin:len" := .mk
  have zz2 : StopAt "subscriptTail" := .mk
  have zz3 : StopAt "compareOp Eq" := .mk
  have hu1 : un + 3 + 70 < cLine := Nat.lt_trans (Nat.add_lt_add_left (by decide) un) hu
  k_steps
  unfold Halt
  refine my_lenT (News.isTup N hB) (by rw [hBn]; exact Nat.le_trans hl (by decide)) ?_
  intro t9 tk9
  dsimp only
  rcases hBs with _ | ⟨ha, _ | ⟨hb, hr⟩⟩
  · k_steps
    exact q _ _ (frCongr F0 hE) N
  · k_steps
    · exact absurd (show (1 : Int) < 1 from ‹_›) (Int.lt_irrefl 1)
    · exact q _ _ (frCongr F0 hE) N
  · obtain ⟨hs1, hs2⟩ := hten _ _ _ rfl
    k_steps
    · unfold Halt
      refine my_itemT (News.isTup N hB) (by decide) (k := 1) rfl (by rw [hBn]; exact Nat.le_trans hl (by decide)) ?_ (by with_unfolding_all rfl) (fun _ => by with_unfolding_all rfl)
      k_steps
      unfold Halt
      refine U_eqT (by assumption) hs1 hs2 hb (fun _ h => .tail _ h) (.tup (vs := [_, _]) (.head _) (.cons (.str _ _) (.cons (.int _ _) .nil))) hu1 ?_
      exact q _ _ (frCongr (by assumption) hE) (cb_drop (by assumption) fun _ hq => .tail _ hq)
    · exact absurd (show (1 : Int) < ((_ : Nat) : Int) from Int.ofNat_lt.mpr (Nat.lt_of_lt_of_le (by decide : 1 < 2) (Nat.le_add_left 2 _))) ‹_›
theorem Outs.lins {vs : List Value} {ps : List (List DT)} (h : Outs (fun v d => LIn nw v (.tup d)) vs ps) : LsIn nw vs (ps.map .tup) := by
  induction h with
  | nil => exact .nil
  | snoc _ b ih => rw [List.map_append]; exact ih.append (.cons b .nil)
set_option maxHeartbeats 4000000 in
theorem tree4 (B : Below (ktrTop dp un gd cn cs L a ccd cl outer) base (envX cn cs L a ccd cl :: outer) g) (X : (KK w.params).In g) (Tp : Top p loose mean mg mb g) (hd : dp + 10 < recursionLimit) (hu : un + 200 < cLine)
    (F : Fr g L' h m) (e0 : m (Str.ofString "begin") = some (.ref Bg)) (e1 : m (Str.ofString "tree") = some (.ref T)) (e2 : m (Str.ofString "is_node") = some (.bool nb)) (e3 : m (Str.ofString "is_told") = some (.bool tb)) (e4 : m (Str.ofString "parts") = some (.ref D))
    (N : News g L' h nw) (hP : PoolIn src nw) (hB : (Bg, tupO vsB) ∈ nw) (hBs : LsIn nw vsB ds1) (h10 : ds1 ∈ tens) (hT : (T, tupO vs) ∈ nw) (hTs : LsIn nw vs ds) (hD : (D, W.listOf ys.toArray c) ∈ nw) (hps : PartsIn nw ys ps) (hl : vs.length ≤ 100) (hl2 : ys.length ≤ 2)
    (h1 : startsN ds = nb) (h2 : typedN ds = tb) (h3 : levP ds = max (mx (ps.map levP)) (extraF ds1) + b2i nb) (h4 : tyP ds = mx (ps.map tyP) + b2i tb) (h5 : 1 + cnts ds ≤ top) (k : TreeK g L' src top sg sd so Q) :
    wpAny (model PR w) ((ktrTop dp un gd cn cs L a ccd cl outer).deeper (envT L')) (execs ((fdAt 26).2.1.drop 4) (envT L')) Q (fun _ _ => False) ⟨h, sg, sd, tk, so⟩ := by
  refine opqL F [(Str.ofString "begin", .ref Bg), (Str.ofString "tree", .ref T), (Str.ofString "is_node", .bool nb), (Str.ofString "is_told", .bool tb), (Str.ofString "parts", .ref D)] (fc e0 (fc e1 (fc e2 (fc e3 (fc e4 fn))))) ?_
  intro m₀ F0
  clear F e0 e1 e2 e3 e4
  have zz0 : StopAt "eval ListComp" := .mk
  have zz1 : StopAt "binaryOp Add ref ref" := .mk
  have zz2 : StopAt "call builtin:max" := .mk
  have zz3 : StopAt "execs cons" := .mk
  have zz4 : StopAt "eval BoolOp" := .mk
  have hlp : ps.length ≤ 2 := hps.length ▸ hl2
  k_steps
  unfold Halt
  refine' comp_part X (fun v d => ∃ t, v = .int (levP d) t) (by decide) ?hP ?kF ?e4 ?kN (.tail _ hD) (hps.sub fun _ h => .tail _ h) hl2 ?_
  (case hP => exact fun T t1 t2 ds _ => ⟨_, rfl, _, rfl⟩); (case kF => k_asm); (case e4 => exact rfl); (case kN => k_asm)
  intro out l hc tkc ho hol Fc Nc nec
  dsimp only
  k_sweep
  k_steps
  unfold Halt
  refine my_add (vs := [.int 0 _]) (ns := [0]) Fc Nc (News.isList Nc (.tail _ (.head _))) (News.isList Nc (.head _)) (.cons _ _ .nil) ho.ints (by rw [List.length_map]; exact Nat.le_trans (Nat.add_le_add_left hlp 1) (by decide)) ?_
  intro D2 us hh Fe Ne l1 hI
  clear Fc Nc
  dsimp only
  k_steps
  unfold Halt
  refine' extra_ev B X Tp hd hu ?kF ?e0 ?kN ?hB ?hBs h10 ?_
  (case kF => k_asm); (case e0 => exact rfl); (case kN => k_asm); (case hB => exact .tail _ (.tail _ (.tail _ hB))); (case hBs => exact hBs.sub fun _ h => .tail _ (.tail _ (.tail _ h)))
  intro h7 tk7 F7 N7
  k_sweep
  k_steps
  unfold Halt
  refine my_add (vs := us) (ws := [.int _ _]) (ns := [0] ++ ps.map levP) (ms := [_]) (by assumption) (by assumption) (News.isList (by assumption) (.tail _ (.head _))) (News.isList (by assumption) (.head _)) hI (.cons _ _ .nil) (by rw [List.length_append, List.length_map]; exact Nat.le_trans (Nat.add_le_add_right (Nat.add_le_add_left hlp 1) 1) (by decide)) ?_
  intro D3 us3 h8 F8 N8 l8 hI8
  dsimp only
  k_sweep
  k_steps
  unfold Halt
  refine my_maxI rfl F8 N8 (News.isList N8 (.head _)) hI8 (Nat.succ_pos _) ?_
  intro hg M t tkg Fg Ng hM hU
  have hy := nodes_is hM hU
  subst hy
  clear hM hU
  dsimp only
  k_sweep
  k_steps
  unfold Halt
  exact tree5 B X Tp hd hu (by assumption) rfl rfl rfl rfl rfl (by assumption) (hP.sub fun _ h => (.tail _ (.tail _ (.tail _ (.tail _ (.tail _ h)))))) (.tail _ (.tail _ (.tail _ (.tail _ (.tail _ hT))))) (hTs.sub fun _ h => (.tail _ (.tail _ (.tail _ (.tail _ (.tail _ h)))))) (.tail _ (.tail _ (.tail _ (.tail _ (.tail _ hD))))) (hps.sub fun _ h => (.tail _ (.tail _ (.tail _ (.tail _ (.tail _ h)))))) hl hl2 h1 h2 h3 h4 h5 k
set_option maxHeartbeats 4000000 in
theorem tree3 (B : Below (ktrTop dp un gd cn cs L a ccd cl outer) base (envX cn cs L a ccd cl :: outer) g) (X : (KK w.params).In g) (Tp : Top p loose mean mg mb g) (hd : dp + 10 < recursionLimit) (hu : un + 200 < cLine)
    (F : Fr g L' h m) (e0 : m (Str.ofString "begin") = some (.ref Bg)) (e2 : m (Str.ofString "is_node") = some (.bool nb)) (e3 : m (Str.ofString "is_told") = some (.bool tb)) (e4 : m (Str.ofString "parts") = some (.ref D))
    (N : News g L' h nw) (hP : PoolIn src nw) (hB : (Bg, tupO vsB) ∈ nw) (hBs : LsIn nw vsB ds1) (h10 : ds1 ∈ tens) (hD : (D, W.listOf ys.toArray c) ∈ nw) (hps : PartsIn nw ys ps) (hl2 : ys.length ≤ 2)
    (h1 : startsN (ds1 ++ ps.map .tup) = nb) (h2 : typedN (ds1 ++ ps.map .tup) = tb) (h3 : levP (ds1 ++ ps.map .tup) = max (mx (ps.map levP)) (extraF ds1) + b2i nb) (h4 : tyP (ds1 ++ ps.map .tup) = mx (ps.map tyP) + b2i tb) (h5 : 1 + cnts (ds1 ++ ps.map .tup) ≤ top) (k : TreeK g L' src top sg sd so Q) :
    wpAny (model PR w) ((ktrTop dp un gd cn cs L a ccd cl outer).deeper (envT L')) (execs ((fdAt 26).2.1.drop 3) (envT L')) Q (fun _ _ => False) ⟨h, sg, sd, tk, so⟩ := by
  refine opqL F [(Str.ofString "begin", .ref Bg), (Str.ofString "is_node", .bool nb), (Str.ofString "is_told", .bool tb), (Str.ofString "parts", .ref D)] (fc e0 (fc e2 (fc e3 (fc e4 fn)))) ?_
  intro m₀ F0
  clear F e0 e2 e3 e4
  have zz0 : StopAt "eval ListComp" := .mk
  have zz1 : StopAt "binaryOp Add ref ref" := .mk
  have zz2 : StopAt "call type:tuple" := .mk
  have zz3 : StopAt "execs cons" := .mk
  have hl3 : vsB.length ≤ 3 := by rw [hBs.length]; exact (tens_ok ds1 h10).1
  k_steps
  unfold Halt
  refine' comp_part X (fun v d => LIn nw v (.tup d)) (by decide) ?hP ?kF ?e4 ?kN hD hps hl2 ?_
  (case hP => exact fun T t1 t2 ds h => ⟨_, rfl, h⟩); (case kF => k_asm); (case e4 => exact rfl); (case kN => k_asm)
  intro out l hc tkc ho hol Fc Nc nec
  dsimp only
  k_sweep
  k_steps
  unfold Halt
  refine my_tupOf Fc Nc (.head _) (Nat.le_trans hol (by decide)) ?_
  intro T0 h0 F0' N0 l0
  dsimp only
  clear Fc Nc
  k_steps
  unfold Halt
  refine my_addD (by assumption) (by assumption) (.tail _ (.tail _ hB)) (.head _) (Nat.le_trans (Nat.add_le_add hl3 hol) (by decide)) ?_
  intro T1 h1' F1 N1
  clear F0' N0
  dsimp only
  k_steps
  unfold Halt
  exact tree4 B X Tp hd hu (by assumption) rfl rfl rfl rfl rfl (by assumption) (hP.sub fun _ h => (.tail _ (.tail _ (.tail _ h)))) (.tail _ (.tail _ (.tail _ hB))) (hBs.sub fun _ h => (.tail _ (.tail _ (.tail _ h)))) h10 (.head _) ((hBs.append ho.lins).sub fun _ h => (.tail _ (.tail _ (.tail _ h)))) (.tail _ (.tail _ (.tail _ hD))) (hps.sub fun _ h => (.tail _ (.tail _ (.tail _ h)))) (by rw [List.length_append]; exact Nat.le_trans (Nat.add_le_add hl3 hol) (by decide)) hl2 h1 h2 h3 h4 h5 k
set_option maxHeartbeats 4000000 in
theorem tree3b {ds0 : List DT} (B : Below (ktrTop dp un gd cn cs L a ccd cl outer) base (envX cn cs L a ccd cl :: outer) g) (X : (KK w.params).In g) (Tp : Top p loose mean mg mb g) (hd : dp + 10 < recursionLimit) (hu : un + 200 < cLine)
    (F : Fr g L' h m) (e0 : m (Str.ofString "begin") = some (.ref Bg)) (e2 : m (Str.ofString "is_node") = some (.bool nb)) (e3 : m (Str.ofString "is_told") = some (.bool tb)) (e4 : m (Str.ofString "parts") = some (.ref D))
    (N : News g L' h nw) (hP : PoolIn src nw) (hB : (Bg, tupO vsB) ∈ nw) (hBs : LsIn nw vsB (begF ds0 (!ys.isEmpty))) (h9 : (ds0, nb, tb) ∈ nine) (hD : (D, W.listOf ys.toArray c) ∈ nw) (hps : PartsIn nw ys ps) (hl2 : ys.length ≤ 2)
    (h5 : 6 + cnts (ps.map .tup) ≤ top) (k : TreeK g L' src top sg sd so Q) :
    wpAny (model PR w) ((ktrTop dp un gd cn cs L a ccd cl outer).deeper (envT L')) (execs ((fdAt 26).2.1.drop 3) (envT L')) Q (fun _ _ => False) ⟨h, sg, sd, tk, so⟩ := by
  have hE : ys.isEmpty = ps.isEmpty := by
    have := hps.length
    cases ys <;> cases ps <;> simp_all
  obtain ⟨a1, a2, a3, a4, a5⟩ := tree_law h9 ps
  rw [← hE] at a1 a2 a3 a4 a5
  exact tree3 B X Tp hd hu F e0 e2 e3 e4 N hP hB hBs (begF_tens h9 _) hD hps hl2 a1 a2 a3 a4 (Nat.le_trans (Nat.add_le_add_left a5 1) (by rw [← Nat.add_assoc]; exact h5)) k
set_option maxHeartbeats 4000000 in
theorem tree2 {ds0 : List DT} (B : Below (ktrTop dp un gd cn cs L a ccd cl outer) base (envX cn cs L a ccd cl :: outer) g) (X : (KK w.params).In g) (Tp : Top p loose mean mg mb g) (hd : dp + 10 < recursionLimit) (hu : un + 200 < cLine)
    (F : Fr g L' h m) (e0 : m (Str.ofString "begin") = some (.ref Bg)) (e2 : m (Str.ofString "is_node") = some (.bool nb)) (e3 : m (Str.ofString "is_told") = some (.bool tb)) (e4 : m (Str.ofString "parts") = some (.ref D))
    (N : News g L' h nw) (hP : PoolIn src nw) (hB : (Bg, tupO vsB) ∈ nw) (hBs : LsIn nw vsB ds0) (h9 : (ds0, nb, tb) ∈ nine) (hD : (D, W.listOf ys.toArray c) ∈ nw) (hps : PartsIn nw ys ps) (hl2 : ys.length ≤ 2)
    (h5 : 6 + cnts (ps.map .tup) ≤ top) (k : TreeK g L' src top sg sd so Q) :
    wpAny (model PR w) ((ktrTop dp un gd cn cs L a ccd cl outer).deeper (envT L')) (execs ((fdAt 26).2.1.drop 2) (envT L')) Q (fun _ _ => False) ⟨h, sg, sd, tk, so⟩ := by
  refine opqL F [(Str.ofString "begin", .ref Bg), (Str.ofString "is_node", .bool nb), (Str.ofString "is_told", .bool tb), (Str.ofString "parts", .ref D)] (fc e0 (fc e2 (fc e3 (fc e4 fn)))) ?_
  intro m₀ F0
  clear F e0 e2 e3 e4
  have zz0 : StopAt "compareOp In ref ref" := .mk
  have zz1 : StopAt "compareOp NotEq ref ref" := .mk
  have zz2 : StopAt "compareOp Eq ref ref" := .mk
  have zz3 : StopAt "execs cons" := .mk
  have hu1 : un + 3 + 70 < cLine := Nat.lt_trans (Nat.add_lt_add_left (by decide) un) hu
  k_steps
  unfold Halt
  (rename News _ _ _ _ => N1)
  refine U_in9 (ws := [.ref _, .ref _]) (n := 0) N1 h9 (.tup hB hBs) (fun q h => .tail _ (.tail _ (.tail _ h))) (.head _) (.cons (.tup (vs := [_]) (.tail _ (.tail _ (.head _))) (.cons (.str _ _) .nil)) (.cons (.tup (vs := []) (.tail _ (.head _)) .nil) .nil)) hu1 ?_
  have N2 := cb_drop (news := nw) N1 fun _ h => .tail _ (.tail _ (.tail _ h))
  clear N1
  dsimp only
  k_sweep
  k_steps
  all_goals (repeat' (first
    | (unfold Halt
       (rename News _ _ _ _ => N1)
       refine my_neNil (News.isList N1 (.tail _ hD)) (News.isList N1 (.head _)) (Nat.lt_trans (Nat.lt_add_of_pos_right (by decide)) hu1) ?_
       have N2 := cb_drop (news := nw) N1 fun _ h => .tail _ h
       clear N1
       k_steps)
    | (unfold Halt
       (rename News _ _ _ _ => N1)
       refine U_eq9 N1 h9 (.tup hB hBs) (fun q h => .tail _ (.tail _ h)) (.tup (vs := [_, .ref _]) (.head _) (.cons (.str _ _) (.cons (.tup (vs := [_]) (.tail _ (.head _)) (.cons (.str _ _) .nil)) .nil))) hu1 ?_
       have N2 := cb_drop (news := nw) N1 fun _ h => .tail _ (.tail _ h)
       clear N1
       k_steps)
    | (unfold Halt
       have e : begF ds0 (!ys.isEmpty) = ds0 := by first | exact begE1 (by assumption) (by assumption) | exact begE2 (by assumption) (by assumption)
       exact tree3b B X Tp hd hu (by assumption) rfl rfl rfl rfl (by assumption) hP hB (by rw [e]; exact hBs) h9 hD hps hl2 h5 k)
    | (unfold Halt
       have e : begF ds0 (!ys.isEmpty) = [.none] := by first | exact begT1 (by assumption) (by assumption) | exact begT2 (by assumption)
       exact tree3b B X Tp hd hu (by assumption) rfl rfl rfl rfl (by assumption) (hP.sub fun _ h => .tail _ h) (.head _) (by rw [e]; exact .cons .none .nil) h9 (.tail _ hD) (hps.sub fun _ h => .tail _ h) hl2 h5 k)
    | (unfold Halt; refine wpAny_execs_cons ?_; k_steps)))
set_option maxHeartbeats 4000000 in
theorem tree1 {ds0 : List DT} {deep : Nat} (ih : ∀ d, deep = d + 1 → TreeSpec d) {dI : Int} {td : Tok} {o1 o2 : Obj} {x y : Int} {tx ty : Tok} {n : Nat} {new : List (Addr × Obj)} (B : Below (ktrTop dp un gd cn cs L a ccd cl outer) base (envX cn cs L a ccd cl :: outer) g) (X : (KK w.params).In g) (Tp : Top p loose mean mg mb g) (hd : dp + 10 < recursionLimit) (hu : un + 200 < cLine) (hd2 : dp + 4 * deep + 10 < recursionLimit) (hu2 : un + 20 * deep + 200 < cLine) (hdI : dI = (deep : Int)) (d1 : o1.data = .cell (some (.int dI td))) (d2 : o2.data = .cell (some (.ref src)))
    (F : Fr g L' h m) (e0 : m (Str.ofString "begin") = some (.ref Bg)) (e2 : m (Str.ofString "is_node") = some (.bool nb)) (e3 : m (Str.ofString "is_told") = some (.bool tb))
    (N : News g L' h ((L' + 1 + 1, o1) :: (L' + 1, o2) :: (src, pool x y tx ty n) :: new)) (p1 : 0 ≤ x) (p2 : 0 ≤ y) (p3 : y < 2147483647) (hsrc : ∀ q ∈ new, q.1 ≠ src) (hL1 : ∀ q ∈ new, @Ne Nat q.1 (L' + 1)) (hL2 : ∀ q ∈ new, @Ne Nat q.1 (L' + 1 + 1)) (n1 : @Ne Nat (L' + 1 + 1) src) (n2 : @Ne Nat (L' + 1) src)
    (hB : (Bg, tupO vsB) ∈ new) (hBs : LsIn new vsB ds0) (h9 : (ds0, nb, tb) ∈ nine) (k : TreeK g L' src (bnd deep) sg sd so Q) :
    wpAny (model PR w) ((ktrTop dp un gd cn cs L a ccd cl outer).deeper (envT L')) (execs ((fdAt 26).2.1.drop 1) (envT L')) Q (fun _ _ => False) ⟨h, sg, sd, tk, so⟩ := by
  refine opqL F [(Str.ofString "begin", .ref Bg), (Str.ofString "is_node", .bool nb), (Str.ofString "is_told", .bool tb)] (fc e0 (fc e2 (fc e3 fn))) ?_
  intro m₀ F0
  clear F e0 e2 e3
  have z1 : StopAt "call ref" := .mk
  have z2 : StopAt "eval ListComp" := .mk
  have z3 : StopAt "execs cons" := .mk
  k_steps
  · unfold Halt
    have hpos : 0 < dI := ‹0 < dI›
    obtain ⟨d, rfl⟩ : ∃ d, deep = d + 1 := ⟨deep - 1, by omega⟩
    have IH := @ih d rfl
    dsimp only
    refine comp_rangeN (cl := [(Str.ofString "source", L' + 1), (Str.ofString "deep", L' + 1 + 1)]) (PartsK L' o1 o2 src new d) 2 (by decide) (by rfl) F0 (by with_unfolding_all rfl) (by decide) (by rfl) (by decide) (by rfl) ?_ ?_ ?_
    · intro Q' q
      clear k
      k_steps
      unfold Halt
      refine' U_take ?kB ?kF ?kX ?kT rfl ?kd ?ku ?kN p1 p2 p3 (by decide) (by decide) ?U ?_
      (case kN => k_asm); (case U => intro o'; k_upd); (case kB => k_asm); (case kF => k_asm); (case kX => k_asm); (case kT => k_asm); (case kd => ktr_room); (case ku => ktr_units)
      intro v' t' h' tk' x' y' tx' ty' n' v0' v1' x0' y0' y1' F' N'
      k_sweep
      k_steps
      refine q _ _ _ _ _ _ _ ?a (by assumption) (by assumption) (rangeNat (by assumption) v0') (PartsK.start x0' y0' y1' hsrc hL1 hL2) ⟨_, _, rfl⟩
      omega
    · rintro s₂ ⟨h2, tk2, rfl⟩ i t ys nw I oI C oC D m₂ h tk E' hi hK hC hx F N off ne
      obtain ⟨x2, y2, tx2, ty2, n2', rest, ps, rfl, r1, r2, r3, hnr, hrs, hr1, hr2, hps, hpl, hpc⟩ := hK
      clear F0 k
      k_steps
      unfold Halt
      have N9 : News g L' h [(src, pool x2 y2 tx2 ty2 n2')] := srcOne N (.tail _ (.tail _ (.tail _ (.tail _ (.tail _ (.head _))))))
      refine IH (by rw [hdI]; omega) B F X Tp rfl (by show dp + 1 + 4 * d + 10 < recursionLimit; omega) (by show un + 3 + 20 * d + 200 < cLine; omega) N9 r1 r2 r3 ?_
      intro R new2 ds h5 tk5 hnew2 hst2 hP2 hTr hcn
      obtain ⟨x3, y3, tx3, ty3, n3, ho3, q1, q2, q3⟩ := hP2
      have F6 := butF F N9 hst2
      have s1 := newNe hnew2 N (List.Mem.head _)
      have s2 := newNe hnew2 N (List.Mem.tail _ (.head _))
      have s3 := newNe hnew2 N (List.Mem.tail _ (.tail _ (.head _)))
      have s4 := newNe hnew2 N (List.Mem.tail _ (.tail _ (.tail _ (.head _))))
      have s5 := newNe hnew2 N (List.Mem.tail _ (.tail _ (.tail _ (.tail _ (.head _)))))
      have s6 := newNe hnew2 N9 (List.Mem.head _)
      have e1 := neN (Ne.symm off.2.2.1.1)
      have e2 := neN (Ne.symm off.2.2.1.2.1)
      have e3 := neN (Ne.symm off.2.2.1.2.2)
      have N7 := butN (news' := (I, oI) :: (C, oC) :: (D, LCg.lst ys) :: (L' + 1 + 1, o1) :: (L' + 1, o2) :: (src, pool x3 y3 tx3 ty3 n3) :: rest) (.tail e1 (.tail e2 (.tail e3 (.tail (neN n1) (.tail (neN n2) (.head hrs)))))) N hst2 ho3
      have N8 := mix6 (newN F hnew2) N7
      refine ⟨h5, tk5, _, rfl, F6, N8, offMix off (fun q hq => ⟨s1 q hq, s2 q hq, s3 q hq⟩), trivial, x3, y3, tx3, ty3, n3, new2 ++ rest, ps ++ [ds], rfl, q1, q2, q3, fun q hq => List.mem_append_right _ (hnr q hq), fun q hq => (List.mem_append.mp hq).elim (s6 q) (hrs q), fun q hq => (List.mem_append.mp hq).elim (s5 q) (hr1 q), fun q hq => (List.mem_append.mp hq).elim (s4 q) (hr2 q),
        (hps.sub fun q hq => List.mem_append_right _ hq).snoc (hTr.sub fun q hq => List.mem_append_left _ hq), by rw [List.length_append, hpl]; rfl, ?_⟩
      rw [cnts_snoc, Nat.succ_mul]
      exact Nat.add_le_add hpc hcn
    · rintro s₂ ⟨h2, tk2, rfl⟩ i ys nw D h tk hn hK F N off
      obtain ⟨x2, y2, tx2, ty2, n2', rest, ps, rfl, r1, r2, r3, hnr, hrs, hr1, hr2, hps, hpl, hpc⟩ := hK
      clear F0
      k_steps
      unfold Halt
      refine' tree2 B X Tp hd hu ?kF ?e0 ?e2 ?e3 ?e4 ?kN ?hP ?hB ?hBs h9 ?hD ?hps ?hl ?h5 k
      (case kF => assumption); (case e0 => exact rfl); (case e2 => exact rfl); (case e3 => exact rfl); (case e4 => exact rfl); (case kN => assumption); (case hD => exact .head _)
      (case hP => exact ⟨x2, y2, tx2, ty2, n2', .tail _ (.tail _ (.tail _ (.head _))), r1, r2, r3⟩)
      (case hB => exact .tail _ (.tail _ (.tail _ (.tail _ (hnr _ hB)))))
      (case hBs => exact hBs.sub fun q h => .tail _ (.tail _ (.tail _ (.tail _ (hnr q h)))))
      (case hps => exact hps.sub fun _ h => .tail _ (.tail _ (.tail _ (.tail _ h))))
      (case hl => rw [hps.length, hpl]; exact hn)
      (case h5 => rw [bnd_succ]; exact Nat.add_le_add_left (Nat.le_trans hpc (Nat.mul_le_mul_right (bnd d) hn)) 6)
  · unfold Halt
    refine' tree2 (ys := []) (ps := []) (c := 0) B X Tp hd hu ?kF ?e0 ?e2 ?e3 ?e4 ?kN ?hP ?hB ?hBs h9 ?hD .nil (by decide) (bnd_ge _) k
    (case kF => assumption); (case e0 => exact rfl); (case e2 => exact rfl); (case e3 => exact rfl); (case e4 => exact rfl); (case kN => assumption); (case hD => exact .head _)
    (case hP => exact ⟨x, y, tx, ty, n, .tail _ (.tail _ (.tail _ (.head _))), p1, p2, p3⟩)
    (case hB => exact .tail _ (.tail _ (.tail _ (.tail _ hB))))
    (case hBs => exact hBs.sub fun q h => .tail _ (.tail _ (.tail _ (.tail _ h))))
end
set_option maxHeartbeats 4000000 in
theorem C_tree (deep : Nat) (ih : ∀ d, deep = d + 1 → TreeSpec d) : TreeSpec deep := by
  intro w dp un gd cn cs a ccd cl outer A₀ base h₀ L m s Q E p loose mean mg mb src x y tx ty n dI td hdI B F X T hk hd hu N hx hy hy2 k
  obtain ⟨sh, sg, sd, sk, so⟩ := s
  dsimp only at F N k
  refine wpAny_call ?_
  refine' enterC (by assumption) (by assumption) (by assumption) (by assumption) (by assumption) ?kA ?kF ?kK ?k6 ?k7 ?k8 ?k9 ?kB ?kD ?_ ?c2 ?c3 ?c4
  (case kA => exact rfl); (case kF => exact rfl); (case kK => assumption); (case k6 => k_dflt k_is); (case k7 => k_dflt k_is); (case k8 => exact Nat.lt_of_le_of_lt (Nat.le_add_right dp _) (Nat.lt_of_le_of_lt (Nat.le_of_eq (Nat.add_assoc dp _ _).symm) hd)); (case k9 => exact BindsTo.of_eq rfl); (case kB => exact rfl); (case kD => decide); (case c2 => exact rfl); (case c3 => exact rfl); (case c4 => exact rfl)
  intro g L' h₁ tk₁ cells hkeep F' N' Y' hlt B' X' T'
  dsimp only
  refine anyQF ?_
  intro Q9 hQ9
  obtain ⟨o1, o2, hE, hc1, hc2⟩ := CellsAre.two Y'
  subst hE
  have d1 : o1.data = .cell (some (.int dI td)) := hc1
  have d2 : o2.data = .cell (some (.ref src)) := hc2
  have hlt' := ltN (hlt _ (.head _))
  have n1 : @Ne Nat (L' + 1 + 1) src := Nat.ne_of_gt (Nat.lt_succ_of_lt (Nat.lt_succ_of_lt hlt'))
  have n2 : @Ne Nat (L' + 1) src := Nat.ne_of_gt (Nat.lt_succ_of_lt hlt')
  have k9 : TreeK g L' src (bnd deep) sg sd so Q9 := fun R ds nw h tk m F N hP hT hc => by
    obtain ⟨x, y, tx, ty, n, hs, u1, u2, u3⟩ := hP
    exact hQ9 (.ret (.ref R)) _ (k R (noSrc src nw) ds h tk (newOf hkeep (fun q hq => by rw [List.mem_singleton.mp hq]) N (fun b o e _ => e)) (fun b o e ne => F.keep b o (hkeep b o e (by rw [List.map_cons]; exact fun hm => ne (List.mem_singleton.mp hm)))) ⟨_, _, _, _, _, (N _ hs).1, u1, u2, u3⟩ (TreeIn.noSrc N hs hT) hc)
  have hd10 : dp + 10 < recursionLimit := Nat.lt_of_le_of_lt (Nat.add_le_add_right (Nat.le_add_right dp _) 10) hd
  have hu10 : un + 200 < cLine := Nat.lt_of_le_of_lt (Nat.add_le_add_right (Nat.le_add_right un _) 200) hu
  clear k hQ9 B F X T N hk hkeep Y' hc1 hc2 hlt hlt'
  replace F' := frCongr (m' := fun _ => none) F' (fun _ => rfl)
  dsimp only [List.append_nil, List.cons_append, List.nil_append] at N'
  have z1 : StopAt "call ref" := .mk
  have z2 : StopAt "assign Tuple" := .mk
  have z3 : StopAt "execs cons" := .mk
  k_steps
  unfold Halt
  have N9 : News g L' h₁ [(src, pool x y tx ty n)] := srcOne N' (.tail _ (.tail _ (.head _)))
  refine C_begin B' F' X' T' rfl (Nat.lt_of_le_of_lt (show dp + 1 + 3 ≤ dp + 10 from Nat.add_le_add_left (by decide : 4 ≤ 10) dp) hd10) (Nat.lt_of_le_of_lt (show un + 3 + 30 ≤ un + 200 from Nat.add_le_add_left (by decide : 33 ≤ 200) un) hu10) N9 hx hy hy2 ?_
  intro V Bg nb tb new ds0 h' tk' hnew hst hP hV hB h9
  obtain ⟨x', y', tx', ty', n', ho, p1, p2, p3⟩ := hP
  have F2 := butF F' N9 hst
  have N2 := newsApp (butN (news' := [(L' + 1 + 1, o1), (L' + 1, o2), (src, pool x' y' tx' ty' n')]) (.tail (neN n1) (.tail (neN n2) (.head (fun q hq => nomatch hq)))) N' hst ho) (newN F' hnew)
  have hsrc := newNe hnew N' (b := src) (.tail _ (.tail _ (.head _)))
  have hL1 := newNe hnew N' (b := L' + 1) (.tail _ (.head _))
  have hL2 := newNe hnew N' (b := L' + 1 + 1) (.head _)
  obtain ⟨vsB, hBm, hBs⟩ := hB.open
  clear F' N' N9 hnew hst ho hB hx hy hy2
  dsimp only [List.cons_append, List.nil_append] at N2
  dsimp only
  k_steps
  unfold Halt
  refine' unpackN_ ?k1 ?k2 ?k3 ?k4 ?k5 ?k6 ?_
  (case k1 => k_asm); (case k2 => k_asm); (case k3 => exact News.isTup (by assumption) (.tail _ (.tail _ (.tail _ hV)))); (case k4 => exact rfl); (case k5 => exact rfl); (case k6 => exact rfl)
  k_whole
  intro h3 F3 N3
  dsimp only
  k_steps
  unfold Halt
  refine' tree1 ih B' X' T' hd10 hu10 hd hu hdI d1 d2 ?kF ?e0 ?e2 ?e3 ?kN p1 p2 p3 hsrc hL1 hL2 n1 n2 hBm hBs h9 k9
  (case kF => assumption); (case e0 => exact rfl); (case e2 => exact rfl); (case e3 => exact rfl); (case kN => assumption)
theorem C_treeAll (deep : Nat) : TreeSpec deep := by
  induction deep with
  | zero => exact C_tree 0 (fun d h => nomatch h)
  | succ n ih => exact C_tree (n + 1) (fun d h => by cases h; exact ih)
end
/- part F1 -/
section
open PySem PySem.W PyProof.Rows PySem.Calls PySem.Spec
local macro_rules | `(tactic| walk_at "S enter") => `(tactic| (
  refine wpAny_call ?_
  refine' enterS (hid := []) (by assumption) (by assumption) News.nil (by assumption) (by assumption) ?kA ?kF ?kK ?k6 ?k7 ?k8 ?k9 ?kB ?_ ?c2 ?c3 ?c4 ?c5
  (case kA => exact rfl); (case kF => exact rfl); (case kK => assumption); (case k6 => k_dflt k_is); (case k7 => k_dflt k_is); (case k8 => ktr_room); (case k9 => exact BindsTo.of_eq rfl); (case kB => exact locs rfl); (case c2 => exact rfl); (case c3 => exact rfl); (case c4 => exact rfl); (case c5 => decide)))
theorem pool_nn (c : Int) {p : Prop} [Decidable p] : 0 ≤ (if -1 - c > c then -1 - c else c) * (if p then 1 else 0) := by
  refine Int.mul_nonneg ?_ ?_
  · split <;> omega
  · split <;> decide
section
variable {w : World} {dp un : Nat} {gd : Option (List Code)} {cn : Str} {cs : Scope} {a : Addr} {ccd : Value} {cl : List (Str × Addr)} {outer : List Env} {A₀ : Around} {base h₀ : Heap} {L : Addr} {m : Str → Option Value} {s : Shared} {Q E : Value → Shared → Prop}
    {p : Program} {loose : List Str} {mean : ExcName → Option Value} {mg mb : Str → Option Value} {S : Addr} {vs : List Value} {ns : List Int}
set_option maxHeartbeats 4000000 in
theorem C_pool (B : Below A₀ base outer h₀) (F : Fr h₀ L s.heap m) (X : (KK w.params).In h₀) (T : Top p loose mean mg mb h₀) (hk : cs.kind = .function) (hd : dp + 2 < recursionLimit) (hu : un + 20 < cLine)
    (hl : s.heap.IsList S vs.toArray) (hi : IntsAre vs ns) (hn : ns.length ≤ 63)
    (k : ∀ D x y tx ty n h' tk', s.heap.StaysIn h' → s.heap.get? D = none → h'.get? D = some (pool x y tx ty n) → 0 ≤ x → 0 ≤ y → y < 2147483647 → Q (.ref D) { s with heap := h', toks := tk' }) :
    wpAny (model PR w) (ktrTop dp un gd cn cs L a ccd cl outer) (call (.ref 115) [.ref S]) Q E s := by
  walk_at "S enter"
  intro g L' h₁ tk₁ hkeep F' N' B' X' T'
  have hl' : g.IsList S vs.toArray := hl.at fun o e => hkeep S o e (by simp)
  clear B F X T hk hl
  replace F' := frCongr (m' := fun y => List.lookup y [(Str.ofString "script", Value.ref S)]) F' (fun _ => rfl)
  dsimp only
  k_steps
  all_goals exact k _ _ _ _ _ _ _ _ (fun b o e => Fr.keep (by assumption) b o (hkeep b o e (by simp))) (freshS hkeep (by assumption) (.head _) (by simp)) (News.get (by assumption) (.head _)) (pool_nn _) (fm_lo _ (by decide)) (fm_hi _ (by decide))
end
/-- a word's object -/
def WordO (o : Obj) (c t : Str) (sp : Int) : Prop := o.cls = .type "tuple" ∧ ∃ n tc t1 t2, o.data = .seq #[.str c tc, .str t t1, .int sp t2, .none] n
theorem WordO.tup {g h : Heap} {L D : Addr} {o : Obj} {c t : Str} {sp : Int} {news : List (Addr × Obj)} (x : WordO o c t sp) (N : News g L h news) (hm : (D, o) ∈ news) : ∃ tc t1 t2, IsTup h D #[.str c tc, .str t t1, .int sp t2, .none] := by
  obtain ⟨hc, n, tc, t1, t2, hd⟩ := x
  exact ⟨tc, t1, t2, o, (N _ hm).1, hc, n, hd⟩
inductive RowsIn (nw : List (Addr × Obj)) : List Value → List Wd → Prop
  | nil : RowsIn nw [] []
  | cons {D : Addr} {o : Obj} {x : Wd} {vs : List Value} {ws : List Wd} : (D, o) ∈ nw → WordO o x.k x.t x.sp → IsWord x.k x.t → RowsIn nw vs ws → RowsIn nw (.ref D :: vs) (x :: ws)
theorem RowsIn.sub {nw nw' : List (Addr × Obj)} (hs : ∀ q ∈ nw, q ∈ nw') {vs : List Value} {ws : List Wd} (r : RowsIn nw vs ws) : RowsIn nw' vs ws := by
  induction r with
  | nil => exact .nil
  | cons a b c _ ih => exact .cons (hs _ a) b c ih
theorem RowsIn.snoc {nw : List (Addr × Obj)} {D : Addr} {o : Obj} {x : Wd} {vs : List Value} {ws : List Wd} (r : RowsIn nw vs ws) (h1 : (D, o) ∈ nw) (h2 : WordO o x.k x.t x.sp) (h3 : IsWord x.k x.t) : RowsIn nw (vs ++ [.ref D]) (ws ++ [x]) := by
  induction r with
  | nil => exact .cons h1 h2 h3 .nil
  | cons a b c _ ih => exact .cons a b c ih
theorem RowsIn.length {nw : List (Addr × Obj)} {vs : List Value} {ws : List Wd} (r : RowsIn nw vs ws) : vs.length = ws.length := by
  induction r with
  | nil => rfl
  | cons _ _ _ _ ih => simp [ih]
theorem RowsIn.rows {g h : Heap} {L : Addr} {news nw : List (Addr × Obj)} {vs : List Value} {ws : List Wd} (r : RowsIn nw vs ws) (N : News g L h news) (hs : ∀ q ∈ nw, q ∈ news) : RowsAre h vs ws := by
  induction r with
  | nil => exact .nil
  | cons a b c _ ih =>
    obtain ⟨tc, t1, t2, ht⟩ := b.tup N (hs _ a)
    exact .cons ht ih
theorem RowsIn.words {nw : List (Addr × Obj)} {vs : List Value} {ws : List Wd} (r : RowsIn nw vs ws) : ∀ v ∈ ws, IsWord v.k v.t := by
  induction r with
  | nil => intro v hv; cases hv
  | cons a b c _ ih =>
    intro v hv
    rcases List.mem_cons.mp hv with rfl | hv
    · exact c
    · exact ih v hv
/-- a told pair's object -/
def PairO (o : Obj) (b : Bool) (sp : Int) : Prop := o.cls = .type "tuple" ∧ ∃ n t1 t2, o.data = .seq #[.str (if b = true then Str.ofString "brackets" else Str.ofString "signs") t1, .int sp t2] n
theorem frBut2 {h₀ h h' : Heap} {L : Addr} {m : Str → Option Value} (F : Fr h₀ L h m) (st : ∀ b o, h.get? b = some o → b ≠ L → h'.get? b = some o) (ns : h'.Ns L m) : Fr h₀ L h' m :=
  ⟨ns, fun b o e => st b o (F.keep b o e) (Nat.ne_of_lt (Nat.lt_of_lt_of_le (Heap.lt_size e) F.above)), F.above⟩
theorem newsBut2 {h₀ h h' : Heap} {L : Addr} {news : List (Addr × Obj)} (N : News h₀ L h news) (st : ∀ b o, h.get? b = some o → b ≠ L → h'.get? b = some o) : News h₀ L h' news :=
  fun p hp => ⟨st _ _ (N p hp).1 (N p hp).2.1, (N p hp).2⟩
theorem newsAdd {h₀ h h' : Heap} {L D : Addr} {o : Obj} {m : Str → Option Value} {news : List (Addr × Obj)} (F : Fr h₀ L h m) (N : News h₀ L h' news) (hf : h.get? D = none) (ho : h'.get? D = some o) : News h₀ L h' ((D, o) :: news) := fun q hq => by
  rcases List.mem_cons.mp hq with rfl | hq
  · refine ⟨ho, fun e => ?_, ?_⟩
    · obtain ⟨oL, es, ep, hL, _⟩ := F.ns
      dsimp only at e
      rw [e, hL] at hf; cases hf
    · cases z : h₀.get? D with
      | none => rfl
      | some o' => have := F.keep _ _ z; rw [hf] at this; cases this
  · exact N q hq
theorem mid_stmt {M : Model} {A : Around} {E : Value → Shared → Prop} {s : Shared} {g : Heap} {L : Addr} {m : Str → Option Value} {news : List (Addr × Obj)} {x : Sem Flow} {Q : Flow → Shared → Prop} (_ : Fr g L s.heap m) (_ : News g L s.heap news)
    (step : ∀ (Q' : Flow → Shared → Prop), (∀ h' tk', Fr g L h' m → News g L h' news → Q' .next { s with heap := h', toks := tk' }) → wpAny M A x Q' E s) (k : ∀ h' tk', Fr g L h' m → News g L h' news → Q .next { s with heap := h', toks := tk' }) : wpAny M A x Q E s := step Q k
section
variable {prog : Program} {w : World} {A : Around} {E : Value → Shared → Prop} {s : Shared} {g : Heap} {L D1 D2 : Addr} {o1 o2 : Obj} {news : List (Addr × Obj)} {b : Bool} {sp : Int}
theorem PairO.reads (p : PairO o1 b sp) (N : News g L s.heap news) (h1 : (D1, o1) ∈ news) : ∃ as, Reads s.heap (.ref D1) (.tuple [.str (if b = true then Str.ofString "brackets" else Str.ofString "signs"), .int sp]) as := by
  obtain ⟨hc, n, t1, t2, hd⟩ := p
  exact ⟨_, reads_tuple_at (N.get h1) hc hd (by simpa using ReadsAll.cons (Reads.str _ t1) (ReadsAll.cons (Reads.int _ t2) ReadsAll.nil))⟩
theorem my_neP {Q : Value → Shared → Prop} (N : News g L s.heap news) (h1 : (D1, o1) ∈ news) (h2 : (D2, o2) ∈ news) (p1 : PairO o1 b sp) (p2 : PairO o2 b sp) (hu : A.units + 70 < cLine) (h : Q (.bool false) s) : wpAny (model prog w) A (compareOp .NotEq (.ref D1) (.ref D2)) Q E s := by
  obtain ⟨as, ra⟩ := p1.reads N h1
  obtain ⟨bs, rb⟩ := p2.reads N h2
  have hs : SeqAt.shaped (.tuple [.str (if b = true then Str.ofString "brackets" else Str.ofString "signs"), .int sp]) = true := by
    have q1 : PyData.strOk (Str.ofString "brackets") = true := by decide +kernel
    have q2 : PyData.strOk (Str.ofString "signs") = true := by decide +kernel
    cases b <;> simp [SeqAt.shaped, PyData.canLay0, PyData.canLayAll0, PyData.depth, PyData.depthAll, q1, q2]
  refine ne_dataH ra rb hs hs (by omega) ?_
  rw [show PyData.eqv (.tuple [.str (if b = true then Str.ofString "brackets" else Str.ofString "signs"), .int sp]) (.tuple [.str (if b = true then Str.ofString "brackets" else Str.ofString "signs"), .int sp]) = true by simp [PyData.eqv, PyData.eqvAll]]
  exact h
end
section
variable {w : World} {dp un : Nat} {gd : Option (List Code)} {cn : Str} {cs : Scope} {a : Addr} {ccd : Value} {cl : List (Str × Addr)} {outer : List Env} {A₀ : Around} {base h₀ : Heap} {L : Addr} {m : Str → Option Value} {s : Shared} {Q E : Value → Shared → Prop}
    {p : Program} {loose : List Str} {mean : ExcName → Option Value} {mg mb : Str → Option Value} {src rA Dl Dw P : Addr} {x y spot mo ma many v : Int} {tx ty tt tmo tma tm : Tok} {n : Nat} {news nw : List (Addr × Obj)} {news' : Obj → List (Addr × Obj)} {vs : List Value} {ws : List Wd} {ol ow : Obj} {lk lt k9 t9 : Str} {sl s9 : Int} {b : Bool} {ds : List DT} {most : Int}
theorem U_pool {S : Addr} {ns : List Int} (B : Below A₀ base outer h₀) (F : Fr h₀ L s.heap m) (X : (KK w.params).In h₀) (T : Top p loose mean mg mb h₀) (hk : cs.kind = .function) (hd : dp + 2 < recursionLimit) (hu : un + 20 < cLine)
    (N : News h₀ L s.heap news) (hl : s.heap.IsList S vs.toArray) (hi : IntsAre vs ns) (hn : ns.length ≤ 63)
    (k : ∀ D x y tx ty n h' tk', 0 ≤ x → 0 ≤ y → y < 2147483647 → (∀ q ∈ news, @Ne Nat q.1 D) → Fr h₀ L h' m → News h₀ L h' ((D, pool x y tx ty n) :: news) → Q (.ref D) { s with heap := h', toks := tk' }) :
    wpAny (model PR w) (ktrTop dp un gd cn cs L a ccd cl outer) (call (.ref 115) [.ref S]) Q E s :=
  C_pool B F X T hk hd hu hl hi hn fun D x y tx ty n h' tk' st fr ho q1 q2 q3 => k D x y tx ty n h' tk' q1 q2 q3 (fun q hq e => by have := (N q hq).1; rw [show q.1 = D from e, fr] at this; cases this) (stayF F st) (newsAdd F (stayN N st) fr ho)
theorem U_word (B : Below A₀ base outer h₀) (F : Fr h₀ L s.heap m) (X : (KK w.params).In h₀) (T : Top p loose mean mg mb h₀) (hk : cs.kind = .function) (hd : dp + 3 < recursionLimit) (hu : un + 30 < cLine)
    (N : News h₀ L s.heap news) (hx : 0 ≤ x) (hy : 0 ≤ y) (hy2 : y < 2147483647) (U : ∀ o', Upd src (pool x y tx ty n) o' news (news' o'))
    (k : ∀ D o c t h' tk' x' y' tx' ty' n', IsWord c t → WordO o c t spot → 0 ≤ x' → 0 ≤ y' → y' < 2147483647 → (∀ q ∈ news, @Ne Nat q.1 D) → @Ne Nat D src → Fr h₀ L h' m → News h₀ L h' ((D, o) :: news' (pool x' y' tx' ty' n')) → Q (.ref D) { s with heap := h', toks := tk' }) :
    wpAny (model PR w) (ktrTop dp un gd cn cs L a ccd cl outer) (call (.ref 136) [.ref src, .int spot tt]) Q E s := by
  have N1 := newsOne (U default) N
  refine C_word B F X T hk hd hu N1 hx hy hy2 fun D c t tc t1 t2 h' tk' hw st P hf ht => ?_
  obtain ⟨x', y', tx', ty', n', ho, p1, p2, p3⟩ := P
  obtain ⟨o, hD, hc, n1, hd⟩ := ht
  exact k D o c t h' tk' x' y' tx' ty' n' hw ⟨hc, n1, tc, t1, t2, hd⟩ p1 p2 p3 (fun q hq e => by have := (N q hq).1; rw [show q.1 = D from e, hf] at this; cases this) (fun e => by have := (N1 _ (.head _)).1; rw [show src = D from e.symm, hf] at this; cases this) (butF F N1 st) (newsAdd F (butN (U _) N st ho) hf hD)
theorem U_told (B : Below A₀ base [] h₀) (F : Fr h₀ L s.heap m) (X : (KK w.params).In h₀) (T : Top p loose mean mg mb h₀) (XB : (KK w.params).In base) (TB : Top p loose mean mg mb base) (hk : cs.kind = .function) (hd : dp + 6 < 390) (hu : un + 50 < 190)
    (N : News h₀ L s.heap news) (hl : s.heap.IsList rA vs.toArray) (hr : RowsIn nw vs ws) (hs : ∀ q ∈ nw, q ∈ news) (hlen : vs.length ≤ 11)
    (k1 : chk mo ma ws (Str.ofString "end") (Str.ofString "") [0] = none → ∀ h' tk', Fr h₀ L h' m → News h₀ L h' news → Q .none { s with heap := h', toks := tk' })
    (k2 : ∀ b sp, chk mo ma ws (Str.ofString "end") (Str.ofString "") [0] = some (b, sp) → ∀ D o h' tk', PairO o b sp → Fr h₀ L h' m → News h₀ L h' ((D, o) :: news) → Q (.ref D) { s with heap := h', toks := tk' }) :
    wpAny (model PR w) (ktrTop dp un gd cn cs L a ccd cl []) (call (.ref 164) [.ref rA, .int mo tmo, .int ma tma]) Q E s := by
  refine C_told B F X T XB TB hk hd hu hl (hr.rows N hs) hlen (fun hc h' tk' st => k1 hc h' tk' (stayF F st) (stayN N st)) fun b sp hc D h' tk' t1 t2 st ns hf ht => ?_
  obtain ⟨o, hD, hcl, n1, hd1⟩ := ht
  exact k2 b sp hc D o h' tk' ⟨hcl, n1, t1, t2, hd1⟩ (frBut2 F st ns) (newsAdd F (newsBut2 N st) hf hD)
theorem U_due (B : Below A₀ base outer h₀) (F : Fr h₀ L s.heap m) (X : (KK w.params).In h₀) (T : Top p loose mean mg mb h₀) (hk : cs.kind = .function) (hd : dp + 3 < recursionLimit) (hu : un + 30 < cLine)
    (N : News h₀ L s.heap news) (hl : s.heap.IsList rA vs.toArray) (hr : RowsIn nw vs ws) (hs : ∀ q ∈ nw, q ∈ news) (hlen : vs.length ≤ 11)
    (k1 : due waitF mo ma ws (Str.ofString "end") (Str.ofString "") [0] = none → ∀ h' tk', Fr h₀ L h' m → News h₀ L h' news → Q .none { s with heap := h', toks := tk' })
    (k2 : ∀ b sp, due waitF mo ma ws (Str.ofString "end") (Str.ofString "") [0] = some (b, sp) → ∀ D o h' tk', PairO o b sp → Fr h₀ L h' m → News h₀ L h' ((D, o) :: news) → Q (.ref D) { s with heap := h', toks := tk' }) :
    wpAny (model PR w) (ktrTop dp un gd cn cs L a ccd cl outer) (call (.ref 157) [.ref rA, .int mo tmo, .int ma tma]) Q E s := by
  refine C_due B F X T hk hd hu hl (hr.rows N hs) hlen (fun hc h' tk' st => k1 hc h' tk' (stayF F st) (stayN N st)) fun b sp hc D h' tk' t1 t2 st hf ht => ?_
  obtain ⟨o, hD, hcl, n1, hd1⟩ := ht
  exact k2 b sp hc D o h' tk' ⟨hcl, n1, t1, t2, hd1⟩ (stayF F st) (newsAdd F (stayN N st) hf hD)
theorem U_signs2 (B : Below A₀ base outer h₀) (F : Fr h₀ L s.heap m) (X : (KK w.params).In h₀) (T : Top p loose mean mg mb h₀) (hk : cs.kind = .function) (hd : dp + 2 < recursionLimit) (hu : un + 20 < cLine)
    (N : News h₀ L s.heap news) (h1 : (Dl, ol) ∈ news) (w1 : WordO ol lk lt sl) (h2 : (Dw, ow) ∈ news) (w2 : WordO ow k9 t9 s9) (hv : signsF many lk lt k9 t9 = v)
    (k : ∀ t h' tk', Fr h₀ L h' m → News h₀ L h' news → Q (.int v t) { s with heap := h', toks := tk' }) :
    wpAny (model PR w) (ktrTop dp un gd cn cs L a ccd cl outer) (call (.ref 77) [.int many tm, .ref Dl, .ref Dw]) Q E s := by
  obtain ⟨a1, a2, a3, hl⟩ := w1.tup N h1
  obtain ⟨b1, b2, b3, ht⟩ := w2.tup N h2
  exact C_signs B F X T hk hd hu hl ht fun t h' tk' st => by rw [hv]; exact k t h' tk' (stayF F st) (stayN N st)
theorem U_wait2 (B : Below A₀ base outer h₀) (F : Fr h₀ L s.heap m) (X : (KK w.params).In h₀) (T : Top p loose mean mg mb h₀) (hk : cs.kind = .function) (hd : dp + 2 < recursionLimit) (hu : un + 20 < cLine)
    (N : News h₀ L s.heap news) (h1 : (Dl, ol) ∈ news) (w1 : WordO ol lk lt sl) (h2 : (Dw, ow) ∈ news) (w2 : WordO ow k9 t9 s9)
    (k : ∀ t h' tk', Fr h₀ L h' m → News h₀ L h' news → Q (.int (waitF many lk lt k9 t9) t) { s with heap := h', toks := tk' }) :
    wpAny (model PR w) (ktrTop dp un gd cn cs L a ccd cl outer) (call (.ref 150) [.int many tm, .ref Dl, .ref Dw]) Q E s := by
  obtain ⟨a1, a2, a3, hl⟩ := w1.tup N h1
  obtain ⟨b1, b2, b3, ht⟩ := w2.tup N h2
  exact C_wait B F X T hk hd hu hl ht fun t h' tk' st => k t h' tk' (stayF F st) (stayN N st)
theorem U_ends2 (B : Below A₀ base outer h₀) (F : Fr h₀ L s.heap m) (X : (KK w.params).In h₀) (T : Top p loose mean mg mb h₀) (hk : cs.kind = .function) (hd : dp + 1 < recursionLimit) (hu : un + 10 < cLine)
    (N : News h₀ L s.heap news) (h1 : (Dl, ol) ∈ news) (w1 : WordO ol lk lt sl) (hb : endsOp lk lt = b)
    (k : ∀ h' tk', Fr h₀ L h' m → News h₀ L h' news → Q (.bool b) { s with heap := h', toks := tk' }) :
    wpAny (model PR w) (ktrTop dp un gd cn cs L a ccd cl outer) (call (.ref 84) [.ref Dl]) Q E s := by
  obtain ⟨a1, a2, a3, hl⟩ := w1.tup N h1
  exact C_ends B F X T hk hd hu hl fun h' tk' st => by rw [hb]; exact k h' tk' (stayF F st) (stayN N st)
theorem U_isop2 (B : Below A₀ base outer h₀) (F : Fr h₀ L s.heap m) (X : (KK w.params).In h₀) (T : Top p loose mean mg mb h₀) (hk : cs.kind = .function) (hd : dp + 1 < recursionLimit) (hu : un + 10 < cLine)
    (N : News h₀ L s.heap news) (h1 : (Dl, ol) ∈ news) (w1 : WordO ol lk lt sl)
    (k : ∀ h' tk', Fr h₀ L h' m → News h₀ L h' news → Q (.bool (isOp lk)) { s with heap := h', toks := tk' }) :
    wpAny (model PR w) (ktrTop dp un gd cn cs L a ccd cl outer) (call (.ref 143) [.ref Dl]) Q E s := by
  obtain ⟨a1, a2, a3, hl⟩ := w1.tup N h1
  exact C_isop B F X T hk hd hu hl fun h' tk' st => k h' tk' (stayF F st) (stayN N st)
theorem U_levels (B : Below A₀ base outer h₀) (F : Fr h₀ L s.heap m) (X : (KK w.params).In h₀) (T : Top p loose mean mg mb h₀) (hk : cs.kind = .function) (hd : dp + 2 < recursionLimit) (hu : un + 20 < cLine)
    (N : News h₀ L s.heap news) (hm : (P, tupO vs) ∈ news) (hT : LsIn nw vs ds) (hs : ∀ q ∈ nw, q ∈ news) (hn : 1 + cnts ds ≤ 100)
    (k : ∀ t h' tk', Fr h₀ L h' m → News h₀ L h' news → Q (.int (levP ds) t) { s with heap := h', toks := tk' }) :
    wpAny (model PR w) (ktrTop dp un gd cn cs L a ccd cl outer) (call (.ref 96) [.ref P]) Q E s :=
  C_levels B F X T hk hd hu (News.isTup N hm) (LsIn.din (g := h₀) (L := L) (fun q hq => (N q (hs q hq)).1) hT) hn fun t h' tk' st => k t h' tk' (stayF F st) (stayN N st)
theorem ty_one (ds : List DT) : tyP [.tup ds] = tyP ds := by
  show max (ty (.tup ds)) 0 = tyP ds
  have : ty (.tup ds) = tyP ds := by unfold ty tyP; rfl
  have h2 := ty_nn (.tup ds)
  rw [this] at h2 ⊢
  omega
theorem U_refused (B : Below A₀ base [] h₀) (F : Fr h₀ L s.heap m) (X : (KK w.params).In h₀) (T : Top p loose mean mg mb h₀) (XB : (KK w.params).In base) (TB : Top p loose mean mg mb base) (hk : cs.kind = .function) (hd : dp + 6 < 390) (hu : un + 50 < 190)
    (N : News h₀ L s.heap news) {T9 : Addr} (hm : (P, tupO [.ref T9]) ∈ news) (hT : LIn nw (.ref T9) (.tup ds)) (hs : ∀ q ∈ nw, q ∈ news) (hn : 1 + cnts ds ≤ 90) (hmo : 0 ≤ most) (hb : decide (most < tyP ds) = b)
    (k : ∀ h' tk', Fr h₀ L h' m → News h₀ L h' news → Q (.bool b) { s with heap := h', toks := tk' }) :
    wpAny (model PR w) (ktrTop dp un gd cn cs L a ccd cl []) (call (.ref 183) [.ref P, .int most tmo]) Q E s := by
  refine C_refused (vs := [.ref T9]) (ds := [.tup ds]) B F X T XB TB hk hd hu (News.isTup N hm) (.cons (LIn.din (g := h₀) (L := L) (fun q hq => (N q (hs q hq)).1) hT) .nil) ?_ hmo fun h' tk' st ns => ?_
  · show 1 + (1 + cnts ds + 0) ≤ 100
    omega
  · rw [ty_one, hb]
    exact k h' tk' (frBut2 F st ns) (newsBut2 N st)
end
open LCg in
/-- y = [elt for x in range(n)], n drawn -/
theorem assign_rangeN {prog : Program} {w : World} {A : Around} {E : Value → Shared → Prop} {s : Shared} {h₀ : Heap} {L : Addr} {m : Str → Option Value} {env : Env} {elt iter : Expr} {x y : Str} {px py : Pos} {scope : Scope} {cl : List (Str × Addr)} {pos spos : Pos} {Q : Flow → Shared → Prop} (K : Nat → List Value → List (Addr × Obj) → Prop) (M : Nat) (hM : M ≤ 100) (hh : A.handled = none)
    (F₀ : Fr h₀ L s.heap m) (hLe : env.locals = L)
    (hsw : swapsWith (.ListComp elt [⟨.Name x px, iter, [], 0⟩] scope pos) (some (.Name y py)) spos.line env = pure true)
    (hclos : closureFor scope env = pure cl) (hcell : ∀ y ∈ scope.names, y.2 ≠ .cell) (hkind : scope.kind = .function)
    (hnames : ∀ y ∈ scope.names, y.2 = .local → scope.names.lookup y.1 = some .local) (hx : scope.names.lookup x = some .local)
    (hy : env.kindOf y = some .local) (hp : (env.scope.kind == .class || (env.scope.kind == .module && env.locals != env.globals)) = false)
    (hit : ∀ Q' : Value → Shared → Prop, (∀ (n : Nat) r t u v s₁ news, n ≤ M → Fr h₀ L s₁.heap m → News h₀ L s₁.heap news → IsRange s₁.heap r 0 (n : Int) 1 t u v → K 0 [] news → (∃ h tk, s₁ = { s with heap := h, toks := tk }) → Q' (.ref r) s₁) → wpAny (model prog w) A (eval iter env) Q' E s)
    (turn : ∀ (s₂ : Shared), (∃ h tk, s₂ = { s with heap := h, toks := tk }) → ∀ i t ys nw I oI C oC D m₂ h tk (E' : Value → Shared → Prop), i < M → K i ys nw → NsObj oC m₂ → m₂ x = some (.int (i : Int) t) → Fr h₀ L h m → News h₀ L h ((I, oI) :: (C, oC) :: (D, lst ys) :: nw) → Off3 I C D nw → ((@Ne Nat I C) ∧ (@Ne Nat I D) ∧ (@Ne Nat C D)) →
      wpAny (model prog w) A (eval elt (compEnvC scope cl C env)) (CompEnd h₀ L m { s₂ with heap := h, toks := tk } I oI C oC D (lst ys) (fun _ => True) (fun y nw' => K (i + 1) (ys ++ [y]) nw')) E' { s₂ with heap := h, toks := tk })
    (done : ∀ (s₂ : Shared), (∃ h tk, s₂ = { s with heap := h, toks := tk }) → ∀ n ys nw D h tk, n ≤ M → K n ys nw → Fr h₀ L h (fun z => if z = y then some (.ref D) else m z) → News h₀ L h ((D, lst ys) :: nw) → Off1 D nw → Q .next { s₂ with heap := h, toks := tk })
    (hs : ∀ x, foldedSetIterable iter env x = pure x := by intro _; rfl) :
    wpAny (model prog w) A (exec (.Assign [.Name y py] (.ListComp elt [⟨.Name x px, iter, [], 0⟩] scope pos) spos) env) Q E s := by
  refine Assign_ListComp_U F₀ hLe hsw hclos hcell hkind hnames hx hy hp (hit _ fun n r t u v s₁ nw hn F N hr k0 hs₁ => ?_) hs
  obtain ⟨hq, tq, rfl⟩ := hs₁
  refine CompSrc.range (n := n) hh F N hr (small_one (by omega) (by omega) (by omega) (by omega)) (by rw [rangeSize_one]; split <;> omega) (by rw [sizeLine_eq]; omega) fun g => ?_
  refine restU K n (fun i v ys nw I oI C oC D m₂ h tk E' hi hv hK hC hx2 => ?_) (fun ys nw hK D h tk F' N' o => done { s with heap := g, toks := tq } ⟨g, tq, rfl⟩ n ys nw D h tk hn hK F' N' o) n 0 [] nw (by omega) k0
  obtain ⟨t, rfl⟩ := hv
  rw [Int.zero_add] at hx2
  exact turn _ ⟨_, _, rfl⟩ i t ys nw I oI C oC D m₂ h tk E' (Nat.lt_of_lt_of_le hi hn) hK hC hx2
def RowsK (P C : Addr) (oc : Obj) (i : Nat) (ys : List Value) (nw : List (Addr × Obj)) : Prop :=
  ∃ (x y : Int) (tx ty : Tok) (n : Nat) (rest : List (Addr × Obj)) (ws : List Wd), nw = (P, pool x y tx ty n) :: (C, oc) :: rest ∧ 0 ≤ x ∧ 0 ≤ y ∧ y < 2147483647 ∧ (∀ q ∈ rest, q.1 ≠ P) ∧ RowsIn rest ys ws ∧ ws.length = i
theorem RowsK.start {P C : Addr} {oc : Obj} {x y : Int} {tx ty : Tok} {n : Nat} (h1 : 0 ≤ x) (h2 : 0 ≤ y) (h3 : y < 2147483647) : RowsK P C oc 0 [] [(P, pool x y tx ty n), (C, oc)] :=
  ⟨x, y, tx, ty, n, [], [], rfl, h1, h2, h3, (fun _ h => nomatch h), .nil, rfl⟩
theorem rows_turn {g h : Heap} {L : Addr} {d a b c e f : Addr × Obj} {rest : List (Addr × Obj)} (N : News g L h (d :: a :: b :: c :: e :: f :: rest)) : News g L h (a :: b :: c :: e :: f :: d :: rest) :=
  cb_drop N fun q hq => by
    simp only [List.mem_cons] at hq ⊢
    rcases hq with h | h | h | h | h | h | h <;> simp [h]
theorem offRow {I C D P : Addr} {a d : Addr × Obj} {o o' : Obj} {rest : List (Addr × Obj)} (off : LCg.Off3 I C D ((P, o) :: a :: rest)) (h1 : d.1 ≠ I) (h2 : d.1 ≠ C) (h3 : d.1 ≠ D) : LCg.Off3 I C D ((P, o') :: a :: d :: rest) :=
  ⟨off.1, off.2.1, ⟨h1, h2, h3⟩, off.2.2⟩
theorem drop13 {g h : Heap} {L : Addr} {a b c : Addr × Obj} (N : News g L h [a, b, c]) : News g L h [a, c] :=
  cb_drop N fun q hq => by
    simp only [List.mem_cons, List.not_mem_nil, or_false] at hq ⊢
    rcases hq with h | h <;> simp [h]
theorem isWordOf {o : Obj} {c t : Str} {sp : Int} (_ : WordO o c t sp) (h : IsWord c t) : IsWord c t := h
theorem plain_eq {many : Int} {lk lt k t : Str} (h1 : IsWord lk lt) (h2 : IsWord k t) (h3 : ([Str.ofString "(", Str.ofString "[", Str.ofString "{", Str.ofString ")", Str.ofString "]", Str.ofString "}"].any fun y => y == t) = false) : signsF many lk lt k t = waitF many lk lt k t := by
  simp only [List.any_cons, List.any_nil, Bool.or_false, Bool.or_eq_false_iff] at h3
  obtain ⟨a, b, c, d, e, f⟩ := h3
  exact signs_wait many (.inl h1) h2 (by simp [openers, a, b, c]) (by simp [closers, d, e, f])
theorem my_word1 {prog : Program} {w : World} {A : Around} {E : Value → Shared → Prop} {s : Shared} {g : Heap} {L D : Addr} {o : Obj} {c t : Str} {sp : Int} {news : List (Addr × Obj)} {value slice : PySem.Expr} {u : Tok} {Q : Value → Shared → Prop} (N : News g L s.heap news) (hm : (D, o) ∈ news) (x : WordO o c t sp)
    (h : ∀ t1, Q (.str t t1) s)
    (hs : subscripted slice false (.ref D) (.int 1 u) = operate [.ref D, .int 1 u] (getItem (.ref D) (.int 1 u)) := by with_unfolding_all rfl) (hg : ∀ r, letTemporaryGo value (.ref D) r = pure () := by intro _; with_unfolding_all rfl) :
    wpAny (model prog w) A (subscriptTail value slice (.ref D) (.int 1 u)) Q E s := by
  obtain ⟨tc, t1, t2, ht⟩ := x.tup N hm
  exact my_itemT (vs := [.str c tc, .str t t1, .int sp t2, .none]) ht (by decide) rfl (Nat.le_of_ble_eq_true rfl) (h t1) hs hg
theorem ref_no (x : Int) : decide (x < x) = false := by simp
theorem ref_yes (x : Int) : decide (x - 1 < x) = true := by simp; omega
theorem levP_nn (ds : List DT) : 0 ≤ levP ds := by
  have := levs_nn ds
  unfold levP
  split <;> omega
theorem tyP_nn (ds : List DT) : 0 ≤ tyP ds := by
  have h := ty_nn (.tup ds)
  have e : ty (.tup ds) = tyP ds := by unfold ty tyP; rfl
  rw [e] at h
  exact h
theorem endA {c : Str} {x : Bool} (h1 : isOp c = true) (h2 : ((isOp c || x) != isOp c) = true) : False := by rw [h1] at h2; simp at h2
theorem endB {c t : Str} (h1 : isOp c = false) (h2 : ((isOp c || closers.any fun x => x == t) != [Str.ofString ")", Str.ofString "]", Str.ofString "}"].any fun x => x == t) = true) : False := by
  rw [h1, show (closers.any fun x => x == t) = ([Str.ofString ")", Str.ofString "]", Str.ofString "}"].any fun x => x == t) from rfl] at h2
  simp at h2
end
/- part F2 -/
section
open PySem PySem.W PyProof.Rows PySem.Calls PySem.Spec
theorem wordO4 {c t : Str} {sp : Int} {tc t1 t2 : Tok} {n : Nat} : WordO ({ cls := .type "tuple", data := .seq #[.str c tc, .str t t1, .int sp t2, .none] n } : Obj) c t sp := ⟨rfl, n, tc, t1, t2, rfl⟩
theorem sig1 : signsF 5 (Str.ofString "name") (Str.ofString "a") (Str.ofString "sign") (Str.ofString "*") = 1 := by decide +kernel
theorem sig6 : signsF 5 (Str.ofString "sign") (Str.ofString "*") (Str.ofString "sign") (Str.ofString "*") = 6 := by decide +kernel
theorem pos_of {a : Int} (h : 0 ≤ a) (k : a ≠ 0) : 0 < a := by omega
theorem my_neEq {prog : Program} {w : World} {A : Around} {E : Value → Shared → Prop} {s : Shared} {a b : Bool} {Q : Value → Shared → Prop} (e : a = b) (h : Q (.bool false) s) : wpAny (model prog w) A (compareOp .NotEq (.bool a) (.bool b)) Q E s := by
  subst e; exact my_neSame h
theorem swap12 {g h : Heap} {L : Addr} {a b : Addr × Obj} {r : List (Addr × Obj)} (N : News g L h (a :: b :: r)) : News g L h (b :: a :: r) := cb_drop N fun q hq => by
  rcases List.mem_cons.mp hq with rfl | hq
  · exact .tail _ (.head _)
  · rcases List.mem_cons.mp hq with rfl | hq
    · exact .head _
    · exact .tail _ (.tail _ hq)
noncomputable abbrev envL (L' fa : Addr) (cd : Value) : Env := envOfC (Str.ofString "law") (fdAt 28).2.2 L' fa cd
/-- what is done with the answer -/
def LawK (g : Heap) (L' : Addr) (sg : Array GenState) (sd : Drawn) (so : OsState) (Q : Flow → Shared → Prop) : Prop := ∀ h tk m, Fr g L' h m → Q (.ret (.bool true)) ⟨h, sg, sd, tk, so⟩
section
variable {w : World} {L' fa : Addr} {cd : Value} {g h : Heap} {m : Str → Option Value} {sg : Array GenState} {sd : Drawn} {tk : Nat} {so : OsState} {Q : Flow → Shared → Prop} {p : Program} {loose : List Str} {mean : ExcName → Option Value} {mg mb : Str → Option Value} {nw : List (Addr × Obj)}
  {T P Dl Dw D S : Addr} {ds : List DT} {tn ty tm tmo tma tx ty0 : Tok} {many mo ma x y : Int} {n : Nat} {oc ol ow : Obj} {lk lt k9 t9 : Str} {sl s9 : Int} {ys : List Value} {ws : List Wd}
set_option maxHeartbeats 4000000 in
theorem law11  (B : Below callerA g [] g) (X : (KK w.params).In g) (Tp : Top p loose mean mg mb g)
    (F : Fr g L' h m) (e1 : m (Str.ofString "tree") = some (.ref T)) (e5 : m (Str.ofString "nodes") = some (.int (levP ds) tn)) (e6 : m (Str.ofString "typed") = some (.int (tyP ds) ty))
    (N : News g L' h nw) (hT : LIn nw (.ref T) (.tup ds)) (hn : 1 + cnts ds ≤ 90) (k : LawK g L' sg sd so Q) :
    wpAny (model PR w) (callerA.deeper (envL L' fa cd)) (execs ((fdAt 28).2.1.drop 11) (envL L' fa cd)) Q (fun _ _ => False) ⟨h, sg, sd, tk, so⟩ := by
  refine opqL F [(Str.ofString "tree", .ref T), (Str.ofString "nodes", .int (levP ds) tn), (Str.ofString "typed", .int (tyP ds) ty)] (fc e1 (fc e5 (fc e6 fn))) ?_
  intro m₀ F0
  clear F e1 e5 e6
  have zz0 : StopAt "call ref" := .mk
  have zz1 : StopAt "execs cons" := .mk
  obtain ⟨vsT, hTm, hTs⟩ := hT.open
  have hl0 := levP_nn ds
  have ht0 := tyP_nn ds
  k_steps
  unfold Halt
  refine' U_levels ?kB ?kF ?kX ?kT rfl ?kd ?ku ?kN hTm hTs (fun _ h => h) (Nat.le_trans hn (by decide)) ?_
  (case kB => k_asm); (case kF => k_asm); (case kX => k_asm); (case kT => k_asm); (case kN => k_asm); (case kd => decide); (case ku => decide)
  intro t1 h1 tk1 F1 N1
  dsimp only
  k_sweep
  k_steps
  · exact absurd rfl ‹levP ds ≠ levP ds›
  unfold Halt
  refine wpAny_execs_cons ?_
  k_steps
  unfold Halt
  refine' U_refused (T9 := T) ?kB ?kF ?kX ?kT X Tp rfl ?kd ?ku ?kN (.head _) hT (fun _ h => .tail _ h) hn ht0 (ref_no _) ?_
  (case kB => k_asm); (case kF => k_asm); (case kX => k_asm); (case kT => k_asm); (case kN => k_asm); (case kd => decide); (case ku => decide)
  intro h2 tk2 F2 N2
  dsimp only
  k_sweep
  k_steps
  · rw [show (tyP ds == 0) = true from beq_iff_eq.mpr ‹tyP ds = 0›]
    exact k _ _ _ F2
  unfold Halt
  refine' U_refused (T9 := T) ?kB ?kF ?kX ?kT X Tp rfl ?kd ?ku ?kN (.head _) hT ?ks hn (Int.sub_nonneg.mpr (Int.add_one_le_iff.mpr (pos_of ht0 ‹tyP ds ≠ 0›))) (ref_yes _) ?_
  (case kB => k_asm); (case kF => k_asm); (case kX => k_asm); (case kT => k_asm); (case kN => k_asm); (case kd => decide); (case ku => decide); (case ks => exact fun _ h => .tail _ (.tail _ h))
  intro h3 tk3 F3 N3
  exact k _ _ _ F3
set_option maxHeartbeats 4000000 in
theorem law10  (B : Below callerA g [] g) (X : (KK w.params).In g) (Tp : Top p loose mean mg mb g)
    (F : Fr g L' h m) 
    (N : News g L' h nw) (hC : (L' + 1, oc) ∈ nw) (dc : oc.data = .cell (some (.ref P))) (hP : PoolIn P nw) (k : LawK g L' sg sd so Q) :
    wpAny (model PR w) (callerA.deeper (envL L' fa cd)) (execs ((fdAt 28).2.1.drop 10) (envL L' fa cd)) Q (fun _ _ => False) ⟨h, sg, sd, tk, so⟩ := by
  have zz0 : StopAt "call ref" := .mk
  have zz1 : StopAt "execs cons" := .mk
  have zz2 : StopAt "assign Tuple" := .mk
  obtain ⟨x, y, tx, ty, n, hs, u1, u2, u3⟩ := hP
  k_steps
  unfold Halt
  have N9 := srcOne N hs
  refine C_treeAll 3 (by rfl) B F X Tp rfl (by decide) (by decide) N9 u1 u2 u3 ?_
  intro R new ds h9 tk9 hnew hst hP2 hT hcn
  have F9 := butF F N9 hst
  have N10 := newN F hnew
  clear F N N9 hnew hst
  obtain ⟨TT, vsT, cT, tt1, tt2, hT1, hT2, hT3⟩ := hT
  dsimp only
  k_steps
  unfold Halt
  refine' kun_list ?k1 ?k2 ?k3 ?k4 ?k5 ?k6 ?_
  (case k1 => exact F9); (case k2 => exact N10); (case k3 => exact News.isList N10 hT1); (case k4 => exact rfl); (case k5 => exact rfl); (case k6 => exact rfl); k_whole
  intro h' F' N'
  clear F9 N10
  k_steps
  unfold Halt
  exact law11 B X Tp (by assumption) rfl rfl rfl (by assumption) (.tup hT2 hT3) hcn k
set_option maxHeartbeats 4000000 in
theorem law9  (B : Below callerA g [] g) (X : (KK w.params).In g) (Tp : Top p loose mean mg mb g)
    (F : Fr g L' h m) (e7 : m (Str.ofString "last") = some (.ref Dl))
    (N : News g L' h nw) (hl : (Dl, ol) ∈ nw) (wl : WordO ol lk lt sl) (il : IsWord lk lt) (hC : (L' + 1, oc) ∈ nw) (dc : oc.data = .cell (some (.ref P))) (hP : PoolIn P nw) (k : LawK g L' sg sd so Q) :
    wpAny (model PR w) (callerA.deeper (envL L' fa cd)) (execs ((fdAt 28).2.1.drop 9) (envL L' fa cd)) Q (fun _ _ => False) ⟨h, sg, sd, tk, so⟩ := by
  refine opqL F [(Str.ofString "last", .ref Dl)] (fc e7 fn) ?_
  intro m₀ F0
  clear F e7
  have zz0 : StopAt "call ref" := .mk
  have zz1 : StopAt "execs cons" := .mk
  have zz2 : StopAt "subscriptTail" := .mk
  have zz3 : StopAt "compareOp NotEq bool bool" := .mk
  have zz4 : StopAt "eval List" := .mk
  have zz5 : StopAt "compareOp In str ref" := .mk
  k_steps
  unfold Halt
  refine' U_ends2 ?kB ?kF ?kX ?kT rfl ?kd ?ku ?kN hl wl (ends_last (.inl il)) ?_
  (case kB => k_asm); (case kF => k_asm); (case kX => k_asm); (case kT => k_asm); (case kN => k_asm); (case kd => decide); (case ku => decide)
  intro h1 tk1 F1 N1
  dsimp only
  k_sweep
  k_steps
  unfold Halt
  refine' U_isop2 ?kB ?kF ?kX ?kT rfl ?kd ?ku ?kN hl wl ?_
  (case kB => k_asm); (case kF => k_asm); (case kX => k_asm); (case kT => k_asm); (case kN => k_asm); (case kd => decide); (case ku => decide)
  intro h2 tk2 F2 N2
  dsimp only
  k_sweep
  k_steps
  · unfold Halt
    refine my_neEq (by rw [‹isOp lk = true›]; rfl) ?_
    k_steps
    unfold Halt
    exact law10 B X Tp F2 N2 hC dc hP k
  · unfold Halt
    refine my_word1 N2 hl wl ?_ (by with_unfolding_all rfl) (fun _ => by with_unfolding_all rfl)
    intro t1
    k_steps
    unfold Halt
    refine' my_strList ?kF ?kN ?kc ?kz ?_; (case kF => k_asm); (case kN => k_asm); (case kc => repeat constructor); (case kz => exact bleN rfl)
    intro l3 vs3 h3 tk3 hs3 F3 N3 o3
    dsimp only
    clear F2 N2
    k_steps
    unfold Halt
    refine in_list_strs (News.isList N3 (.head _)) hs3 ?_
    k_steps
    unfold Halt
    refine my_neEq (by rw [‹isOp lk = false›]; rfl) ?_
    k_steps
    unfold Halt
    exact law10 B X Tp F3 N3 (.tail _ hC) dc (hP.sub fun _ h => .tail _ h) k
set_option maxHeartbeats 4000000 in
theorem law7  (B : Below callerA g [] g) (X : (KK w.params).In g) (Tp : Top p loose mean mg mb g)
    (F : Fr g L' h m) (e7 : m (Str.ofString "last") = some (.ref Dl)) (e8 : m (Str.ofString "word") = some (.ref Dw)) (e9 : m (Str.ofString "many") = some (.int many tm))
    (N : News g L' h nw) (hl : (Dl, ol) ∈ nw) (wl : WordO ol lk lt sl) (il : IsWord lk lt) (hw : (Dw, ow) ∈ nw) (ww : WordO ow k9 t9 s9) (iw : IsWord k9 t9) (hC : (L' + 1, oc) ∈ nw) (dc : oc.data = .cell (some (.ref P))) (hP : PoolIn P nw) (k : LawK g L' sg sd so Q) :
    wpAny (model PR w) (callerA.deeper (envL L' fa cd)) (execs ((fdAt 28).2.1.drop 7) (envL L' fa cd)) Q (fun _ _ => False) ⟨h, sg, sd, tk, so⟩ := by
  refine opqL F [(Str.ofString "last", .ref Dl), (Str.ofString "word", .ref Dw), (Str.ofString "many", .int many tm)] (fc e7 (fc e8 (fc e9 fn))) ?_
  intro m₀ F0
  clear F e7 e8 e9
  have zz0 : StopAt "call ref" := .mk
  have zz1 : StopAt "execs cons" := .mk
  have zz2 : StopAt "subscriptTail" := .mk
  have zz3 : StopAt "eval List" := .mk
  have zz4 : StopAt "compareOp NotIn str ref" := .mk
  k_steps
  unfold Halt
  refine my_word1 N hw ww ?_ (by with_unfolding_all rfl) (fun _ => by with_unfolding_all rfl)
  intro t1
  k_steps
  unfold Halt
  refine' my_strList ?kF ?kN ?kc ?kz ?_; (case kF => k_asm); (case kN => k_asm); (case kc => repeat constructor); (case kz => exact bleN rfl)
  intro l3 vs3 h3 tk3 hs3 F3 N3 o3
  dsimp only
  clear F0 N
  k_steps
  unfold Halt
  refine notin_list_strs (News.isList N3 (.head _)) hs3 ?_
  k_steps
  unfold Halt
  refine wpAny_execs_cons ?_
  k_steps
  · unfold Halt
    exact law9 B X Tp (by assumption) rfl (by assumption) (.tail _ hl) wl il (.tail _ hC) dc (hP.sub fun _ h => .tail _ h) k
  · unfold Halt
    refine' U_signs2 ?kB ?kF ?kX ?kT rfl ?kd ?ku ?kN ?h1 wl ?h2 ww (plain_eq il iw (by assumption)) ?_
    (case kB => k_asm); (case kF => k_asm); (case kX => k_asm); (case kT => k_asm); (case kN => k_asm); (case kd => decide); (case ku => decide); (case h1 => exact .tail _ hl); (case h2 => exact .tail _ hw)
    intro t4 h4 tk4 F4 N4
    dsimp only
    k_sweep
    k_steps
    unfold Halt
    refine' U_wait2 ?kB ?kF ?kX ?kT rfl ?kd ?ku ?kN ?h1 wl ?h2 ww ?_
    (case kB => k_asm); (case kF => k_asm); (case kX => k_asm); (case kT => k_asm); (case kN => k_asm); (case kd => decide); (case ku => decide); (case h1 => exact .tail _ hl); (case h2 => exact .tail _ hw)
    intro t5 h5 tk5 F5 N5
    dsimp only
    k_sweep
    k_steps
    · exact absurd rfl ‹waitF _ _ _ _ _ ≠ waitF _ _ _ _ _›
    · unfold Halt
      exact law9 B X Tp (by assumption) rfl (by assumption) (.tail _ hl) wl il (.tail _ hC) dc (hP.sub fun _ h => .tail _ h) k
set_option maxHeartbeats 4000000 in
theorem law6  (B : Below callerA g [] g) (X : (KK w.params).In g) (Tp : Top p loose mean mg mb g)
    (F : Fr g L' h m) 
    (N : News g L' h ((P, pool x y tx ty0 n) :: nw)) (hne : ∀ q ∈ nw, @Ne Nat q.1 P) (p1 : 0 ≤ x) (p2 : 0 ≤ y) (p3 : y < 2147483647) (hC : (L' + 1, oc) ∈ nw) (dc : oc.data = .cell (some (.ref P)))  (k : LawK g L' sg sd so Q) :
    wpAny (model PR w) (callerA.deeper (envL L' fa cd)) (execs ((fdAt 28).2.1.drop 6) (envL L' fa cd)) Q (fun _ _ => False) ⟨h, sg, sd, tk, so⟩ := by
  have zz0 : StopAt "call ref" := .mk
  have zz1 : StopAt "execs cons" := .mk
  k_steps
  unfold Halt
  refine' U_word ?kB ?kF ?kX ?kT rfl ?kd ?ku ?kN p1 p2 p3 (fun o' => .head hne) ?_
  (case kB => k_asm); (case kF => k_asm); (case kX => k_asm); (case kT => k_asm); (case kN => k_asm); (case kd => decide); (case ku => decide)
  intro D1 o1 c1 t1 h1 tk1 x1 y1 tx1 ty1 n1 iw1 wo1 a1 a2 a3 ne1 ns1 F1 N1
  clear F N
  dsimp only
  k_steps
  unfold Halt
  refine' U_word ?kB ?kF ?kX ?kT rfl ?kd ?ku ?kN a1 a2 a3 ?U ?_
  (case kB => k_asm); (case kF => k_asm); (case kX => k_asm); (case kT => k_asm); (case kN => k_asm); (case kd => decide); (case ku => decide); (case U => exact fun o' => .tail (neN ns1) (.head hne))
  intro D2 o2 c2 t2 h2 tk2 x2 y2 tx2 ty2 n2 iw2 wo2 b1 b2 b3 ne2 ns2 F2 N2
  clear F1 N1
  dsimp only
  k_steps
  unfold Halt
  refine' U_take ?kB ?kF ?kX ?kT rfl ?kd ?ku ?kN b1 b2 b3 (by decide) (by decide) ?U ?_
  (case kB => k_asm); (case kF => k_asm); (case kX => k_asm); (case kT => k_asm); (case kN => k_asm); (case kd => decide); (case ku => decide); (case U => exact fun o' => .tail (neN ns2) (.tail (neN ns1) (.head hne)))
  intro v3 t3 h3 tk3 x3 y3 tx3 ty3 n3 v0 v1 c1' c2' c3' F3 N3
  clear F2 N2
  dsimp only
  k_steps
  unfold Halt
  (rename News _ _ _ _ => N4)
  exact law7 B X Tp (by assumption) rfl rfl rfl (cb_drop N4 fun _ h => .tail _ h) (.tail _ (.head _)) wo1 iw1 (.head _) wo2 iw2 (.tail _ (.tail _ (.tail _ hC))) dc ⟨x3, y3, tx3, ty3, n3, .tail _ (.tail _ (.head _)), c1', c2', c3'⟩ k
set_option maxHeartbeats 4000000 in
theorem law5  (B : Below callerA g [] g) (X : (KK w.params).In g) (Tp : Top p loose mean mg mb g)
    (F : Fr g L' h m) (e11 : m (Str.ofString "rows") = some (.ref D)) (e12 : m (Str.ofString "most_open") = some (.int mo tmo)) (e13 : m (Str.ofString "most_ahead") = some (.int ma tma))
    (N : News g L' h ((P, pool x y tx ty0 n) :: nw)) (hne : ∀ q ∈ nw, @Ne Nat q.1 P) (p1 : 0 ≤ x) (p2 : 0 ≤ y) (p3 : y < 2147483647) (hC : (L' + 1, oc) ∈ nw) (dc : oc.data = .cell (some (.ref P))) (hD : (D, LCg.lst ys) ∈ nw) (hrw : RowsIn nw ys ws) (hlen : ys.length ≤ 11) (k : LawK g L' sg sd so Q) :
    wpAny (model PR w) (callerA.deeper (envL L' fa cd)) (execs ((fdAt 28).2.1.drop 5) (envL L' fa cd)) Q (fun _ _ => False) ⟨h, sg, sd, tk, so⟩ := by
  refine opqL F [(Str.ofString "rows", .ref D), (Str.ofString "most_open", .int mo tmo), (Str.ofString "most_ahead", .int ma tma)] (fc e11 (fc e12 (fc e13 fn))) ?_
  intro m₀ F0
  clear F e11 e12 e13
  have zz0 : StopAt "call ref" := .mk
  have zz1 : StopAt "execs cons" := .mk
  have zz2 : StopAt "compareOp NotEq ref ref" := .mk
  k_steps
  unfold Halt
  refine' U_told ?kB ?kF ?kX ?kT X Tp rfl ?kd ?ku ?kN ?kl hrw ?ks hlen ?_ ?_
  (case kB => k_asm); (case kF => k_asm); (case kX => k_asm); (case kT => k_asm); (case kN => k_asm); (case kd => decide); (case ku => decide); (case kl => exact News.isList N (.tail _ hD)); (case ks => exact fun _ h => .tail _ h)
  · intro hc h1 tk1 F1 N1
    have hdue := (chk_due _ _ _ _ _ _ (.inr ⟨rfl, rfl⟩) (by decide) hrw.words).symm.trans hc
    clear F0 N
    dsimp only
    k_steps
    unfold Halt
    refine' U_due ?kB ?kF ?kX ?kT rfl ?kd ?ku ?kN ?kl hrw ?ks hlen ?_ ?_
    (case kB => k_asm); (case kF => k_asm); (case kX => k_asm); (case kT => k_asm); (case kN => k_asm); (case kd => decide); (case ku => decide); (case kl => exact News.isList N1 (.tail _ hD)); (case ks => exact fun _ h => .tail _ h)
    · intro _ h2 tk2 F2 N2
      clear F1 N1
      dsimp only
      k_steps
      unfold Halt
      exact law6 B X Tp (by assumption) (by assumption) hne p1 p2 p3 hC dc k
    · intro b sp hb
      rw [hdue] at hb; cases hb
  · intro b sp hc D1 o1 h1 tk1 hp1 F1 N1
    have hdue := (chk_due _ _ _ _ _ _ (.inr ⟨rfl, rfl⟩) (by decide) hrw.words).symm.trans hc
    clear F0 N
    dsimp only
    k_steps
    unfold Halt
    refine' U_due ?kB ?kF ?kX ?kT rfl ?kd ?ku ?kN ?kl hrw ?ks hlen ?_ ?_
    (case kB => k_asm); (case kF => k_asm); (case kX => k_asm); (case kT => k_asm); (case kN => k_asm); (case kd => decide); (case ku => decide); (case kl => exact News.isList N1 (.tail _ (.tail _ hD))); (case ks => exact fun _ h => .tail _ (.tail _ h))
    · intro hb
      rw [hdue] at hb; cases hb
    · intro b2 sp2 hb2 D2 o2 h2 tk2 hp2 F2 N2
      clear F1 N1
      rw [hdue] at hb2
      cases hb2
      dsimp only
      k_steps
      unfold Halt
      refine my_neP N2 (.tail _ (.head _)) (.head _) hp1 hp2 (Nat.le_of_ble_eq_true rfl) ?_
      k_steps
      unfold Halt
      exact law6 B X Tp (by assumption) (cb_drop N2 fun _ h => .tail _ (.tail _ h)) hne p1 p2 p3 hC dc k
set_option maxHeartbeats 4000000 in
theorem law4  (B : Below callerA g [] g) (X : (KK w.params).In g) (Tp : Top p loose mean mg mb g)
    (F : Fr g L' h m) (e11 : m (Str.ofString "rows") = some (.ref D))
    (N : News g L' h ((P, pool x y tx ty0 n) :: nw)) (hne : ∀ q ∈ nw, @Ne Nat q.1 P) (p1 : 0 ≤ x) (p2 : 0 ≤ y) (p3 : y < 2147483647) (hC : (L' + 1, oc) ∈ nw) (dc : oc.data = .cell (some (.ref P))) (hD : (D, LCg.lst ys) ∈ nw) (hrw : RowsIn nw ys ws) (hlen : ys.length ≤ 11) (k : LawK g L' sg sd so Q) :
    wpAny (model PR w) (callerA.deeper (envL L' fa cd)) (execs ((fdAt 28).2.1.drop 4) (envL L' fa cd)) Q (fun _ _ => False) ⟨h, sg, sd, tk, so⟩ := by
  refine opqL F [(Str.ofString "rows", .ref D)] (fc e11 fn) ?_
  intro m₀ F0
  clear F e11
  have zz0 : StopAt "call ref" := .mk
  have zz1 : StopAt "execs cons" := .mk
  k_steps
  unfold Halt
  refine' U_take ?kB ?kF ?kX ?kT rfl ?kd ?ku ?kN p1 p2 p3 (by decide) (by decide) (fun o' => .head hne) ?_
  (case kB => k_asm); (case kF => k_asm); (case kX => k_asm); (case kT => k_asm); (case kN => k_asm); (case kd => decide); (case ku => decide)
  intro v1 t1 h1 tk1 x1 y1 tx1 ty1 n1 v10 v11 a1 a2 a3 F1 N1
  clear F0 N
  dsimp only
  k_steps
  unfold Halt
  refine' U_take ?kB ?kF ?kX ?kT rfl ?kd ?ku ?kN a1 a2 a3 (by decide) (by decide) (fun o' => .head hne) ?_
  (case kB => k_asm); (case kF => k_asm); (case kX => k_asm); (case kT => k_asm); (case kN => k_asm); (case kd => decide); (case ku => decide)
  intro v2 t2 h2 tk2 x2 y2 tx2 ty2 n2 v20 v21 b1 b2 b3 F2 N2
  clear F1 N1
  dsimp only
  k_steps
  unfold Halt
  (rename News _ _ _ _ => N3)
  exact law5 B X Tp (by assumption) rfl rfl rfl (cb_drop N3 fun _ h => .tail _ h) hne b1 b2 b3 hC dc hD hrw hlen k
set_option maxHeartbeats 4000000 in
theorem law3 (B : Below callerA g [] g) (X : (KK w.params).In g) (Tp : Top p loose mean mg mb g) (F : Fr g L' h m) (N : News g L' h [(P, pool x y tx ty0 n), (L' + 1, oc)]) (hne : @Ne Nat (L' + 1) P) (p1 : 0 ≤ x) (p2 : 0 ≤ y) (p3 : y < 2147483647) (dc : oc.data = .cell (some (.ref P))) (k : LawK g L' sg sd so Q) :
    wpAny (model PR w) (callerA.deeper (envL L' fa cd)) (execs ((fdAt 28).2.1.drop 3) (envL L' fa cd)) Q (fun _ _ => False) ⟨h, sg, sd, tk, so⟩ := by
  have zz0 : StopAt "call ref" := .mk
  have zz1 : StopAt "execs cons" := .mk
  have zz2 : StopAt "exec Assign cons ListComp" := .mk
  have hne1 : ∀ q ∈ [(L' + 1, oc)], @Ne Nat q.1 P := fun q hq => by rw [List.mem_singleton.mp hq]; exact hne
  k_steps
  unfold Halt
  refine assign_rangeN (cl := [(Str.ofString "source", L' + 1)]) (RowsK P (L' + 1) oc) 11 (by decide) (by rfl) F (by rfl) (by with_unfolding_all rfl) (by with_unfolding_all rfl) (by decide) (by rfl) (by decide) (by rfl) (by rfl) (by rfl) ?_ ?_ ?_
  · intro Q' q
    clear k
    k_steps
    unfold Halt
    refine' U_take ?kB ?kF ?kX ?kT rfl ?kd ?ku ?kN p1 p2 p3 (by decide) (by decide) (fun o' => .head hne1) ?_
    (case kB => k_asm); (case kF => k_asm); (case kX => k_asm); (case kT => k_asm); (case kN => k_asm); (case kd => decide); (case ku => decide)
    intro v1 t1 h1 tk1 x1 y1 tx1 ty1 n1 v10 v11 a1 a2 a3 F1 N1
    clear F N
    dsimp only
    k_steps
    refine q _ _ _ _ _ _ _ ?zza (by assumption) (by assumption) (rangeNat (by assumption) v10) (RowsK.start a1 a2 a3) ⟨_, _, rfl⟩
    omega
  · clear F N k
    rintro s₂ ⟨h2, tk2, rfl⟩ i t ys nw I oI C oC D m₂ h tk E' hi hK hC hx F N off ne
    obtain ⟨x2, y2, tx2, ty2, n2, rest, ws, rfl, r1, r2, r3, hrs, hrw, hwl⟩ := hK
    dsimp only
    k_steps
    unfold Halt
    have e1 := neN (Ne.symm off.1.1)
    have e2 := neN (Ne.symm off.1.2.1)
    have e3 := neN (Ne.symm off.1.2.2)
    refine' U_word ?kB ?kF ?kX ?kT rfl ?kd ?ku ?kN r1 r2 r3 (news' := fun o' => (I, oI) :: (C, oC) :: (D, LCg.lst ys) :: (P, o') :: (L' + 1, oc) :: rest) (fun o' => .tail e1 (.tail e2 (.tail e3 (.head (List.forall_mem_cons.mpr ⟨hne, hrs⟩))))) ?_
    (case kB => k_asm); (case kF => k_asm); (case kX => k_asm); (case kT => k_asm); (case kN => k_asm); (case kd => decide); (case ku => decide)
    intro Dw o c t5 h5 tk5 x3 y3 tx3 ty3 n3 hw ho q1 q2 q3 hne5 hns5 F6 N6
    exact ⟨h5, tk5, _, rfl, F6, rows_turn N6, offRow off (Ne.symm (hne5 _ (.head _))) (Ne.symm (hne5 _ (.tail _ (.head _)))) (Ne.symm (hne5 _ (.tail _ (.tail _ (.head _))))), trivial, x3, y3, tx3, ty3, n3, (Dw, o) :: rest, ws ++ [⟨c, t5, _⟩], rfl, q1, q2, q3, List.forall_mem_cons.mpr ⟨hns5, hrs⟩,
      (hrw.sub fun _ hq => .tail _ hq).snoc (.head _) ho hw, by rw [List.length_append, hwl]; rfl⟩
  · clear F N
    rintro s₂ ⟨h2, tk2, rfl⟩ i ys nw D h tk hn hK F N off
    obtain ⟨x2, y2, tx2, ty2, n2, rest, ws, rfl, r1, r2, r3, hrs, hrw, hwl⟩ := hK
    dsimp only
    k_steps
    unfold Halt
    refine' law4 B X Tp ?kF ?e11 ?kN ?hne r1 r2 r3 ?hC dc ?hD ?hrw ?hlen k
    (case kF => assumption); (case e11 => exact rfl); (case kN => exact swap12 (by assumption))
    (case hne => exact List.forall_mem_cons.mpr ⟨Ne.symm off.1, List.forall_mem_cons.mpr ⟨hne, hrs⟩⟩)
    (case hC => exact .tail _ (.head _)); (case hD => exact .head _); (case hrw => exact hrw.sub fun _ h => .tail _ (.tail _ h))
    (case hlen => rw [hrw.length, hwl]; exact hn)
set_option maxHeartbeats 4000000 in
theorem law0 {vs : List Value} {ns : List Int} {cv : Option Value} (B : Below callerA g [] g) (X : (KK w.params).In g) (Tp : Top p loose mean mg mb g) (F : Fr g L' h m) (e14 : m (Str.ofString "script") = some (.ref S)) (N : News g L' h [(L' + 1, oc)]) (hl : g.IsList S vs.toArray) (hi : IntsAre vs ns) (hn : ns.length ≤ 63) (dc : oc.data = .cell cv) (k : LawK g L' sg sd so Q) :
    wpAny (model PR w) (callerA.deeper (envL L' fa cd)) (execs ((fdAt 28).2.1.drop 0) (envL L' fa cd)) Q (fun _ _ => False) ⟨h, sg, sd, tk, so⟩ := by
  refine opqL F [(Str.ofString "script", .ref S)] (fc e14 fn) ?_
  intro m₀ F0
  clear F e14
  have zz0 : StopAt "call ref" := .mk
  have zz1 : StopAt "execs cons" := .mk
  k_steps
  unfold Halt
  refine wpAny_execs_cons ?_
  k_steps
  unfold Halt
  refine' U_signs2 ?kB ?kF ?kX ?kT rfl ?kd ?ku ?kN ?h1 wordO4 ?h2 wordO4 sig1 ?_
  (case kB => k_asm); (case kF => k_asm); (case kX => k_asm); (case kT => k_asm); (case kN => k_asm); (case kd => decide); (case ku => decide); (case h1 => exact .head _); (case h2 => exact .tail _ (.head _))
  intro t1 h1 tk1 F1 N1
  dsimp only
  k_sweep
  k_steps
  unfold Halt
  refine' U_signs2 ?kB ?kF ?kX ?kT rfl ?kd ?ku ?kN ?h1 wordO4 ?h2 wordO4 sig6 ?_
  (case kB => k_asm); (case kF => k_asm); (case kX => k_asm); (case kT => k_asm); (case kN => k_asm); (case kd => decide); (case ku => decide); (case h1 => exact .tail _ (.head _)); (case h2 => exact .tail _ (.head _))
  intro t2 h2 tk2 F2 N2
  dsimp only
  k_sweep
  k_steps
  unfold Halt
  refine wpAny_execs_cons ?_
  have N3 := cb_drop (news := [(L' + 1, oc)]) N2 fun _ h => .tail _ (.tail _ h)
  clear N2
  k_steps
  unfold Halt
  refine' U_pool ?kB ?kF ?kX ?kT rfl ?kd ?ku ?kN (Fr.lst F2 hl) hi hn ?_
  (case kB => k_asm); (case kF => k_asm); (case kX => k_asm); (case kT => k_asm); (case kN => k_asm); (case kd => decide); (case ku => decide)
  intro D x1 y1 tx1 ty1 n1 h3 tk3 a1 a2 a3 hne F3 N4
  clear F2 N3
  dsimp only
  k_steps
  unfold Halt
  exact law3 B X Tp (by assumption) (by assumption) (hne _ (.head _)) a1 a2 a3 (by assumption) k
end
end
end Mine
open PySem PySem.W PyProof.Rows PySem.Calls PySem.Spec Mine
set_option maxHeartbeats 8000000 in
theorem PySem.Challenge.cw_xm0164_01_holds : PySem.Challenge.rw_xm0164_01.Holds := by
  w_on
  o_law
  refine holds_open (q := view) (loose := [Str.ofString "ChanError"]) (Xt := fun s => xlAt view [] s && recOk (RowW.records (OpenRow.toRowW PySem.Challenge.rw_xm0164_01.row)) s) (XP := XL view []) (Yf := Hook.obs HK) (Ya := Hook.val HK) (YP := Hook.says HK) (N := 2750) ?hl (Hook.of HK) (Hook.keeps HK) (fun s e => xl_of s (Bool.and_eq_true_iff.mp e).1) XL.keeps (by rfl) (by rfl) (by rfl) (fun s e => recFacts_of (Bool.and_eq_true_iff.mp e).2) (by rfl) (by first | assumption | decide +kernel) (by decide +kernel) ⟨rfl, rfl, rfl, rfl, rfl, by decide +kernel⟩ ?hw ?hc
  case hl =>
    intro w
    kernel_rfl
  case hw => w_witness2
  k_go0
  all_goals (try k_fold)
  (rename Shared => s1)
  (rename Below _ _ _ _ => B')
  (rename (Frag.In _ _) => X')
  (rename (Top _ _ _ _ _ _) => T')
  (rename Fr _ _ _ _ => F0)
  (rename News _ _ _ _ => N0)
  (rename IntsAre _ _ => hI)
  (rename (Heap.IsList _ _ _) => hL)
  (rename (Shared.gens _ = _) => hgens)
  (rename (¬ _ < _) => hcond)
  (rename (Obj.data _ = _) => d0)
  refine anyQF ?_
  intro Q9 hQ9
  refine' law0 (cv := _) ?zzkB ?zzkX ?zzkT ?zzkF ?zze14 ?zzkN ?zzhl ?zzhi ?zzhn ?zzdc ?zzk
  (case zzkB => exact B')
  (case zzkX => exact X')
  (case zzkT => exact T')
  (case zzkF => exact F0)
  (case zze14 => exact rfl)
  (case zzkN => exact N0)
  (case zzhl => exact hL)
  (case zzhi => exact hI)
  (case zzhn => omega)
  (case zzdc => exact d0)
  intro h tk m F
  refine hQ9 (.ret (.bool true)) _ ?_
  clear hQ9
  k_steps

