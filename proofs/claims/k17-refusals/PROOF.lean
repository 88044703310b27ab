import PyProof.Rows.All
import Wide.All
import OpenK.AllK
import Wide.FinOn
import HandS.ForMost
import HandS.ForExc
import HandS.IsInst
import HandS.Zip
import HandS.Wide
import HandS.Small
import HandS.Style
import HandS.Deep
import HandS.ClsMeth
import HandS.TupMul
import HandS.WideMore
import HandS.WideBits
import HandS.StrMore
import HandS.Exc
import HandS.ExcIs
import HandS.ExcField
import KE.KExcIs
import HandS.ExcOwn
import HandS.Head0
import HandS.Head1
import HandS.Head2
import HandS.Dict
import HandS.More
import HandS.DictComp
import HandS.Finally
import HandS.ExcInit
import HandS.ExcCtx
import HandS.Hot
import PySem.Challenge.RW_pactway_k17_refusals
set_option Elab.async false
set_option linter.all false
set_option maxRecDepth 100000
set_option maxHeartbeats 4000000
namespace HeadK
open PySem PySem.W PySem.Calls PyProof.Rows L2
def tp (i : Nat) : Stmt := PySem.Challenge.pw_pactway_k17_refusals.main.body.getD i (.Pass ⟨0, 0, 0, 0⟩)
abbrev R : OpenRow := OpenLaw.row PySem.Challenge.rw_pactway_k17_refusals
abbrev q : Program := view R.prog [1, 2, 3, 4, 5, 6, 7, 8, 9, 10, 11, 13, 14, 15, 16, 17, 18, 19, 20]
def K (P : Params) : Frag :=
  (nat_lit 2, { cls := Value.none, data := Data.dict #[] }) ::
  (nat_lit 3, { cls := Value.type "dict", data := Data.dict #[{ hash := PyData.keyHash P (Str.ofString "__name__"), key := Value.str (Str.ofString "__name__") 165, val := Value.str (Str.ofString "law_pactway_k17_refusals") 425 }, { hash := PyData.keyHash P (Str.ofString "__doc__"), key := Value.str (Str.ofString "__doc__") 166, val := Value.none }, { hash := PyData.keyHash P (Str.ofString "__package__"), key := Value.str (Str.ofString "__package__") 167, val := Value.none }, { hash := PyData.keyHash P (Str.ofString "__loader__"), key := Value.str (Str.ofString "__loader__") 168, val := Value.builtin "__main__.__loader__#opaque" }, { hash := PyData.keyHash P (Str.ofString "__spec__"), key := Value.str (Str.ofString "__spec__") 169, val := Value.none }, { hash := PyData.keyHash P (Str.ofString "__annotations__"), key := Value.str (Str.ofString "__annotations__") 170, val := Value.ref 6 }, { hash := PyData.keyHash P (Str.ofString "__builtins__"), key := Value.str (Str.ofString "__builtins__") 171, val := Value.ref 4 }, { hash := PyData.keyHash P (Str.ofString "__file__"), key := Value.str (Str.ofString "__file__") 173, val := Value.str (Str.ofString "/claim/cut.py") 172 }, { hash := PyData.keyHash P (Str.ofString "__cached__"), key := Value.str (Str.ofString "__cached__") 174, val := Value.none }, { hash := PyData.keyHash P (Str.ofString "PactError"), key := Value.str (Str.ofString "PactError") 206, val := Value.ref 24 }, { hash := PyData.keyHash P (Str.ofString "NoText"), key := Value.str (Str.ofString "NoText") 231, val := Value.ref 44 }, { hash := PyData.keyHash P (Str.ofString "NoName"), key := Value.str (Str.ofString "NoName") 256, val := Value.ref 63 }, { hash := PyData.keyHash P (Str.ofString "CalmRoom"), key := Value.str (Str.ofString "CalmRoom") 281, val := Value.ref 82 }, { hash := PyData.keyHash P (Str.ofString "NoDeed"), key := Value.str (Str.ofString "NoDeed") 306, val := Value.ref 101 }, { hash := PyData.keyHash P (Str.ofString "TooMany"), key := Value.str (Str.ofString "TooMany") 322, val := Value.ref 113 }, { hash := PyData.keyHash P (Str.ofString "Breach"), key := Value.str (Str.ofString "Breach") 351, val := Value.ref 132 }, { hash := PyData.keyHash P (Str.ofString "NoStand"), key := Value.str (Str.ofString "NoStand") 367, val := Value.ref 144 }, { hash := PyData.keyHash P (Str.ofString "NoPair"), key := Value.str (Str.ofString "NoPair") 383, val := Value.ref 156 }, { hash := PyData.keyHash P (Str.ofString "NoChange"), key := Value.str (Str.ofString "NoChange") 408, val := Value.ref 175 }, { hash := PyData.keyHash P (Str.ofString "NoRow"), key := Value.str (Str.ofString "NoRow") 424, val := Value.ref 187 }, { hash := PyData.keyHash P (Str.ofString "_law_stream"), key := Value.str (Str.ofString "_law_stream") 437, val := Value.ref 196 }, { hash := PyData.keyHash P (Str.ofString "_law_thing"), key := Value.str (Str.ofString "_law_thing") 443, val := Value.ref 201 }, { hash := PyData.keyHash P (Str.ofString "_law_refuse"), key := Value.str (Str.ofString "_law_refuse") 453, val := Value.ref 208 }, { hash := PyData.keyHash P (Str.ofString "_law_classes"), key := Value.str (Str.ofString "_law_classes") 461, val := Value.ref 215 }, { hash := PyData.keyHash P (Str.ofString "_law_alike"), key := Value.str (Str.ofString "_law_alike") 469, val := Value.ref 222 }, { hash := PyData.keyHash P (Str.ofString "_law_fields"), key := Value.str (Str.ofString "_law_fields") 480, val := Value.ref 229 }, { hash := PyData.keyHash P (Str.ofString "_law_right"), key := Value.str (Str.ofString "_law_right") 486, val := Value.ref 234 }, { hash := PyData.keyHash P (Str.ofString "law"), key := Value.str (Str.ofString "law") 495, val := Value.ref 241 }] 28 }) ::
  (nat_lit 15, { cls := Value.type "tuple", data := Data.seq #[Value.type "ValueError"] }) ::
  (nat_lit 22, { cls := Value.type "tuple", data := Data.seq #[] }) ::
  (nat_lit 23, { cls := Value.type "dict", data := Data.dict #[{ hash := PyData.keyHash P (Str.ofString "__module__"), key := Value.str (Str.ofString "__module__") 196, val := Value.str (Str.ofString "pactway.errors") 187 }, { hash := PyData.keyHash P (Str.ofString "__firstlineno__"), key := Value.str (Str.ofString "__firstlineno__") 200, val := Value.int 2 199 }, { hash := PyData.keyHash P (Str.ofString "__static_attributes__"), key := Value.str (Str.ofString "__static_attributes__") 201, val := Value.ref 22 }, { hash := PyData.keyHash P (Str.ofString "__weakref__"), key := Value.str (Str.ofString "__weakref__") 203, val := Value.ref 25 }, { hash := PyData.keyHash P (Str.ofString "__doc__"), key := Value.str (Str.ofString "__doc__") 204, val := Value.none }] 3 }) ::
  (nat_lit 24, { cls := Value.type "type", data := Data.cls { name := Str.ofString "PactError", bases := [Value.type "ValueError"], mro := [Value.ref 24, Value.type "ValueError", Value.type "Exception", Value.type "BaseException", Value.type "object"], ns := 23, qualname := Str.ofString "PactError", subclasses := [Value.ref 44, Value.ref 63, Value.ref 82, Value.ref 101, Value.ref 113, Value.ref 132, Value.ref 144, Value.ref 156, Value.ref 175, Value.ref 187] }, slots := #[Option.some (Value.ref 15), Option.none, Option.some (Value.str (Str.ofString "PactError") 189), Option.some (Value.str (Str.ofString "PactError") 197), Option.some (Value.builtin "ValueError.__new__"), Option.some (Value.bool Bool.true)] }) ::
  (nat_lit 25, { cls := Value.type "getset_descriptor", data := Data.fields #[Value.str (Str.ofString "__weakref__") 202, Value.ref 24, Value.builtin "ExceptionGroup.__weakref__", Value.none] }) ::
  (nat_lit 28, { cls := Value.type "tuple", data := Data.seq #[Value.ref 24] }) ::
  (nat_lit 35, { cls := Value.type "tuple", data := Data.seq #[] }) ::
  (nat_lit 37, { cls := Value.type "tuple", data := Data.seq #[Value.str (Str.ofString "self") 222, Value.str (Str.ofString "row") 223] }) ::
  (nat_lit 38, { cls := Value.type "tuple", data := Data.seq #[] }) ::
  (nat_lit 40, { cls := Value.type "code", data := Data.fields #[Value.str (Str.ofString "__init__") 219, Value.str (Str.ofString "NoText.__init__") 220, Value.str (Str.ofString "/claim/cut.py") 221, Value.int 6 0, Value.int 2 0, Value.int 0 0, Value.int 0 0, Value.int 3 0, Value.ref 35, Value.bool Bool.true, Value.int 181 0, Value.ref 36, Value.none, Value.ref 37, Value.ref 38, Value.ref 39, Value.int 224 0, Value.int 6 0, Value.str (Str.ofString "/claim/cut.py") 225] }) ::
  (nat_lit 41, { cls := Value.type "function", data := Data.func { name := Str.ofString "__init__", qualname := Str.ofString "NoText.__init__", params := defArgs (inClass (tp 2) 0), body := FuncBody.stmts (defBody (inClass (tp 2) 0)), scope := defScope (inClass (tp 2) 0), globals := 3, closure := [], defaults := Value.none, kwdefaults := Value.none, pyModule := Value.str (Str.ofString "pactway.errors") 187, code := Value.ref 40 } }) ::
  (nat_lit 42, { cls := Value.type "tuple", data := Data.seq #[Value.str (Str.ofString "row") 227] }) ::
  (nat_lit 43, { cls := Value.type "dict", data := Data.dict #[{ hash := PyData.keyHash P (Str.ofString "__module__"), key := Value.str (Str.ofString "__module__") 214, val := Value.str (Str.ofString "pactway.errors") 187 }, { hash := PyData.keyHash P (Str.ofString "__firstlineno__"), key := Value.str (Str.ofString "__firstlineno__") 218, val := Value.int 4 217 }, { hash := PyData.keyHash P (Str.ofString "__init__"), key := Value.str (Str.ofString "__init__") 226, val := Value.ref 41 }, { hash := PyData.keyHash P (Str.ofString "__static_attributes__"), key := Value.str (Str.ofString "__static_attributes__") 228, val := Value.ref 42 }, { hash := PyData.keyHash P (Str.ofString "__doc__"), key := Value.str (Str.ofString "__doc__") 229, val := Value.none }] 2 }) ::
  (nat_lit 44, { cls := Value.type "type", data := Data.cls { name := Str.ofString "NoText", bases := [Value.ref 24], mro := [Value.ref 44, Value.ref 24, Value.type "ValueError", Value.type "Exception", Value.type "BaseException", Value.type "object"], ns := 43, qualname := Str.ofString "NoText" }, slots := #[Option.some (Value.ref 28), Option.none, Option.some (Value.str (Str.ofString "NoText") 207), Option.some (Value.str (Str.ofString "NoText") 215), Option.some (Value.builtin "ValueError.__new__"), Option.some (Value.bool Bool.true)] }) ::
  (nat_lit 47, { cls := Value.type "tuple", data := Data.seq #[Value.ref 24] }) ::
  (nat_lit 54, { cls := Value.type "tuple", data := Data.seq #[] }) ::
  (nat_lit 56, { cls := Value.type "tuple", data := Data.seq #[Value.str (Str.ofString "self") 247, Value.str (Str.ofString "word") 248] }) ::
  (nat_lit 57, { cls := Value.type "tuple", data := Data.seq #[] }) ::
  (nat_lit 59, { cls := Value.type "code", data := Data.fields #[Value.str (Str.ofString "__init__") 244, Value.str (Str.ofString "NoName.__init__") 245, Value.str (Str.ofString "/claim/cut.py") 246, Value.int 10 0, Value.int 2 0, Value.int 0 0, Value.int 0 0, Value.int 3 0, Value.ref 54, Value.bool Bool.true, Value.int 181 0, Value.ref 55, Value.none, Value.ref 56, Value.ref 57, Value.ref 58, Value.int 249 0, Value.int 10 0, Value.str (Str.ofString "/claim/cut.py") 250] }) ::
  (nat_lit 60, { cls := Value.type "function", data := Data.func { name := Str.ofString "__init__", qualname := Str.ofString "NoName.__init__", params := defArgs (inClass (tp 3) 0), body := FuncBody.stmts (defBody (inClass (tp 3) 0)), scope := defScope (inClass (tp 3) 0), globals := 3, closure := [], defaults := Value.none, kwdefaults := Value.none, pyModule := Value.str (Str.ofString "pactway.errors") 187, code := Value.ref 59 } }) ::
  (nat_lit 61, { cls := Value.type "tuple", data := Data.seq #[Value.str (Str.ofString "word") 252] }) ::
  (nat_lit 62, { cls := Value.type "dict", data := Data.dict #[{ hash := PyData.keyHash P (Str.ofString "__module__"), key := Value.str (Str.ofString "__module__") 239, val := Value.str (Str.ofString "pactway.errors") 187 }, { hash := PyData.keyHash P (Str.ofString "__firstlineno__"), key := Value.str (Str.ofString "__firstlineno__") 243, val := Value.int 8 242 }, { hash := PyData.keyHash P (Str.ofString "__init__"), key := Value.str (Str.ofString "__init__") 251, val := Value.ref 60 }, { hash := PyData.keyHash P (Str.ofString "__static_attributes__"), key := Value.str (Str.ofString "__static_attributes__") 253, val := Value.ref 61 }, { hash := PyData.keyHash P (Str.ofString "__doc__"), key := Value.str (Str.ofString "__doc__") 254, val := Value.none }] 2 }) ::
  (nat_lit 63, { cls := Value.type "type", data := Data.cls { name := Str.ofString "NoName", bases := [Value.ref 24], mro := [Value.ref 63, Value.ref 24, Value.type "ValueError", Value.type "Exception", Value.type "BaseException", Value.type "object"], ns := 62, qualname := Str.ofString "NoName" }, slots := #[Option.some (Value.ref 47), Option.none, Option.some (Value.str (Str.ofString "NoName") 232), Option.some (Value.str (Str.ofString "NoName") 240), Option.some (Value.builtin "ValueError.__new__"), Option.some (Value.bool Bool.true)] }) ::
  (nat_lit 66, { cls := Value.type "tuple", data := Data.seq #[Value.ref 24] }) ::
  (nat_lit 73, { cls := Value.type "tuple", data := Data.seq #[] }) ::
  (nat_lit 75, { cls := Value.type "tuple", data := Data.seq #[Value.str (Str.ofString "self") 272, Value.str (Str.ofString "word") 273] }) ::
  (nat_lit 76, { cls := Value.type "tuple", data := Data.seq #[] }) ::
  (nat_lit 78, { cls := Value.type "code", data := Data.fields #[Value.str (Str.ofString "__init__") 269, Value.str (Str.ofString "CalmRoom.__init__") 270, Value.str (Str.ofString "/claim/cut.py") 271, Value.int 14 0, Value.int 2 0, Value.int 0 0, Value.int 0 0, Value.int 3 0, Value.ref 73, Value.bool Bool.true, Value.int 181 0, Value.ref 74, Value.none, Value.ref 75, Value.ref 76, Value.ref 77, Value.int 274 0, Value.int 14 0, Value.str (Str.ofString "/claim/cut.py") 275] }) ::
  (nat_lit 79, { cls := Value.type "function", data := Data.func { name := Str.ofString "__init__", qualname := Str.ofString "CalmRoom.__init__", params := defArgs (inClass (tp 4) 0), body := FuncBody.stmts (defBody (inClass (tp 4) 0)), scope := defScope (inClass (tp 4) 0), globals := 3, closure := [], defaults := Value.none, kwdefaults := Value.none, pyModule := Value.str (Str.ofString "pactway.errors") 187, code := Value.ref 78 } }) ::
  (nat_lit 80, { cls := Value.type "tuple", data := Data.seq #[Value.str (Str.ofString "word") 277] }) ::
  (nat_lit 81, { cls := Value.type "dict", data := Data.dict #[{ hash := PyData.keyHash P (Str.ofString "__module__"), key := Value.str (Str.ofString "__module__") 264, val := Value.str (Str.ofString "pactway.errors") 187 }, { hash := PyData.keyHash P (Str.ofString "__firstlineno__"), key := Value.str (Str.ofString "__firstlineno__") 268, val := Value.int 12 267 }, { hash := PyData.keyHash P (Str.ofString "__init__"), key := Value.str (Str.ofString "__init__") 276, val := Value.ref 79 }, { hash := PyData.keyHash P (Str.ofString "__static_attributes__"), key := Value.str (Str.ofString "__static_attributes__") 278, val := Value.ref 80 }, { hash := PyData.keyHash P (Str.ofString "__doc__"), key := Value.str (Str.ofString "__doc__") 279, val := Value.none }] 2 }) ::
  (nat_lit 82, { cls := Value.type "type", data := Data.cls { name := Str.ofString "CalmRoom", bases := [Value.ref 24], mro := [Value.ref 82, Value.ref 24, Value.type "ValueError", Value.type "Exception", Value.type "BaseException", Value.type "object"], ns := 81, qualname := Str.ofString "CalmRoom" }, slots := #[Option.some (Value.ref 66), Option.none, Option.some (Value.str (Str.ofString "CalmRoom") 257), Option.some (Value.str (Str.ofString "CalmRoom") 265), Option.some (Value.builtin "ValueError.__new__"), Option.some (Value.bool Bool.true)] }) ::
  (nat_lit 85, { cls := Value.type "tuple", data := Data.seq #[Value.ref 24] }) ::
  (nat_lit 92, { cls := Value.type "tuple", data := Data.seq #[] }) ::
  (nat_lit 94, { cls := Value.type "tuple", data := Data.seq #[Value.str (Str.ofString "self") 297, Value.str (Str.ofString "word") 298] }) ::
  (nat_lit 95, { cls := Value.type "tuple", data := Data.seq #[] }) ::
  (nat_lit 97, { cls := Value.type "code", data := Data.fields #[Value.str (Str.ofString "__init__") 294, Value.str (Str.ofString "NoDeed.__init__") 295, Value.str (Str.ofString "/claim/cut.py") 296, Value.int 18 0, Value.int 2 0, Value.int 0 0, Value.int 0 0, Value.int 3 0, Value.ref 92, Value.bool Bool.true, Value.int 181 0, Value.ref 93, Value.none, Value.ref 94, Value.ref 95, Value.ref 96, Value.int 299 0, Value.int 18 0, Value.str (Str.ofString "/claim/cut.py") 300] }) ::
  (nat_lit 98, { cls := Value.type "function", data := Data.func { name := Str.ofString "__init__", qualname := Str.ofString "NoDeed.__init__", params := defArgs (inClass (tp 5) 0), body := FuncBody.stmts (defBody (inClass (tp 5) 0)), scope := defScope (inClass (tp 5) 0), globals := 3, closure := [], defaults := Value.none, kwdefaults := Value.none, pyModule := Value.str (Str.ofString "pactway.errors") 187, code := Value.ref 97 } }) ::
  (nat_lit 99, { cls := Value.type "tuple", data := Data.seq #[Value.str (Str.ofString "word") 302] }) ::
  (nat_lit 100, { cls := Value.type "dict", data := Data.dict #[{ hash := PyData.keyHash P (Str.ofString "__module__"), key := Value.str (Str.ofString "__module__") 289, val := Value.str (Str.ofString "pactway.errors") 187 }, { hash := PyData.keyHash P (Str.ofString "__firstlineno__"), key := Value.str (Str.ofString "__firstlineno__") 293, val := Value.int 16 292 }, { hash := PyData.keyHash P (Str.ofString "__init__"), key := Value.str (Str.ofString "__init__") 301, val := Value.ref 98 }, { hash := PyData.keyHash P (Str.ofString "__static_attributes__"), key := Value.str (Str.ofString "__static_attributes__") 303, val := Value.ref 99 }, { hash := PyData.keyHash P (Str.ofString "__doc__"), key := Value.str (Str.ofString "__doc__") 304, val := Value.none }] 2 }) ::
  (nat_lit 101, { cls := Value.type "type", data := Data.cls { name := Str.ofString "NoDeed", bases := [Value.ref 24], mro := [Value.ref 101, Value.ref 24, Value.type "ValueError", Value.type "Exception", Value.type "BaseException", Value.type "object"], ns := 100, qualname := Str.ofString "NoDeed" }, slots := #[Option.some (Value.ref 85), Option.none, Option.some (Value.str (Str.ofString "NoDeed") 282), Option.some (Value.str (Str.ofString "NoDeed") 290), Option.some (Value.builtin "ValueError.__new__"), Option.some (Value.bool Bool.true)] }) ::
  (nat_lit 104, { cls := Value.type "tuple", data := Data.seq #[Value.ref 24] }) ::
  (nat_lit 111, { cls := Value.type "tuple", data := Data.seq #[] }) ::
  (nat_lit 112, { cls := Value.type "dict", data := Data.dict #[{ hash := PyData.keyHash P (Str.ofString "__module__"), key := Value.str (Str.ofString "__module__") 314, val := Value.str (Str.ofString "pactway.errors") 187 }, { hash := PyData.keyHash P (Str.ofString "__firstlineno__"), key := Value.str (Str.ofString "__firstlineno__") 318, val := Value.int 20 317 }, { hash := PyData.keyHash P (Str.ofString "__static_attributes__"), key := Value.str (Str.ofString "__static_attributes__") 319, val := Value.ref 111 }, { hash := PyData.keyHash P (Str.ofString "__doc__"), key := Value.str (Str.ofString "__doc__") 320, val := Value.none }] 2 }) ::
  (nat_lit 113, { cls := Value.type "type", data := Data.cls { name := Str.ofString "TooMany", bases := [Value.ref 24], mro := [Value.ref 113, Value.ref 24, Value.type "ValueError", Value.type "Exception", Value.type "BaseException", Value.type "object"], ns := 112, qualname := Str.ofString "TooMany" }, slots := #[Option.some (Value.ref 104), Option.none, Option.some (Value.str (Str.ofString "TooMany") 307), Option.some (Value.str (Str.ofString "TooMany") 315), Option.some (Value.builtin "ValueError.__new__"), Option.some (Value.bool Bool.true)] }) ::
  (nat_lit 116, { cls := Value.type "tuple", data := Data.seq #[Value.ref 24] }) ::
  (nat_lit 123, { cls := Value.type "tuple", data := Data.seq #[] }) ::
  (nat_lit 125, { cls := Value.type "tuple", data := Data.seq #[Value.str (Str.ofString "self") 338, Value.str (Str.ofString "who") 339, Value.str (Str.ofString "what") 340, Value.str (Str.ofString "turn") 341] }) ::
  (nat_lit 126, { cls := Value.type "tuple", data := Data.seq #[] }) ::
  (nat_lit 128, { cls := Value.type "code", data := Data.fields #[Value.str (Str.ofString "__init__") 335, Value.str (Str.ofString "Breach.__init__") 336, Value.str (Str.ofString "/claim/cut.py") 337, Value.int 24 0, Value.int 4 0, Value.int 0 0, Value.int 0 0, Value.int 3 0, Value.ref 123, Value.bool Bool.true, Value.int 181 0, Value.ref 124, Value.none, Value.ref 125, Value.ref 126, Value.ref 127, Value.int 342 0, Value.int 24 0, Value.str (Str.ofString "/claim/cut.py") 343] }) ::
  (nat_lit 129, { cls := Value.type "function", data := Data.func { name := Str.ofString "__init__", qualname := Str.ofString "Breach.__init__", params := defArgs (inClass (tp 7) 0), body := FuncBody.stmts (defBody (inClass (tp 7) 0)), scope := defScope (inClass (tp 7) 0), globals := 3, closure := [], defaults := Value.none, kwdefaults := Value.none, pyModule := Value.str (Str.ofString "pactway.errors") 187, code := Value.ref 128 } }) ::
  (nat_lit 130, { cls := Value.type "tuple", data := Data.seq #[Value.str (Str.ofString "turn") 345, Value.str (Str.ofString "what") 346, Value.str (Str.ofString "who") 347] }) ::
  (nat_lit 131, { cls := Value.type "dict", data := Data.dict #[{ hash := PyData.keyHash P (Str.ofString "__module__"), key := Value.str (Str.ofString "__module__") 330, val := Value.str (Str.ofString "pactway.errors") 187 }, { hash := PyData.keyHash P (Str.ofString "__firstlineno__"), key := Value.str (Str.ofString "__firstlineno__") 334, val := Value.int 22 333 }, { hash := PyData.keyHash P (Str.ofString "__init__"), key := Value.str (Str.ofString "__init__") 344, val := Value.ref 129 }, { hash := PyData.keyHash P (Str.ofString "__static_attributes__"), key := Value.str (Str.ofString "__static_attributes__") 348, val := Value.ref 130 }, { hash := PyData.keyHash P (Str.ofString "__doc__"), key := Value.str (Str.ofString "__doc__") 349, val := Value.none }] 2 }) ::
  (nat_lit 132, { cls := Value.type "type", data := Data.cls { name := Str.ofString "Breach", bases := [Value.ref 24], mro := [Value.ref 132, Value.ref 24, Value.type "ValueError", Value.type "Exception", Value.type "BaseException", Value.type "object"], ns := 131, qualname := Str.ofString "Breach" }, slots := #[Option.some (Value.ref 116), Option.none, Option.some (Value.str (Str.ofString "Breach") 323), Option.some (Value.str (Str.ofString "Breach") 331), Option.some (Value.builtin "ValueError.__new__"), Option.some (Value.bool Bool.true)] }) ::
  (nat_lit 135, { cls := Value.type "tuple", data := Data.seq #[Value.ref 24] }) ::
  (nat_lit 142, { cls := Value.type "tuple", data := Data.seq #[] }) ::
  (nat_lit 143, { cls := Value.type "dict", data := Data.dict #[{ hash := PyData.keyHash P (Str.ofString "__module__"), key := Value.str (Str.ofString "__module__") 359, val := Value.str (Str.ofString "pactway.errors") 187 }, { hash := PyData.keyHash P (Str.ofString "__firstlineno__"), key := Value.str (Str.ofString "__firstlineno__") 363, val := Value.int 28 362 }, { hash := PyData.keyHash P (Str.ofString "__static_attributes__"), key := Value.str (Str.ofString "__static_attributes__") 364, val := Value.ref 142 }, { hash := PyData.keyHash P (Str.ofString "__doc__"), key := Value.str (Str.ofString "__doc__") 365, val := Value.none }] 2 }) ::
  (nat_lit 144, { cls := Value.type "type", data := Data.cls { name := Str.ofString "NoStand", bases := [Value.ref 24], mro := [Value.ref 144, Value.ref 24, Value.type "ValueError", Value.type "Exception", Value.type "BaseException", Value.type "object"], ns := 143, qualname := Str.ofString "NoStand" }, slots := #[Option.some (Value.ref 135), Option.none, Option.some (Value.str (Str.ofString "NoStand") 352), Option.some (Value.str (Str.ofString "NoStand") 360), Option.some (Value.builtin "ValueError.__new__"), Option.some (Value.bool Bool.true)] }) ::
  (nat_lit 147, { cls := Value.type "tuple", data := Data.seq #[Value.ref 24] }) ::
  (nat_lit 154, { cls := Value.type "tuple", data := Data.seq #[] }) ::
  (nat_lit 155, { cls := Value.type "dict", data := Data.dict #[{ hash := PyData.keyHash P (Str.ofString "__module__"), key := Value.str (Str.ofString "__module__") 375, val := Value.str (Str.ofString "pactway.errors") 187 }, { hash := PyData.keyHash P (Str.ofString "__firstlineno__"), key := Value.str (Str.ofString "__firstlineno__") 379, val := Value.int 30 378 }, { hash := PyData.keyHash P (Str.ofString "__static_attributes__"), key := Value.str (Str.ofString "__static_attributes__") 380, val := Value.ref 154 }, { hash := PyData.keyHash P (Str.ofString "__doc__"), key := Value.str (Str.ofString "__doc__") 381, val := Value.none }] 2 }) ::
  (nat_lit 156, { cls := Value.type "type", data := Data.cls { name := Str.ofString "NoPair", bases := [Value.ref 24], mro := [Value.ref 156, Value.ref 24, Value.type "ValueError", Value.type "Exception", Value.type "BaseException", Value.type "object"], ns := 155, qualname := Str.ofString "NoPair" }, slots := #[Option.some (Value.ref 147), Option.none, Option.some (Value.str (Str.ofString "NoPair") 368), Option.some (Value.str (Str.ofString "NoPair") 376), Option.some (Value.builtin "ValueError.__new__"), Option.some (Value.bool Bool.true)] }) ::
  (nat_lit 159, { cls := Value.type "tuple", data := Data.seq #[Value.ref 24] }) ::
  (nat_lit 166, { cls := Value.type "tuple", data := Data.seq #[] }) ::
  (nat_lit 168, { cls := Value.type "tuple", data := Data.seq #[Value.str (Str.ofString "self") 399, Value.str (Str.ofString "row") 400] }) ::
  (nat_lit 169, { cls := Value.type "tuple", data := Data.seq #[] }) ::
  (nat_lit 171, { cls := Value.type "code", data := Data.fields #[Value.str (Str.ofString "__init__") 396, Value.str (Str.ofString "NoChange.__init__") 397, Value.str (Str.ofString "/claim/cut.py") 398, Value.int 34 0, Value.int 2 0, Value.int 0 0, Value.int 0 0, Value.int 3 0, Value.ref 166, Value.bool Bool.true, Value.int 181 0, Value.ref 167, Value.none, Value.ref 168, Value.ref 169, Value.ref 170, Value.int 401 0, Value.int 34 0, Value.str (Str.ofString "/claim/cut.py") 402] }) ::
  (nat_lit 172, { cls := Value.type "function", data := Data.func { name := Str.ofString "__init__", qualname := Str.ofString "NoChange.__init__", params := defArgs (inClass (tp 10) 0), body := FuncBody.stmts (defBody (inClass (tp 10) 0)), scope := defScope (inClass (tp 10) 0), globals := 3, closure := [], defaults := Value.none, kwdefaults := Value.none, pyModule := Value.str (Str.ofString "pactway.errors") 187, code := Value.ref 171 } }) ::
  (nat_lit 173, { cls := Value.type "tuple", data := Data.seq #[Value.str (Str.ofString "row") 404] }) ::
  (nat_lit 174, { cls := Value.type "dict", data := Data.dict #[{ hash := PyData.keyHash P (Str.ofString "__module__"), key := Value.str (Str.ofString "__module__") 391, val := Value.str (Str.ofString "pactway.errors") 187 }, { hash := PyData.keyHash P (Str.ofString "__firstlineno__"), key := Value.str (Str.ofString "__firstlineno__") 395, val := Value.int 32 394 }, { hash := PyData.keyHash P (Str.ofString "__init__"), key := Value.str (Str.ofString "__init__") 403, val := Value.ref 172 }, { hash := PyData.keyHash P (Str.ofString "__static_attributes__"), key := Value.str (Str.ofString "__static_attributes__") 405, val := Value.ref 173 }, { hash := PyData.keyHash P (Str.ofString "__doc__"), key := Value.str (Str.ofString "__doc__") 406, val := Value.none }] 2 }) ::
  (nat_lit 175, { cls := Value.type "type", data := Data.cls { name := Str.ofString "NoChange", bases := [Value.ref 24], mro := [Value.ref 175, Value.ref 24, Value.type "ValueError", Value.type "Exception", Value.type "BaseException", Value.type "object"], ns := 174, qualname := Str.ofString "NoChange" }, slots := #[Option.some (Value.ref 159), Option.none, Option.some (Value.str (Str.ofString "NoChange") 384), Option.some (Value.str (Str.ofString "NoChange") 392), Option.some (Value.builtin "ValueError.__new__"), Option.some (Value.bool Bool.true)] }) ::
  (nat_lit 178, { cls := Value.type "tuple", data := Data.seq #[Value.ref 24] }) ::
  (nat_lit 185, { cls := Value.type "tuple", data := Data.seq #[] }) ::
  (nat_lit 186, { cls := Value.type "dict", data := Data.dict #[{ hash := PyData.keyHash P (Str.ofString "__module__"), key := Value.str (Str.ofString "__module__") 416, val := Value.str (Str.ofString "pactway.errors") 187 }, { hash := PyData.keyHash P (Str.ofString "__firstlineno__"), key := Value.str (Str.ofString "__firstlineno__") 420, val := Value.int 36 419 }, { hash := PyData.keyHash P (Str.ofString "__static_attributes__"), key := Value.str (Str.ofString "__static_attributes__") 421, val := Value.ref 185 }, { hash := PyData.keyHash P (Str.ofString "__doc__"), key := Value.str (Str.ofString "__doc__") 422, val := Value.none }] 2 }) ::
  (nat_lit 187, { cls := Value.type "type", data := Data.cls { name := Str.ofString "NoRow", bases := [Value.ref 24], mro := [Value.ref 187, Value.ref 24, Value.type "ValueError", Value.type "Exception", Value.type "BaseException", Value.type "object"], ns := 186, qualname := Str.ofString "NoRow" }, slots := #[Option.some (Value.ref 178), Option.none, Option.some (Value.str (Str.ofString "NoRow") 409), Option.some (Value.str (Str.ofString "NoRow") 417), Option.some (Value.builtin "ValueError.__new__"), Option.some (Value.bool Bool.true)] }) ::
  (nat_lit 190, { cls := Value.type "tuple", data := Data.seq #[] }) ::
  (nat_lit 192, { cls := Value.type "tuple", data := Data.seq #[Value.str (Str.ofString "_law_cell") 430, Value.str (Str.ofString "_law_many") 431, Value.str (Str.ofString "_law_found") 432, Value.str (Str.ofString "_law_number") 433, Value.str (Str.ofString "_law_k") 434] }) ::
  (nat_lit 193, { cls := Value.type "tuple", data := Data.seq #[] }) ::
  (nat_lit 195, { cls := Value.type "code", data := Data.fields #[Value.str (Str.ofString "_law_stream") 427, Value.str (Str.ofString "_law_stream") 428, Value.str (Str.ofString "/claim/cut.py") 429, Value.int 39 0, Value.int 2 0, Value.int 0 0, Value.int 0 0, Value.int 3 0, Value.ref 190, Value.bool Bool.true, Value.int 181 0, Value.ref 191, Value.none, Value.ref 192, Value.ref 193, Value.ref 194, Value.int 435 0, Value.int 39 0, Value.str (Str.ofString "/claim/cut.py") 436] }) ::
  (nat_lit 196, { cls := Value.type "function", data := Data.func { name := Str.ofString "_law_stream", qualname := Str.ofString "_law_stream", params := defArgs (tp 13), body := FuncBody.stmts (defBody (tp 13)), scope := defScope (tp 13), globals := 3, closure := [], defaults := Value.none, kwdefaults := Value.none, pyModule := Value.str (Str.ofString "law_pactway_k17_refusals") 425, code := Value.ref 195 } }) ::
  (nat_lit 197, { cls := Value.type "tuple", data := Data.seq #[] }) ::
  (nat_lit 200, { cls := Value.type "code", data := Data.fields #[Value.str (Str.ofString "_law_thing") 438, Value.str (Str.ofString "_law_thing") 439, Value.str (Str.ofString "/claim/cut.py") 440, Value.int 46 0, Value.int 1 0, Value.int 0 0, Value.int 0 0, Value.int 3 0, Value.ref 197, Value.bool Bool.true, Value.int 181 0, Value.ref 198, Value.none, Value.none, Value.none, Value.ref 199, Value.int 441 0, Value.int 46 0, Value.str (Str.ofString "/claim/cut.py") 442] }) ::
  (nat_lit 201, { cls := Value.type "function", data := Data.func { name := Str.ofString "_law_thing", qualname := Str.ofString "_law_thing", params := defArgs (tp 14), body := FuncBody.stmts (defBody (tp 14)), scope := defScope (tp 14), globals := 3, closure := [], defaults := Value.none, kwdefaults := Value.none, pyModule := Value.str (Str.ofString "law_pactway_k17_refusals") 425, code := Value.ref 200 } }) ::
  (nat_lit 202, { cls := Value.type "tuple", data := Data.seq #[] }) ::
  (nat_lit 204, { cls := Value.type "tuple", data := Data.seq #[Value.str (Str.ofString "_law_kind") 447, Value.str (Str.ofString "_law_one") 448, Value.str (Str.ofString "_law_two") 449, Value.str (Str.ofString "_law_three") 450] }) ::
  (nat_lit 205, { cls := Value.type "tuple", data := Data.seq #[] }) ::
  (nat_lit 207, { cls := Value.type "code", data := Data.fields #[Value.str (Str.ofString "_law_refuse") 444, Value.str (Str.ofString "_law_refuse") 445, Value.str (Str.ofString "/claim/cut.py") 446, Value.int 64 0, Value.int 4 0, Value.int 0 0, Value.int 0 0, Value.int 3 0, Value.ref 202, Value.bool Bool.true, Value.int 181 0, Value.ref 203, Value.none, Value.ref 204, Value.ref 205, Value.ref 206, Value.int 451 0, Value.int 64 0, Value.str (Str.ofString "/claim/cut.py") 452] }) ::
  (nat_lit 208, { cls := Value.type "function", data := Data.func { name := Str.ofString "_law_refuse", qualname := Str.ofString "_law_refuse", params := defArgs (tp 15), body := FuncBody.stmts (defBody (tp 15)), scope := defScope (tp 15), globals := 3, closure := [], defaults := Value.none, kwdefaults := Value.none, pyModule := Value.str (Str.ofString "law_pactway_k17_refusals") 425, code := Value.ref 207 } }) ::
  (nat_lit 209, { cls := Value.type "tuple", data := Data.seq #[] }) ::
  (nat_lit 211, { cls := Value.type "tuple", data := Data.seq #[Value.str (Str.ofString "_law_e") 457, Value.str (Str.ofString "_law_found") 458] }) ::
  (nat_lit 212, { cls := Value.type "tuple", data := Data.seq #[] }) ::
  (nat_lit 214, { cls := Value.type "code", data := Data.fields #[Value.str (Str.ofString "_law_classes") 454, Value.str (Str.ofString "_law_classes") 455, Value.str (Str.ofString "/claim/cut.py") 456, Value.int 84 0, Value.int 1 0, Value.int 0 0, Value.int 0 0, Value.int 3 0, Value.ref 209, Value.bool Bool.true, Value.int 181 0, Value.ref 210, Value.none, Value.ref 211, Value.ref 212, Value.ref 213, Value.int 459 0, Value.int 84 0, Value.str (Str.ofString "/claim/cut.py") 460] }) ::
  (nat_lit 215, { cls := Value.type "function", data := Data.func { name := Str.ofString "_law_classes", qualname := Str.ofString "_law_classes", params := defArgs (tp 16), body := FuncBody.stmts (defBody (tp 16)), scope := defScope (tp 16), globals := 3, closure := [], defaults := Value.none, kwdefaults := Value.none, pyModule := Value.str (Str.ofString "law_pactway_k17_refusals") 425, code := Value.ref 214 } }) ::
  (nat_lit 216, { cls := Value.type "tuple", data := Data.seq #[] }) ::
  (nat_lit 218, { cls := Value.type "tuple", data := Data.seq #[Value.str (Str.ofString "_law_found") 465, Value.str (Str.ofString "_law_due") 466] }) ::
  (nat_lit 219, { cls := Value.type "tuple", data := Data.seq #[] }) ::
  (nat_lit 221, { cls := Value.type "code", data := Data.fields #[Value.str (Str.ofString "_law_alike") 462, Value.str (Str.ofString "_law_alike") 463, Value.str (Str.ofString "/claim/cut.py") 464, Value.int 88 0, Value.int 2 0, Value.int 0 0, Value.int 0 0, Value.int 3 0, Value.ref 216, Value.bool Bool.true, Value.int 181 0, Value.ref 217, Value.none, Value.ref 218, Value.ref 219, Value.ref 220, Value.int 467 0, Value.int 88 0, Value.str (Str.ofString "/claim/cut.py") 468] }) ::
  (nat_lit 222, { cls := Value.type "function", data := Data.func { name := Str.ofString "_law_alike", qualname := Str.ofString "_law_alike", params := defArgs (tp 17), body := FuncBody.stmts (defBody (tp 17)), scope := defScope (tp 17), globals := 3, closure := [], defaults := Value.none, kwdefaults := Value.none, pyModule := Value.str (Str.ofString "law_pactway_k17_refusals") 425, code := Value.ref 221 } }) ::
  (nat_lit 223, { cls := Value.type "tuple", data := Data.seq #[] }) ::
  (nat_lit 225, { cls := Value.type "tuple", data := Data.seq #[Value.str (Str.ofString "_law_e") 473, Value.str (Str.ofString "_law_kind") 474, Value.str (Str.ofString "_law_one") 475, Value.str (Str.ofString "_law_two") 476, Value.str (Str.ofString "_law_three") 477] }) ::
  (nat_lit 226, { cls := Value.type "tuple", data := Data.seq #[] }) ::
  (nat_lit 228, { cls := Value.type "code", data := Data.fields #[Value.str (Str.ofString "_law_fields") 470, Value.str (Str.ofString "_law_fields") 471, Value.str (Str.ofString "/claim/cut.py") 472, Value.int 98 0, Value.int 5 0, Value.int 0 0, Value.int 0 0, Value.int 3 0, Value.ref 223, Value.bool Bool.true, Value.int 181 0, Value.ref 224, Value.none, Value.ref 225, Value.ref 226, Value.ref 227, Value.int 478 0, Value.int 98 0, Value.str (Str.ofString "/claim/cut.py") 479] }) ::
  (nat_lit 229, { cls := Value.type "function", data := Data.func { name := Str.ofString "_law_fields", qualname := Str.ofString "_law_fields", params := defArgs (tp 18), body := FuncBody.stmts (defBody (tp 18)), scope := defScope (tp 18), globals := 3, closure := [], defaults := Value.none, kwdefaults := Value.none, pyModule := Value.str (Str.ofString "law_pactway_k17_refusals") 425, code := Value.ref 228 } }) ::
  (nat_lit 230, { cls := Value.type "tuple", data := Data.seq #[] }) ::
  (nat_lit 233, { cls := Value.type "code", data := Data.fields #[Value.str (Str.ofString "_law_right") 481, Value.str (Str.ofString "_law_right") 482, Value.str (Str.ofString "/claim/cut.py") 483, Value.int 106 0, Value.int 4 0, Value.int 0 0, Value.int 0 0, Value.int 3 0, Value.ref 230, Value.bool Bool.true, Value.int 181 0, Value.ref 231, Value.none, Value.none, Value.none, Value.ref 232, Value.int 484 0, Value.int 106 0, Value.str (Str.ofString "/claim/cut.py") 485] }) ::
  (nat_lit 234, { cls := Value.type "function", data := Data.func { name := Str.ofString "_law_right", qualname := Str.ofString "_law_right", params := defArgs (tp 19), body := FuncBody.stmts (defBody (tp 19)), scope := defScope (tp 19), globals := 3, closure := [], defaults := Value.none, kwdefaults := Value.none, pyModule := Value.str (Str.ofString "law_pactway_k17_refusals") 425, code := Value.ref 233 } }) ::
  (nat_lit 235, { cls := Value.type "tuple", data := Data.seq #[] }) ::
  (nat_lit 237, { cls := Value.type "tuple", data := Data.seq #[Value.str (Str.ofString "_law_script") 490, Value.str (Str.ofString "_law_cell") 491, Value.str (Str.ofString "_law_xs") 492] }) ::
  (nat_lit 238, { cls := Value.type "tuple", data := Data.seq #[] }) ::
  (nat_lit 240, { cls := Value.type "code", data := Data.fields #[Value.str (Str.ofString "law") 487, Value.str (Str.ofString "law") 488, Value.str (Str.ofString "/claim/cut.py") 489, Value.int 114 0, Value.int 1 0, Value.int 0 0, Value.int 0 0, Value.int 3 0, Value.ref 235, Value.bool Bool.true, Value.int 181 0, Value.ref 236, Value.none, Value.ref 237, Value.ref 238, Value.ref 239, Value.int 493 0, Value.int 114 0, Value.str (Str.ofString "/claim/cut.py") 494] }) ::
  (nat_lit 241, { cls := Value.type "function", data := Data.func { name := Str.ofString "law", qualname := Str.ofString "law", params := defArgs (tp 20), body := FuncBody.stmts (defBody (tp 20)), scope := defScope (tp 20), globals := 3, closure := [], defaults := Value.none, kwdefaults := Value.none, pyModule := Value.str (Str.ofString "law_pactway_k17_refusals") 425, code := Value.ref 240 } }) :: []
def as : List Addr := [2, 3, 15, 22, 23, 24, 25, 28, 35, 37, 38, 40, 41, 42, 43, 44, 47, 54, 56, 57, 59, 60, 61, 62, 63, 66, 73, 75, 76, 78, 79, 80, 81, 82, 85, 92, 94, 95, 97, 98, 99, 100, 101, 104, 111, 112, 113, 116, 123, 125, 126, 128, 129, 130, 131, 132, 135, 142, 143, 144, 147, 154, 155, 156, 159, 166, 168, 169, 171, 172, 173, 174, 175, 178, 185, 186, 187, 190, 192, 193, 195, 196, 197, 200, 201, 202, 204, 205, 207, 208, 209, 211, 212, 214, 215, 216, 218, 219, 221, 222, 223, 225, 226, 228, 229, 230, 233, 234, 235, 237, 238, 240, 241]
theorem as_eq (P : Params) : as = (K P).map (·.1) := by kernel_rfl
def ob (s : SharedT) : List (Option Obj) := as.map (HandSHeadRun.getT s)
theorem ob_eq (s : SharedT) : ob s = (kHook K as as_eq).obs s.abs := by
  show as.map _ = as.map _
  exact List.map_congr_left fun a _ => HandSHeadRun.getT_eq s a
theorem two {α β γ : Type} {e : Option α} {f : α → β × γ} {z : β × γ} (h1 : e.map (fun s => (f s).1) = some z.1) (h2 : e.map (fun s => (f s).2) = some z.2) : e.map f = some z := by
  cases e with
  | none => cases h1
  | some s => exact congrArg some (Prod.ext (Option.some.inj h1) (Option.some.inj h2))
theorem three {α β γ δ : Type} {e : Option α} {f : α → β} {g : α → γ} {h : α → δ} {a : β} {b : γ} {c : δ} (h1 : e.map f = some a) (h2 : e.map g = some b) (h3 : e.map h = some c) : e.map (fun s => (f s, g s, h s)) = some (a, b, c) := by
  cases e with
  | none => cases h1
  | some s =>
    cases h1
    cases h2
    cases h3
    rfl
theorem run_a (w : World) (os : OsState) : (HandSHeadRun.endF (HandSHeadRun.stepQ (HandSHeadRun.denQ HandSHeadRun.tabQ) R.prog w) 2984 R.prog w os).map (fun s => HandSHeadRun.looksF R.prog (boot_heap w.params) s.abs) = some true := by
  kernel_rfl
theorem run_b1 (w : World) (os : OsState) : (HandSHeadRun.endF (HandSHeadRun.stepQ (HandSHeadRun.denQ HandSHeadRun.tabQ) R.prog w) 2984 R.prog w os).map (fun s => (HandSHeadRun.seenQ q [] (importedModules R.prog.main.body) (fun s => xlAt q [] s && recOk R.toRowW.records s) s.abs).1) = some (openGood q []).1 := by
  kernel_rfl
theorem run_b2 (w : World) (os : OsState) : (HandSHeadRun.endF (HandSHeadRun.stepQ (HandSHeadRun.denQ HandSHeadRun.tabQ) R.prog w) 2984 R.prog w os).map (fun s => (HandSHeadRun.seenQ q [] (importedModules R.prog.main.body) (fun s => xlAt q [] s && recOk R.toRowW.records s) s.abs).2) = some (openGood q []).2 := by
  kernel_rfl
theorem run_c (w : World) (os : OsState) : (HandSHeadRun.endF (HandSHeadRun.stepQ (HandSHeadRun.denQ HandSHeadRun.tabQ) R.prog w) 2984 R.prog w os).map (fun s => ob s) = some ((kHook K as as_eq).val w) := by
  kernel_rfl
theorem run (w : World) : HandSHeadRun.RunEq R q (kHook K as as_eq) ob 2984 [] w := fun os => three (run_a w os) (two (run_b1 w os) (run_b2 w os)) (run_c w os)
end HeadK
/-! EV0: values as trees (D), a small store for objects that are still being made, the relation to the heap. -/
namespace L2
open PySem PySem.Spec PyProof.Rows
/-- at a: an exception of the class cls, its dict at d -/
def excT (a : Addr) (cls : Value) (d : Option Addr) : HO := .ext fun h => ∃ oe, h.get? a = some oe ∧ L2N.Zn cls d oe ∧ ∃ vs, oe.data = .fields vs
theorem excT_ok {P : Program} {w : World} {H : Hp} {h : Heap} {a : Addr} {cls : Value} {d : Option Addr} {oe : Obj} {vs : Array Value} (he : h.get? a = some oe) (hz : L2N.Zn cls d oe) (hd : oe.data = .fields vs) : ObjOk P w H h a (excT a cls d) :=
  ⟨⟨oe, he, hz, vs, hd⟩, ⟨_, he⟩, fun h1 h2 z k => by
    obtain ⟨o, q, r⟩ := z
    exact ⟨o, k _ q, r⟩⟩
theorem excT_at {P : Program} {w : World} {H : Hp} {h : Heap} {a : Addr} {cls : Value} {d : Option Addr} (hok : HOk P w H h) (he : H a = some (excT a cls d)) : ∃ oe, h.get? a = some oe ∧ L2N.Zn cls d oe ∧ ∃ vs, oe.data = .fields vs := by
  have x : ObjOk P w H h a (.ext fun h => ∃ oe, h.get? a = some oe ∧ L2N.Zn cls d oe ∧ ∃ vs, oe.data = .fields vs) := hok a _ he
  exact x.1
/-- isinstance(e, c) of a tracked exception -/
def rIsX (K : PySem.W.Frag) : List V → Hp → VK → Prop := fun xs H Q => ∃ (a D : Addr) (d : Option Addr) (c : V) (cv : Value) (b : Bool), xs = [.ref a, c] ∧ ClsV c cv ∧ H a = some (excT a (.ref D) d) ∧ (d = none ∨ ∃ dx fs, d = some dx ∧ H dx = some (.xd fs)) ∧ ExcC K D ∧ PySem.W.kitOne K (.ref D) cv = some b ∧ Q (.bl b) H
theorem call_isX {X : Cx} : CallR X (.builtin "isinstance") (rIsX X.K) := by
  intro pins s σ H xs us Q I r h
  obtain ⟨a, D, d, c, cv, b, rfl, hcv, ha, hd, C, e, q⟩ := h
  obtain ⟨u1, u2, rfl, r1, r2⟩ := vals2 r
  have e2 := hcv.eq r2
  subst e2
  cases r1
  obtain ⟨oe, he, hz, vs, hv⟩ := excT_at I.hok ha
  have J : ∃ od, PySem.W.InstAt s.heap a oe D od := by
    rcases hd with hd | ⟨dx, fs, hd, hdx⟩
    · subst hd
      exact ⟨none, he, hz.1, by unfold PySem.W.notCls; rw [hv] <;> rfl, by rw [hz.2.1]; trivial⟩
    · subst hd
      have hx : ObjOk X.prog X.w H s.heap dx (.xd fs) := I.hok dx _ hdx
      obtain ⟨mA, hns, hr⟩ := hx
      obtain ⟨od, ho, hl⟩ := lookIn_ns hns
      exact ⟨some od, he, hz.1, by unfold PySem.W.notCls; rw [hv] <;> rfl, by rw [hz.2.1]; exact ho⟩
  obtain ⟨od, J⟩ := J
  have hcl : (PySem.W.clsIn X.K D).isSome = true := by
    obtain ⟨cd, hc, _⟩ := PySem.W.any_some C.hd
    rw [hc]; rfl
  exact PySem.W.kia_one (PySem.W.kitx_exc hcl C.hg C.hk C.hs C.ha C.hn C.ht C.hm) I.kIn J e (fun z => nomatch z) fun tk => ⟨.bl b, H, I.tok tk, rfl, q⟩
/-- e.n of a tracked exception -/
def tXfT (K : PySem.W.Frag) (n : Str) (te : TE) : TE := fun σ H Q => te σ H fun x H1 => ∃ (a C dd : Addr) (fs : List (Str × V)) (v : V), x = .ref a ∧ H1 a = some (excT a (.ref C) (some dd)) ∧ H1 dd = some (.xd fs) ∧ fs.lookup n = some v ∧ XfC K C ∧ PySem.W.findIn K (.ref C) n = some none ∧ Q v H1
theorem pe_xfT {X : Cx} {e : Expr} {te : TE} {pos : Pos} {n : Str} (he : PE X e te) (hb : attributeBase e n X.env (eval e X.env) = eval e X.env := by rfl) : PE X (.Attribute e n pos) (tXfT X.K n te) := by
  refine ⟨fun pins s σ H Q I h => ?_⟩
  refine attr_of hb (thn (he.run pins s σ H _ I h) fun u s1 hh => ?_)
  obtain ⟨x, H1, I1, rx, a, C, dd, fs, v, ex, hea, ea, l, T, hno, q⟩ := hh
  subst ex
  obtain rfl : u = Value.ref a := rx
  obtain ⟨oe, ha, hz, vs, hd⟩ := excT_at I1.hok hea
  have hx : ObjOk X.prog X.w H1 s1.heap dd (.xd fs) := I1.hok dd _ ea
  obtain ⟨mA, hns, hr⟩ := hx
  obtain ⟨od, ho, hl⟩ := lookIn_ns hns
  obtain ⟨u, hu, ru⟩ := RelO.some_of (v := v) (o := mA n) (by rw [← l]; exact hr n)
  have J : PySem.W.InstAt s1.heap a oe C (some od) := ⟨ha, hz.1, by unfold PySem.W.notCls; rw [hd] <;> rfl, by rw [hz.2.1]; exact ho⟩
  exact HandSPX.exc_get I1.kIn J T.ga T.gg T.exC (PySem.W.findObj_own T.hdC hno rfl (by rw [hl, hu])) (handed_of ru) ⟨v, H1, I1.tok _, ru, q⟩
end L2
namespace EV
open PySem L2
/-- a value as a tree: what never changes again -/
inductive D where
  | non | bl (b : Bool) | int (i : Int) | str (x : Str) | ref (a : Addr) | ty (n : String)
  | lst (xs : List D) | fls (xs : List D) | tup (xs : List D)
  | dct (ks : List Key) (vs : List D)
  | ins (c : Nat) (ks : List Nat) (vs : List D)
  | exc (c : Nat) (ks : List Nat) (vs : List D)
/-- a value of a frame: a tree, or an object of the frame's own store -/
inductive W where
  | d (x : D) | loc (n : Nat)
/-- what stands in the store -/
inductive OO where
  | lst (xs : List W)
  | dct (ks : List Key) (vs : List W)
  | ins (c : Nat) (ks : List Nat) (vs : List W)
  | tup (xs : List W)
abbrev Store := List (Option OO)
structure SS where
  env : List (Option W)
  st : Store
/-- an outcome: a value, or an exception of the class c with its fields -/
inductive Out (α : Type) where
  | ok (a : α) | ex (c : Nat) (ks : List Nat) (vs : List D)
abbrev EM (α : Type) := SS → Option (Out α × SS)
inductive Fl where
  | nx | ret (w : W) | brk | cnt
/-! ### the relation -/
/-- the text's facts: the written part, the classes by number, the names of fields by number -/
structure Kx where
  K : PySem.W.Frag
  ct : List Addr
  fn : List Str
  nd : fn.Nodup
def Kx.nm (c : Kx) (i : Nat) : Str := c.fn.getD i ""
abbrev Rho := List (Addr × Addr)
/-- a class of instances, and its fields -/
def FOk (c : Kx) (C : Addr) (ks : List Nat) : Prop := Cls c.K C ∧ ∀ i ∈ ks, i < c.fn.length ∧ NoAttr c.K C (c.nm i)
mutual
inductive RepD (c : Kx) (G : Hp) : D → V → Prop
  | non : RepD c G .non .non
  | bl (b : Bool) : RepD c G (.bl b) (.bl b)
  | int (i : Int) : RepD c G (.int i) (.int i)
  | str (x : Str) : RepD c G (.str x) (.str x)
  | ref (a : Addr) : RepD c G (.ref a) (.ref a)
  | ty (n : String) : RepD c G (.ty n) (.ty n)
  | lst {a : Addr} {ds : List D} {vs : List V} : G a = some (.lst vs) → RepDs c G ds vs → RepD c G (.lst ds) (.ref a)
  | fls {a : Addr} {ds : List D} {vs : List V} : SqL c.K G a vs → RepDs c G ds vs → RepD c G (.fls ds) (.ref a)
  | tup {a : Addr} {ds : List D} {vs : List V} : SqT c.K G a vs → RepDs c G ds vs → RepD c G (.tup ds) (.ref a)
  | dct {a : Addr} {ks : List Key} {ds : List D} {vs : List V} : G a = some (.dK (ks.zip vs)) → ks.length = ds.length → RepDs c G ds vs → RepD c G (.dct ks ds) (.ref a)
  | ins {a dx C : Addr} {k : Nat} {ks : List Nat} {ds : List D} {vs : List V} : c.ct[k]? = some C → FOk c C ks → G a = some (.ins C dx ((ks.map c.nm).zip vs)) → G dx = some (.own a) → ks.length = ds.length → RepDs c G ds vs → RepD c G (.ins k ks ds) (.ref a)
  | exc0 {a C : Addr} {k : Nat} : c.ct[k]? = some C → G a = some (excT a (.ref C) none) → RepD c G (.exc k [] []) (.ref a)
  | excD {a C dx : Addr} {k : Nat} {ks : List Nat} {ds : List D} {vs : List V} : c.ct[k]? = some C → G a = some (excT a (.ref C) (some dx)) → G dx = some (.xd ((ks.map c.nm).zip vs)) → ks.length = ds.length → RepDs c G ds vs → RepD c G (.exc k ks ds) (.ref a)
inductive RepDs (c : Kx) (G : Hp) : List D → List V → Prop
  | nil : RepDs c G [] []
  | cons {d : D} {v : V} {ds : List D} {vs : List V} : RepD c G d v → RepDs c G ds vs → RepDs c G (d :: ds) (v :: vs)
end
section
variable {c : Kx} {G G' : Hp}
theorem SqT.same {K : PySem.W.Frag} {H H' : Hp} {a : Addr} {xs : List V} (e : Same H H') (h : SqT K H a xs) : SqT K H' a xs := by
  rcases h with (h | ⟨o, h⟩) | h
  · exact .inl (.inl (e _ _ h))
  · exact .inl (.inr ⟨o, e _ _ h⟩)
  · exact .inr h
mutual
theorem RepD.mono (e : Same G G') : ∀ {d : D} {v : V}, RepD c G d v → RepD c G' d v
  | _, _, .non => .non
  | _, _, .bl b => .bl b
  | _, _, .int i => .int i
  | _, _, .str x => .str x
  | _, _, .ref a => .ref a
  | _, _, .ty n => .ty n
  | _, _, .lst h r => .lst (e _ _ h) (RepDs.mono e r)
  | _, _, .fls h r => .fls (e.seq h) (RepDs.mono e r)
  | _, _, .tup h r => .tup (SqT.same e h) (RepDs.mono e r)
  | _, _, .dct h l r => .dct (e _ _ h) l (RepDs.mono e r)
  | _, _, .ins hc f h h2 l r => .ins hc f (e _ _ h) (e _ _ h2) l (RepDs.mono e r)
  | _, _, .exc0 hc h => .exc0 hc (e _ _ h)
  | _, _, .excD hc h h2 l r => .excD hc (e _ _ h) (e _ _ h2) l (RepDs.mono e r)
theorem RepDs.mono (e : Same G G') : ∀ {ds : List D} {vs : List V}, RepDs c G ds vs → RepDs c G' ds vs
  | _, _, .nil => .nil
  | _, _, .cons h r => .cons (RepD.mono e h) (RepDs.mono e r)
end
theorem RepDs.len : ∀ {ds : List D} {vs : List V}, RepDs c G ds vs → vs.length = ds.length
  | _, _, .nil => rfl
  | _, _, .cons _ r => congrArg (· + 1) (RepDs.len r)
theorem RepDs.get : ∀ {ds : List D} {vs : List V} {i : Nat} {d : D}, RepDs c G ds vs → ds[i]? = some d → ∃ v, vs[i]? = some v ∧ RepD c G d v
  | _, _, _, _, .nil, e => by simp at e
  | _, _, 0, _, .cons r _, e => by simp at e; subst e; exact ⟨_, rfl, r⟩
  | _, _, i + 1, d, .cons _ t, e => by
    obtain ⟨u, h1, h2⟩ := RepDs.get (i := i) (d := d) t (by simpa using e)
    exact ⟨u, by simpa using h1, h2⟩
theorem RepDs.app : ∀ {ds es : List D} {vs us : List V}, RepDs c G ds vs → RepDs c G es us → RepDs c G (ds ++ es) (vs ++ us)
  | _, _, _, _, .nil, s => s
  | _, _, _, _, .cons r t, s => .cons r (RepDs.app t s)
theorem RepDs.take : ∀ {ds : List D} {vs : List V} (n : Nat), RepDs c G ds vs → RepDs c G (ds.take n) (vs.take n)
  | _, _, 0, _ => .nil
  | _, _, _ + 1, .nil => .nil
  | _, _, n + 1, .cons r t => .cons r (RepDs.take n t)
theorem RepDs.drop : ∀ {ds : List D} {vs : List V} (n : Nat), RepDs c G ds vs → RepDs c G (ds.drop n) (vs.drop n)
  | _, _, 0, r => r
  | _, _, _ + 1, .nil => .nil
  | _, _, n + 1, .cons _ t => RepDs.drop n t
end
/-- a frame's value -/
def RepW (c : Kx) (ρ : Rho) (G : Hp) : W → V → Prop
  | .d x, v => RepD c G x v
  | .loc n, v => ∃ p, ρ[n]? = some p ∧ v = .ref p.1
def RepWs (c : Kx) (ρ : Rho) (G : Hp) : List W → List V → Prop
  | [], vs => vs = []
  | w :: ws, vs => ∃ v r, vs = v :: r ∧ RepW c ρ G w v ∧ RepWs c ρ G ws r
section
variable {c : Kx} {ρ ρ' : Rho} {G G' : Hp}
theorem RepWs.len : ∀ {ws : List W} {vs : List V}, RepWs c ρ G ws vs → vs.length = ws.length
  | [], _, h => by subst h; rfl
  | _ :: _, _, ⟨_, _, e, _, t⟩ => by subst e; exact congrArg (· + 1) (RepWs.len t)
theorem RepWs.get : ∀ {ws : List W} {vs : List V} {i : Nat} {w : W}, RepWs c ρ G ws vs → ws[i]? = some w → ∃ v, vs[i]? = some v ∧ RepW c ρ G w v
  | [], _, _, _, _, e => by simp at e
  | _ :: _, _, 0, _, ⟨_, _, q, r, _⟩, e => by simp at e; subst e; subst q; exact ⟨_, rfl, r⟩
  | _ :: _, _, i + 1, w, ⟨_, _, q, _, t⟩, e => by
    subst q
    obtain ⟨u, h1, h2⟩ := RepWs.get (i := i) (w := w) t (by simpa using e)
    exact ⟨u, by simpa using h1, h2⟩
theorem RepWs.app : ∀ {ws xs : List W} {vs us : List V}, RepWs c ρ G ws vs → RepWs c ρ G xs us → RepWs c ρ G (ws ++ xs) (vs ++ us)
  | [], _, _, _, h, s => by subst h; exact s
  | _ :: _, _, _, _, ⟨_, _, q, r, t⟩, s => by subst q; exact ⟨_, _, rfl, r, RepWs.app t s⟩
theorem RepWs.take : ∀ {ws : List W} {vs : List V} (n : Nat), RepWs c ρ G ws vs → RepWs c ρ G (ws.take n) (vs.take n)
  | _, _, 0, _ => rfl
  | [], _, _ + 1, h => by subst h; rfl
  | _ :: _, _, n + 1, ⟨_, _, q, r, t⟩ => by subst q; exact ⟨_, _, rfl, r, RepWs.take n t⟩
theorem RepWs.drop : ∀ {ws : List W} {vs : List V} (n : Nat), RepWs c ρ G ws vs → RepWs c ρ G (ws.drop n) (vs.drop n)
  | _, _, 0, r => r
  | [], _, _ + 1, h => by subst h; rfl
  | _ :: _, _, n + 1, ⟨_, _, q, _, t⟩ => by subst q; exact RepWs.drop n t
theorem RepWs.set : ∀ {ws : List W} {vs : List V} (i : Nat) {w : W} {v : V}, RepWs c ρ G ws vs → RepW c ρ G w v → RepWs c ρ G (ws.set i w) (vs.set i v)
  | [], _, _, _, _, h, _ => by subst h; rfl
  | _ :: _, _, 0, _, _, ⟨_, _, q, _, t⟩, r => by subst q; exact ⟨_, _, rfl, r, t⟩
  | _ :: _, _, i + 1, _, _, ⟨_, _, q, r0, t⟩, r => by subst q; exact ⟨_, _, rfl, r0, RepWs.set i t r⟩
theorem RepWs.ofD : ∀ {ds : List D} {vs : List V}, RepDs c G ds vs → RepWs c ρ G (ds.map .d) vs
  | [], _, h => by cases h; rfl
  | _ :: _, _, h => by cases h with | cons r t => exact ⟨_, _, rfl, r, RepWs.ofD t⟩
theorem RepWs.toD : ∀ {ds : List D} {vs : List V}, RepWs c ρ G (ds.map .d) vs → RepDs c G ds vs
  | [], _, h => by have h : _ = [] := h; subst h; exact .nil
  | _ :: _, _, ⟨_, _, q, r, t⟩ => by subst q; exact .cons r (RepWs.toD t)
end
/-- an own object stands -/
def OwnOk (c : Kx) (ρ : Rho) (G H : Hp) (p : Addr × Addr) : OO → Prop
  | .tup ws => p.2 = p.1 ∧ ∃ vs, H p.1 = some (.tup vs) ∧ RepWs c ρ G ws vs
  | .lst ws => p.2 = p.1 ∧ ∃ vs, H p.1 = some (.lst vs) ∧ RepWs c ρ G ws vs
  | .dct ks ws => p.2 = p.1 ∧ ks.length = ws.length ∧ ∃ vs, H p.1 = some (.dK (ks.zip vs)) ∧ RepWs c ρ G ws vs
  | .ins k ks ws => ks.length = ws.length ∧ ∃ C vs, c.ct[k]? = some C ∧ FOk c C ks ∧ H p.1 = some (.ins C p.2 ((ks.map c.nm).zip vs)) ∧ H p.2 = some (.own p.1) ∧ RepWs c ρ G ws vs
/-- a greater G, a longer ρ -/
def Rle (ρ ρ' : Rho) : Prop := ∀ (n : Nat) (p : Addr × Addr), ρ[n]? = some p → ρ'[n]? = some p
theorem Rle.refl (ρ : Rho) : Rle ρ ρ := fun _ _ h => h
theorem Rle.trans {ρ ρ1 ρ2 : Rho} (a : Rle ρ ρ1) (b : Rle ρ1 ρ2) : Rle ρ ρ2 := fun n p h => b n p (a n p h)
theorem Rle.len {ρ ρ' : Rho} (a : Rle ρ ρ') : ρ.length ≤ ρ'.length := by
  by_cases h : ρ.length = 0
  · omega
  · have h1 : ρ.length - 1 < ρ.length := by omega
    have := a (ρ.length - 1) _ (List.getElem?_eq_getElem h1)
    have := (List.getElem?_eq_some_iff.mp this).1
    omega
theorem RepW.mono {c : Kx} {ρ ρ' : Rho} {G G' : Hp} (l : Rle ρ ρ') (e : Same G G') : ∀ {w : W} {v : V}, RepW c ρ G w v → RepW c ρ' G' w v
  | .d _, _, h => RepD.mono e h
  | .loc _, _, ⟨p, h, q⟩ => ⟨p, l _ _ h, q⟩
theorem RepWs.mono {c : Kx} {ρ ρ' : Rho} {G G' : Hp} (l : Rle ρ ρ') (e : Same G G') : ∀ {ws : List W} {vs : List V}, RepWs c ρ G ws vs → RepWs c ρ' G' ws vs
  | [], _, h => h
  | _ :: _, _, ⟨v, r, q, h, t⟩ => ⟨v, r, q, RepW.mono l e h, RepWs.mono l e t⟩
theorem OwnOk.mono {c : Kx} {ρ ρ' : Rho} {G G' H H' : Hp} {p : Addr × Addr} (l : Rle ρ ρ') (e : Same G G') (h1 : ∀ o, H p.1 = some o → H' p.1 = some o) (h2 : ∀ o, H p.2 = some o → H' p.2 = some o) : ∀ {o : OO}, OwnOk c ρ G H p o → OwnOk c ρ' G' H' p o
  | .tup _, ⟨q, vs, a, r⟩ => ⟨q, vs, h1 _ a, RepWs.mono l e r⟩
  | .lst _, ⟨q, vs, a, r⟩ => ⟨q, vs, h1 _ a, RepWs.mono l e r⟩
  | .dct _ _, ⟨q, k, vs, a, r⟩ => ⟨q, k, vs, h1 _ a, RepWs.mono l e r⟩
  | .ins _ _ _, ⟨k, C, vs, a, f, b, d, r⟩ => ⟨k, C, vs, a, f, h1 _ b, h2 _ d, RepWs.mono l e r⟩
theorem OwnOk.there {c : Kx} {ρ : Rho} {G H : Hp} {p : Addr × Addr} : ∀ {o : OO}, OwnOk c ρ G H p o → (∃ u, H p.1 = some u) ∧ ∃ u, H p.2 = some u
  | .tup _, ⟨q, vs, a, _⟩ => ⟨⟨_, a⟩, ⟨_, by rw [q]; exact a⟩⟩
  | .lst _, ⟨q, vs, a, _⟩ => ⟨⟨_, a⟩, ⟨_, by rw [q]; exact a⟩⟩
  | .dct _ _, ⟨q, k, vs, a, _⟩ => ⟨⟨_, a⟩, ⟨_, by rw [q]; exact a⟩⟩
  | .ins _ _ _, ⟨k, C, vs, a, f, b, d, _⟩ => ⟨⟨_, b⟩, ⟨_, d⟩⟩
/-- the store stands in the heap, all of G too -/
structure RS (c : Kx) (ρ : Rho) (G H : Hp) (st : Store) : Prop where
  sub : Same G H
  len : ρ.length = st.length
  own : ∀ (n : Nat) (p : Addr × Addr) (o : OO), ρ[n]? = some p → st[n]? = some (some o) → G p.1 = none ∧ G p.2 = none ∧ OwnOk c ρ G H p o
  inj : ∀ (n m : Nat) (p q : Addr × Addr) (o o' : OO), ρ[n]? = some p → ρ[m]? = some q → st[n]? = some (some o) → st[m]? = some (some o') → p.1 = q.1 → n = m
/-- the names' values stand -/
def EnvOk (c : Kx) (ρ : Rho) (G : Hp) (env : List (Option W)) (σ : L2.St) : Prop := ∀ (i : Nat) (w : W), env[i]? = some (some w) → ∃ v, σ[i]? = some (some v) ∧ RepW c ρ G w v
structure R (c : Kx) (ρ : Rho) (G : Hp) (σ : L2.St) (H : Hp) (s : SS) : Prop where
  rs : RS c ρ G H s.st
  env : EnvOk c ρ G s.env σ
  len : s.env.length = σ.length
/-- a step: what may have changed -/
structure Stp (ρ : Rho) (G H : Hp) (st : Store) (ρ' : Rho) (G' H' : Hp) (st' : Store) : Prop where
  same : Same G G'
  rho : Rle ρ ρ'
  live : ∀ (n : Nat) (o' : OO), n < ρ.length → st'[n]? = some (some o') → ∃ o, st[n]? = some (some o)
  keep : ∀ a u, H a = some u → (∀ (n : Nat) (p : Addr × Addr) (o : OO), ρ[n]? = some p → st[n]? = some (some o) → p.1 ≠ a ∧ p.2 ≠ a) → H' a = some u
  there : ∀ a u, H a = some u → ∃ u', H' a = some u'
  fresh : ∀ a u, G a = none → G' a = some u → H a = none ∨ ∃ (n : Nat) (p : Addr × Addr) (o : OO), ρ[n]? = some p ∧ st[n]? = some (some o) ∧ (a = p.1 ∨ a = p.2)
  new : ∀ (n : Nat) (p : Addr × Addr), ρ.length ≤ n → ρ'[n]? = some p → H p.1 = none ∧ H p.2 = none
section
variable {c : Kx} {ρ ρ1 ρ2 : Rho} {G H G1 H1 G2 H2 : Hp} {st st1 st2 : Store}
theorem Stp.refl : Stp ρ G H st ρ G H st :=
  ⟨Same.refl _, Rle.refl _, fun _ o' _ h => ⟨o', h⟩, fun _ _ h _ => h, fun _ u h => ⟨u, h⟩, fun a u h h' => (by rw [h] at h'; cases h'), fun n p h h' => absurd (List.getElem?_eq_some_iff.mp h').1 (by omega)⟩
theorem none_back {H H' : Hp} (t : ∀ a u, H a = some u → ∃ u', H' a = some u') {a : Addr} (h : H' a = none) : H a = none := by
  cases q : H a with
  | none => rfl
  | some u =>
    obtain ⟨u', e⟩ := t a u q
    rw [h] at e; cases e
theorem Stp.trans (hl : ρ.length = st.length) (a : Stp ρ G H st ρ1 G1 H1 st1) (b : Stp ρ1 G1 H1 st1 ρ2 G2 H2 st2) : Stp ρ G H st ρ2 G2 H2 st2 := by
  have own1 : ∀ (n : Nat) (p : Addr × Addr) (o' : OO), ρ1[n]? = some p → st1[n]? = some (some o') → (∃ o, ρ[n]? = some p ∧ st[n]? = some (some o)) ∨ (H p.1 = none ∧ H p.2 = none) := fun n p o' hp ho => by
    by_cases hn : n < ρ.length
    · obtain ⟨o, e⟩ := a.live n o' hn ho
      have e2 := a.rho n _ (List.getElem?_eq_getElem hn)
      rw [hp] at e2
      refine .inl ⟨o, ?_, e⟩
      rw [List.getElem?_eq_getElem hn]
      exact e2.symm
    · exact .inr (a.new n p (by omega) hp)
  refine ⟨a.same.trans b.same, a.rho.trans b.rho, fun n o' hn h => ?_, fun x u h ho => ?_, fun x u h => ?_, fun x u h h' => ?_, fun n p hn hp => ?_⟩
  · obtain ⟨o1, e1⟩ := b.live n o' (Nat.lt_of_lt_of_le hn a.rho.len) h
    exact a.live n o1 hn e1
  · refine b.keep x u (a.keep x u h ho) fun n p o' hp ho' => ?_
    rcases own1 n p o' hp ho' with ⟨o, e1, e2⟩ | ⟨e1, e2⟩
    · exact ho n p o e1 e2
    · exact ⟨fun e => (by rw [← e, e1] at h; cases h), fun e => (by rw [← e, e2] at h; cases h)⟩
  · obtain ⟨u1, e1⟩ := a.there x u h
    exact b.there x u1 e1
  · cases q : G1 x with
    | some u1 => exact a.fresh x u1 h q
    | none =>
      rcases b.fresh x u q h' with e | ⟨n, p, o', e1, e2, e3⟩
      · exact .inl (none_back a.there e)
      · rcases own1 n p o' e1 e2 with ⟨o, f1, f2⟩ | ⟨f1, f2⟩
        · exact .inr ⟨n, p, o, f1, f2, e3⟩
        · refine .inl ?_
          rcases e3 with rfl | rfl
          · exact f1
          · exact f2
  · by_cases h1 : ρ1.length ≤ n
    · obtain ⟨e1, e2⟩ := b.new n p h1 hp
      exact ⟨none_back a.there e1, none_back a.there e2⟩
    · have h2 : n < ρ1.length := by omega
      have e2 := b.rho n _ (List.getElem?_eq_getElem h2)
      rw [hp] at e2
      exact a.new n p hn (by rw [List.getElem?_eq_getElem h2]; exact e2.symm)
end
end EV
/-! EV1: the monad, what it is to run, expressions, arguments. -/
namespace EV
open PySem L2
/-! ### the monad -/
section
variable {α β : Type}
def pur (a : α) : EM α := fun s => some (.ok a, s)
def non : EM α := fun _ => none
def bnd (m : EM α) (k : α → EM β) : EM β := fun s => match m s with
  | some (.ok a, s') => k a s'
  | some (.ex c ks vs, s') => some (.ex c ks vs, s')
  | none => none
def lft (f : Store → Option (α × Store)) : EM α := fun s => match f s.st with
  | some (a, st) => some (.ok a, ⟨s.env, st⟩)
  | none => none
end
theorem bnd_ok {α β : Type} {m : EM α} {k : α → EM β} {s s' : SS} {a : α} (h : m s = some (.ok a, s')) : bnd m k s = k a s' := by unfold bnd; rw [h]
theorem bnd_ex {α β : Type} {m : EM α} {k : α → EM β} {s s' : SS} {c : Nat} {ks : List Nat} {vs : List D} (h : m s = some (.ex c ks vs, s')) : bnd m k s = some (.ex c ks vs, s') := by unfold bnd; rw [h]
theorem bnd_no {α β : Type} {m : EM α} {k : α → EM β} {s : SS} (h : m s = none) : bnd m k s = none := by unfold bnd; rw [h]
theorem bnd_pur {α β : Type} (a : α) (k : α → EM β) : bnd (pur a) k = k a := rfl
/-! ### what it is to run -/
/-- how an exception stands -/
def XOk (c : Kx) (G : Hp) (k : Nat) (ks : List Nat) (ds : List D) (cls : Value) (d : Option Addr) : Prop :=
  ∃ C, c.ct[k]? = some C ∧ cls = .ref C ∧ ((ks = [] ∧ ds = [] ∧ d = none) ∨ ∃ dx vs, d = some dx ∧ ks.length = ds.length ∧ G dx = some (.xd ((ks.map c.nm).zip vs)) ∧ RepDs c G ds vs)
section
variable {α β : Type}
def Wp (c : Kx) (U : WX) (m : EM α) (ρ : Rho) (G : Hp) (σ : L2.St) (H : Hp) (s : SS) (k : α → Rho → Hp → Hp → SS → Prop) : Prop :=
  match m s with
  | none => False
  | some (.ok a, s') => ∀ ρ' G' H', Stp ρ G H s.st ρ' G' H' s'.st → R c ρ' G' σ H' s' → k a ρ' G' H' s'
  | some (.ex C ks ds, s') => ∀ ρ' G' H' cls d, Stp ρ G H s.st ρ' G' H' s'.st → R c ρ' G' σ H' s' → XOk c G' C ks ds cls d → U cls d σ H'
variable {c : Kx} {U : WX} {m : EM α} {ρ : Rho} {G : Hp} {σ : L2.St} {H : Hp} {s s' : SS} {k k' : α → Rho → Hp → Hp → SS → Prop}
theorem Wp.ok {a : α} (e : m s = some (.ok a, s')) (h : ∀ ρ' G' H', Stp ρ G H s.st ρ' G' H' s'.st → R c ρ' G' σ H' s' → k a ρ' G' H' s') : Wp c U m ρ G σ H s k := by
  unfold Wp; rw [e]; exact h
theorem Wp.okE {a : α} (e : m s = some (.ok a, s')) (h : Wp c U m ρ G σ H s k) : ∀ ρ' G' H', Stp ρ G H s.st ρ' G' H' s'.st → R c ρ' G' σ H' s' → k a ρ' G' H' s' := by
  unfold Wp at h; rw [e] at h; exact h
theorem Wp.imp (h : Wp c U m ρ G σ H s k) (q : ∀ a ρ' G' H' s', k a ρ' G' H' s' → k' a ρ' G' H' s') : Wp c U m ρ G σ H s k' := by
  unfold Wp at h ⊢
  cases e : m s with
  | none => rw [e] at h; exact h.elim
  | some p =>
    obtain ⟨o, s1⟩ := p
    cases o with
    | ok a => rw [e] at h; exact fun ρ' G' H' S R => q _ _ _ _ _ (h ρ' G' H' S R)
    | ex _ _ _ => rw [e] at h; exact h
theorem Wp.bnd {f : α → EM β} {k : β → Rho → Hp → Hp → SS → Prop} (hR : R c ρ G σ H s) (h : Wp c U (bnd m f) ρ G σ H s k) :
    Wp c U m ρ G σ H s (fun a ρ1 G1 H1 s1 => Stp ρ G H s.st ρ1 G1 H1 s1.st ∧ R c ρ1 G1 σ H1 s1 ∧ Wp c U (f a) ρ1 G1 σ H1 s1 k) := by
  unfold Wp at h ⊢
  cases e : m s with
  | none => rw [bnd_no e] at h; exact h.elim
  | some p =>
    obtain ⟨o, s1⟩ := p
    cases o with
    | ok a =>
      rw [bnd_ok e] at h
      intro ρ1 G1 H1 S1 R1
      refine ⟨S1, R1, ?_⟩
      cases e2 : f a s1 with
      | none => rw [e2] at h; exact h.elim
      | some p =>
        obtain ⟨o, s2⟩ := p
        cases o with
        | ok b => rw [e2] at h; exact fun ρ2 G2 H2 S2 R2 => h ρ2 G2 H2 (S1.trans hR.rs.len S2) R2
        | ex _ _ _ => rw [e2] at h; exact fun ρ2 G2 H2 cls d S2 R2 x => h ρ2 G2 H2 cls d (S1.trans hR.rs.len S2) R2 x
    | ex _ _ _ => rw [bnd_ex e] at h; exact h
theorem Wp.pur {a : α} (hR : R c ρ G σ H s) (h : Wp c U (pur a) ρ G σ H s k) : k a ρ G H s := h ρ G H Stp.refl hR
/-- a computation that leaves all as it is -/
theorem Wp.same {a : α} (hR : R c ρ G σ H s) (e : m s = some (.ok a, s)) (h : Wp c U m ρ G σ H s k) : k a ρ G H s := by
  unfold Wp at h; rw [e] at h; exact h ρ G H Stp.refl hR
theorem Wp.none (e : m s = none) (h : Wp c U m ρ G σ H s k) {P : Prop} : P := by
  unfold Wp at h; rw [e] at h; exact h.elim
/-- .. by its store alone -/
theorem Wp.lft {f : Store → Option (α × Store)} (h : Wp c U (lft f) ρ G σ H s k) : ∃ a st', f s.st = some (a, st') ∧ ∀ ρ' G' H', Stp ρ G H s.st ρ' G' H' st' → R c ρ' G' σ H' ⟨s.env, st'⟩ → k a ρ' G' H' ⟨s.env, st'⟩ := by
  unfold Wp EV.lft at h
  cases e : f s.st with
  | none => simp only [e] at h
  | some p =>
    obtain ⟨a, st'⟩ := p
    simp only [e] at h
    exact ⟨a, st', rfl, h⟩
end
theorem EnvOk.mono {c : Kx} {ρ ρ' : Rho} {G G' : Hp} {env : List (Option W)} {σ : L2.St} (l : Rle ρ ρ') (e : Same G G') (h : EnvOk c ρ G env σ) : EnvOk c ρ' G' env σ := fun i w q =>
  let ⟨v, a, b⟩ := h i w q
  ⟨v, a, b.mono l e⟩
/-! ### the judgements -/
def tE (c : Kx) (U : WX) (m : EM W) : TE := fun σ H Q => ∃ ρ G s, R c ρ G σ H s ∧ Wp c U m ρ G σ H s (fun w ρ' G' H' _ => ∀ v, RepW c ρ' G' w v → Q v H')
def tT (c : Kx) (U : WX) (m : EM Bool) : TT := fun σ H Q => ∃ ρ G s, R c ρ G σ H s ∧ Wp c U m ρ G σ H s (fun b _ _ H' _ => Q b H')
def tA (c : Kx) (U : WX) (m : EM (List W)) : TA := fun σ H Q => ∃ ρ G s, R c ρ G σ H s ∧ Wp c U m ρ G σ H s (fun ws ρ' G' H' _ => ∀ vs, RepWs c ρ' G' ws vs → Q vs H')
/-- e is m -/
structure EE (c : Kx) (X : Cx) (U : WX) (e : Expr) (m : EM W) : Prop where
  K : X.K = c.K
  pe : PE X e (tE c U m)
structure ET (c : Kx) (X : Cx) (U : WX) (e : Expr) (m : EM Bool) : Prop where
  K : X.K = c.K
  pt : PT X e (tT c U m)
structure EWt (c : Kx) (X : Cx) (U : WX) (e : Expr) (m : EM Bool) : Prop where
  K : X.K = c.K
  pw : PW X e (tT c U m)
structure EA (c : Kx) (X : Cx) (U : WX) (es : List Expr) (m : EM (List W)) : Prop where
  K : X.K = c.K
  pa : PA X es (tA c U m)
theorem PE.imp {X : Cx} {e : Expr} {t t' : TE} (h : PE X e t) (q : ∀ σ H Q, t' σ H Q → t σ H Q) : PE X e t' := ⟨fun pins s σ H Q I x => h.run pins s σ H Q I (q σ H Q x)⟩
theorem PT.imp {X : Cx} {e : Expr} {t t' : TT} (h : PT X e t) (q : ∀ σ H Q, t' σ H Q → t σ H Q) : PT X e t' := ⟨fun pins s σ H Q I x => h.run pins s σ H Q I (q σ H Q x)⟩
theorem PW.imp {X : Cx} {e : Expr} {t t' : TT} (h : PW X e t) (q : ∀ σ H Q, t' σ H Q → t σ H Q) : PW X e t' := ⟨fun wh pins s σ H Q I x => h.run wh pins s σ H Q I (q σ H Q x)⟩
theorem PA.imp {X : Cx} {es : List Expr} {t t' : TA} (h : PA X es t) (q : ∀ σ H Q, t' σ H Q → t σ H Q) : PA X es t' := ⟨fun pos pins s σ H Q I x => h.run pos pins s σ H Q I (q σ H Q x)⟩
section
variable {c : Kx} {X : Cx} {U : WX} {e a b : Expr} {es : List Expr} {ma mb : EM W} {pos : Pos}
/-! ### constants, names -/
def cst (d : D) : EM W := pur (.d d)
theorem EE.mk1 {t : TE} {m : EM W} (hK : X.K = c.K) (h : PE X e t) (q : ∀ ρ G s σ H Q, R c ρ G σ H s → Wp c U m ρ G σ H s (fun w ρ' G' H' _ => ∀ v, RepW c ρ' G' w v → Q v H') → t σ H Q) : EE c X U e m :=
  ⟨hK, PE.imp h fun σ H Q ⟨ρ, G, s, r, w⟩ => q ρ G s σ H Q r w⟩
theorem ee_int {i j} (hK : X.K = c.K) : EE c X U (.Constant (.int i) j pos) (cst (.int i)) := EE.mk1 hK pe_int fun _ _ _ _ _ _ r w => Wp.pur r w _ (.int i)
theorem ee_bl {i j} (hK : X.K = c.K) : EE c X U (.Constant (.bool i) j pos) (cst (.bl i)) := EE.mk1 hK pe_bl fun _ _ _ _ _ _ r w => Wp.pur r w _ (.bl i)
theorem ee_non {j} (hK : X.K = c.K) : EE c X U (.Constant .none j pos) (cst .non) := EE.mk1 hK pe_non fun _ _ _ _ _ _ r w => Wp.pur r w _ .non
theorem ee_str {i j} (hK : X.K = c.K) : EE c X U (.Constant (.str i) j pos) (cst (.str i)) := EE.mk1 hK pe_str fun _ _ _ _ _ _ r w => Wp.pur r w _ (.str i)
/-- a module's name -/
theorem ee_glob {x : Str} {d : D} {v : V} {u : Value} (hK : X.K = c.K) (hg : Gl X x) (hm : X.mg x = some u) (r : RelV v u) (hd : ∀ G, RepD c G d v) (hdb : (x == ("__debug__" : Str)) = false := by decide) : EE c X U (.Name x pos) (cst d) :=
  EE.mk1 hK (pe_glob hg hm r hdb) fun _ G _ _ _ _ r w => Wp.pur r w _ (hd G)
def var (i : Nat) : EM W := fun s => match s.env[i]? with
  | some (some w) => some (.ok w, s)
  | _ => none
theorem ee_var (i : Nat) (hK : X.K = c.K) {x : Str} (h : PE X (.Name x pos) (tVar i)) : EE c X U (.Name x pos) (var i) :=
  EE.mk1 hK h fun ρ G s σ H Q r w => by
    cases e : s.env[i]? with
    | none => exact w.none (by unfold var; simp only [e])
    | some o =>
      cases o with
      | none => exact w.none (by unfold var; simp only [e])
      | some x =>
        obtain ⟨v, h1, h2⟩ := r.env i x e
        exact ⟨v, h1, w.same r (by unfold var; simp only [e]) v h2⟩
/-! ### arguments -/
def anil : EM (List W) := pur []
def acons (m : EM W) (r : EM (List W)) : EM (List W) := bnd m fun w => bnd r fun ws => pur (w :: ws)
theorem ea_nil (hK : X.K = c.K) : EA c X U [] anil := ⟨hK, PA.imp pa_nil fun σ H Q ⟨ρ, G, s, r, w⟩ => Wp.pur r w _ rfl⟩
theorem ea_cons {m : EM W} {r : EM (List W)} (ha : EE c X U e m) (hr : EA c X U es r) (hs : starEach (e :: es) X.env = (false, eval e X.env) :: starEach es X.env := by rfl) : EA c X U (e :: es) (acons m r) :=
  ⟨ha.K, PA.imp (pa_cons ha.pe hr.pa hs) fun σ H Q ⟨ρ, G, s, hR, w⟩ => by
    refine ⟨ρ, G, s, hR, (Wp.bnd hR w).imp fun x ρ1 G1 H1 s1 ⟨S1, R1, w1⟩ v rv => ?_⟩
    refine ⟨ρ1, G1, s1, R1, (Wp.bnd R1 w1).imp fun xs ρ2 G2 H2 s2 ⟨S2, R2, w2⟩ vs rvs => ?_⟩
    exact Wp.pur R2 w2 _ ⟨v, vs, rfl, rv.mono S2.rho S2.same, rvs⟩⟩
/-! ### operators by values -/
/-- what a rule of two values does -/
def S2 (c : Kx) (r : R2) (f : Store → W → W → Option (W × Store)) : Prop :=
  ∀ (ρ : Rho) (G H : Hp) (st : Store) (x y w : W) (st' : Store) (vx vy : V) (Q : VK), RS c ρ G H st → RepW c ρ G x vx → RepW c ρ G y vy → f st x y = some (w, st') →
    (∀ v ρ' G' H', Stp ρ G H st ρ' G' H' st' → RS c ρ' G' H' st' → RepW c ρ' G' w v → Q v H') → r vx vy H Q
def op2 (f : Store → W → W → Option (W × Store)) (ma mb : EM W) : EM W := bnd ma fun x => bnd mb fun y => lft fun st => f st x y
theorem wp_op2 {r : R2} {f : Store → W → W → Option (W × Store)} (hs : S2 c r f) {ρ : Rho} {G H : Hp} {σ : L2.St} {s : SS} {Q : VK} (hR : R c ρ G σ H s) (w : Wp c U (op2 f ma mb) ρ G σ H s (fun w ρ' G' H' _ => ∀ v, RepW c ρ' G' w v → Q v H')) :
    tOp r (tE c U ma) (tE c U mb) σ H Q := by
  refine ⟨ρ, G, s, hR, (Wp.bnd hR w).imp fun x ρ1 G1 H1 s1 ⟨S1, R1, w1⟩ v rv => ?_⟩
  refine ⟨ρ1, G1, s1, R1, (Wp.bnd R1 w1).imp fun y ρ2 G2 H2 s2 ⟨S2, R2, w2⟩ u ru => ?_⟩
  obtain ⟨w, st', e, q⟩ := Wp.lft w2
  exact hs ρ2 G2 H2 s2.st x y w st' v u Q R2.rs (rv.mono S2.rho S2.same) ru e fun v' ρ' G' H' S3 R3 r3 => q ρ' G' H' S3 ⟨R3, R2.env.mono S3.rho S3.same, R2.len⟩ v' r3
theorem ee_op {op : Operator} {r : R2} {f : Store → W → W → Option (W × Store)} (ho : OpR X (binaryOp op) r) (hs : S2 c r f) (ha : EE c X U a ma) (hb : EE c X U b mb) : EE c X U (.BinOp a op b pos) (op2 f ma mb) :=
  EE.mk1 ha.K (pe_op ho ha.pe hb.pe) fun ρ G s σ H Q hR w => wp_op2 hs hR w
theorem ee_cmp {op : CmpOp} {r : R2} {f : Store → W → W → Option (W × Store)} (ho : OpR X (compareOp op) r) (hm : behindInMarks op b = false) (hs : S2 c r f) (ha : EE c X U a ma) (hb : EE c X U b mb) : EE c X U (.Compare a [op] [b] pos) (op2 f ma mb) :=
  EE.mk1 ha.K (pe_cmpR ho ha.pe hb.pe hm) fun ρ G s σ H Q hR w => wp_op2 hs hR w
/-- a truth -/
def toB (m : EM W) : EM Bool := bnd m fun w => match w with
  | .d (.bl b) => pur b
  | _ => non
theorem wp_toB {m : EM W} {ρ : Rho} {G H : Hp} {σ : L2.St} {s : SS} {Q : Bool → Hp → Prop} (hR : R c ρ G σ H s) (w : Wp c U (toB m) ρ G σ H s (fun b _ _ H' _ => Q b H')) :
    Wp c U m ρ G σ H s (fun w ρ' G' H' _ => ∀ v, RepW c ρ' G' w v → ∃ k, v = .bl k ∧ Q k H') := by
  refine (Wp.bnd hR w).imp fun x ρ1 G1 H1 s1 ⟨S1, R1, w1⟩ v rv => ?_
  cases x with
  | loc n => exact w1.none rfl
  | d x =>
    cases x with
    | bl b =>
      cases rv
      exact ⟨b, rfl, Wp.pur R1 w1⟩
    | _ => exact w1.none rfl
theorem et_cmp {op : CmpOp} {r : R2} {f : Store → W → W → Option (W × Store)} (ho : OpR X (compareOp op) r) (hm : behindInMarks op b = false) (hs : S2 c r f) (ha : EE c X U a ma) (hb : EE c X U b mb) : ET c X U (.Compare a [op] [b] pos) (toB (op2 f ma mb)) :=
  ⟨ha.K, PT.imp (pt_cmpR ho ha.pe hb.pe hm) fun σ H Q ⟨ρ, G, s, hR, w⟩ => wp_op2 hs hR (wp_toB hR w)⟩
theorem et_val {m : EM W} (h : EE c X U e m) (he : ∀ whole, isTrue e X.env whole = (do let v ← whole; standAt e.pos; holding [v] (truthy v)) := by intro _; rfl) : ET c X U e (toB m) :=
  ⟨h.K, PT.imp (pt_val h.pe he) fun σ H Q ⟨ρ, G, s, hR, w⟩ => ⟨ρ, G, s, hR, wp_toB hR w⟩⟩
/-! ### and, or, not -/
def ntB (m : EM Bool) : EM Bool := bnd m fun b => pur (!b)
def anB (m r : EM Bool) : EM Bool := bnd m fun b => if b then r else pur false
def orB (m r : EM Bool) : EM Bool := bnd m fun b => if b then pur true else r
variable {m1 m2 : EM Bool} {rest : List Expr}
theorem et_not (h : ET c X U a m1) : ET c X U (.UnaryOp .Not a pos) (ntB m1) :=
  ⟨h.K, PT.imp (pt_not h.pt) fun σ H Q ⟨ρ, G, s, hR, w⟩ => ⟨ρ, G, s, hR, (Wp.bnd hR w).imp fun x ρ1 G1 H1 s1 ⟨S1, R1, w1⟩ => Wp.pur R1 w1⟩⟩
theorem ew_and1 (h : ET c X U a m1) : EWt c X U (.BoolOp .And [a] pos) m1 := ⟨h.K, pw_and1 h.pt⟩
theorem ew_or1 (h : ET c X U a m1) : EWt c X U (.BoolOp .Or [a] pos) m1 := ⟨h.K, pw_or1 h.pt⟩
theorem ew_and (h : ET c X U a m1) (h2 : EWt c X U (.BoolOp .And (b :: rest) pos) m2) : EWt c X U (.BoolOp .And (a :: b :: rest) pos) (anB m1 m2) :=
  ⟨h.K, PW.imp (pw_and h.pt h2.pw) fun σ H Q ⟨ρ, G, s, hR, w⟩ => ⟨ρ, G, s, hR, (Wp.bnd hR w).imp fun x ρ1 G1 H1 s1 ⟨S1, R1, w1⟩ => by
    cases x with
    | true => exact iteT ⟨ρ1, G1, s1, R1, w1⟩
    | false => exact iteF (Wp.pur R1 w1)⟩⟩
theorem ew_or (h : ET c X U a m1) (h2 : EWt c X U (.BoolOp .Or (b :: rest) pos) m2) : EWt c X U (.BoolOp .Or (a :: b :: rest) pos) (orB m1 m2) :=
  ⟨h.K, PW.imp (pw_or h.pt h2.pw) fun σ H Q ⟨ρ, G, s, hR, w⟩ => ⟨ρ, G, s, hR, (Wp.bnd hR w).imp fun x ρ1 G1 H1 s1 ⟨S1, R1, w1⟩ => by
    cases x with
    | true => exact iteT (Wp.pur R1 w1)
    | false => exact iteF ⟨ρ1, G1, s1, R1, w1⟩⟩⟩
theorem EWt.et (h : EWt c X U e m1) : ET c X U e m1 := ⟨h.K, h.pw.pt⟩
/-- a truth as a value -/
def ofB (m : EM Bool) : EM W := bnd m fun b => pur (.d (.bl b))
/-- .. as values: operands are truths -/
theorem ee_one {op} {m : EM W} (h : EE c X U a m) : EE c X U (.BoolOp op [a] pos) m := ⟨h.K, pe_one h.pe⟩
def anV (m r : EM W) : EM W := bnd (toB m) fun b => if b then r else pur (.d (.bl false))
def orV (m r : EM W) : EM W := bnd (toB m) fun b => if b then pur (.d (.bl true)) else r
def ntV (m : EM W) : EM W := bnd (toB m) fun b => pur (.d (.bl (!b)))
theorem wp_toBv {α : Type} {m : EM W} {f : Bool → EM α} {ρ : Rho} {G H : Hp} {σ : L2.St} {s : SS} {k : α → Rho → Hp → Hp → SS → Prop} (hR : R c ρ G σ H s) (w : Wp c U (bnd (toB m) f) ρ G σ H s k) :
    Wp c U m ρ G σ H s (fun w ρ1 G1 H1 s1 => ∀ v, RepW c ρ1 G1 w v → ∃ b, v = .bl b ∧ Stp ρ G H s.st ρ1 G1 H1 s1.st ∧ R c ρ1 G1 σ H1 s1 ∧ Wp c U (f b) ρ1 G1 σ H1 s1 k) := by
  have e : bnd (toB m) f = bnd m fun w => bnd (match w with | .d (.bl b) => pur b | _ => non) f := by
    funext s
    unfold toB bnd
    cases m s with
    | none => rfl
    | some p => obtain ⟨o, s1⟩ := p; cases o <;> rfl
  rw [e] at w
  refine (Wp.bnd hR w).imp fun x ρ1 G1 H1 s1 ⟨S1, R1, w1⟩ v rv => ?_
  cases x with
  | loc n => exact w1.none rfl
  | d x =>
    cases x with
    | bl b =>
      cases rv
      exact ⟨b, rfl, S1, R1, w1⟩
    | _ => exact w1.none rfl
theorem ee_and {mr : EM W} (ha : EE c X U a ma) (hb : EE c X U (.BoolOp .And (b :: rest) pos) mr) : EE c X U (.BoolOp .And (a :: b :: rest) pos) (anV ma mr) :=
  EE.mk1 ha.K (pe_and ha.pe hb.pe) fun ρ G s σ H Q hR w => ⟨ρ, G, s, hR, (wp_toBv hR w).imp fun x ρ1 G1 H1 s1 h v rv => by
    obtain ⟨b, rfl, S1, R1, w1⟩ := h v rv
    refine ⟨b, rfl, ?_⟩
    cases b with
    | true => exact iteT ⟨ρ1, G1, s1, R1, w1⟩
    | false => exact iteF (Wp.pur R1 w1 _ (.bl false))⟩
theorem ee_or {mr : EM W} (ha : EE c X U a ma) (hb : EE c X U (.BoolOp .Or (b :: rest) pos) mr) : EE c X U (.BoolOp .Or (a :: b :: rest) pos) (orV ma mr) :=
  EE.mk1 ha.K (pe_or ha.pe hb.pe) fun ρ G s σ H Q hR w => ⟨ρ, G, s, hR, (wp_toBv hR w).imp fun x ρ1 G1 H1 s1 h v rv => by
    obtain ⟨b, rfl, S1, R1, w1⟩ := h v rv
    refine ⟨b, rfl, ?_⟩
    cases b with
    | true => exact iteT (Wp.pur R1 w1 _ (.bl true))
    | false => exact iteF ⟨ρ1, G1, s1, R1, w1⟩⟩
theorem ee_not (ha : EE c X U a ma) : EE c X U (.UnaryOp .Not a pos) (ntV ma) :=
  EE.mk1 ha.K (pe_not ha.pe) fun ρ G s σ H Q hR w => ⟨ρ, G, s, hR, (wp_toBv hR w).imp fun x ρ1 G1 H1 s1 h v rv => by
    obtain ⟨b, rfl, S1, R1, w1⟩ := h v rv
    exact ⟨b, rfl, Wp.pur R1 w1 _ (.bl (!b))⟩⟩
def ifE {α : Type} (t : EM Bool) (ma mb : EM α) : EM α := bnd t fun b => if b then ma else mb
theorem ee_if {t : Expr} (ht : ET c X U t m1) (ha : EE c X U a ma) (hb : EE c X U b mb) : EE c X U (.IfExp t a b pos) (ifE m1 ma mb) :=
  EE.mk1 ha.K (pe_ifExp ht.pt ha.pe hb.pe) fun ρ G s σ H Q hR w => ⟨ρ, G, s, hR, (Wp.bnd hR w).imp fun x ρ1 G1 H1 s1 ⟨S1, R1, w1⟩ => by
    cases x with
    | true => exact iteT ⟨ρ1, G1, s1, R1, w1⟩
    | false => exact iteF ⟨ρ1, G1, s1, R1, w1⟩⟩
end
end EV
/-! EV2: statements, loops, defs. -/
namespace EV
open PySem L2
section
variable {α β : Type}
def Ws (c : Kx) (U : WX) (m : EM α) (ρ : Rho) (G H : Hp) (s : SS) (k : α → Rho → Hp → L2.St → Hp → SS → Prop) : Prop :=
  match m s with
  | none => False
  | some (.ok a, s') => ∀ ρ' G' σ' H', Stp ρ G H s.st ρ' G' H' s'.st → R c ρ' G' σ' H' s' → k a ρ' G' σ' H' s'
  | some (.ex C ks ds, s') => ∀ ρ' G' σ' H' cls d, Stp ρ G H s.st ρ' G' H' s'.st → R c ρ' G' σ' H' s' → XOk c G' C ks ds cls d → U cls d σ' H'
variable {c : Kx} {U : WX} {m : EM α} {ρ : Rho} {G : Hp} {σ : L2.St} {H : Hp} {s s' : SS} {k k' : α → Rho → Hp → L2.St → Hp → SS → Prop}
theorem Ws.imp (h : Ws c U m ρ G H s k) (q : ∀ a ρ' G' σ' H' s', k a ρ' G' σ' H' s' → k' a ρ' G' σ' H' s') : Ws c U m ρ G H s k' := by
  unfold Ws at h ⊢
  cases e : m s with
  | none => rw [e] at h; exact h.elim
  | some p =>
    obtain ⟨o, s1⟩ := p
    cases o with
    | ok a => rw [e] at h; exact fun ρ' G' σ' H' S R => q _ _ _ _ _ _ (h ρ' G' σ' H' S R)
    | ex _ _ _ => rw [e] at h; exact h
/-- an expression ahead -/
theorem Ws.bndE {f : α → EM β} {k : β → Rho → Hp → L2.St → Hp → SS → Prop} (hR : R c ρ G σ H s) (h : Ws c U (bnd m f) ρ G H s k) :
    Wp c U m ρ G σ H s (fun a ρ1 G1 H1 s1 => Stp ρ G H s.st ρ1 G1 H1 s1.st ∧ R c ρ1 G1 σ H1 s1 ∧ Ws c U (f a) ρ1 G1 H1 s1 k) := by
  unfold Ws at h
  unfold Wp
  cases e : m s with
  | none => rw [bnd_no e] at h; exact h.elim
  | some p =>
    obtain ⟨o, s1⟩ := p
    cases o with
    | ok a =>
      rw [bnd_ok e] at h
      intro ρ1 G1 H1 S1 R1
      refine ⟨S1, R1, ?_⟩
      unfold Ws
      cases e2 : f a s1 with
      | none => rw [e2] at h; exact h.elim
      | some p =>
        obtain ⟨o, s2⟩ := p
        cases o with
        | ok b => rw [e2] at h; exact fun ρ2 G2 σ2 H2 S2 R2 => h ρ2 G2 σ2 H2 (S1.trans hR.rs.len S2) R2
        | ex _ _ _ => rw [e2] at h; exact fun ρ2 G2 σ2 H2 cls d S2 R2 x => h ρ2 G2 σ2 H2 cls d (S1.trans hR.rs.len S2) R2 x
    | ex _ _ _ => rw [bnd_ex e] at h; exact fun ρ1 G1 H1 cls d S1 R1 x => h ρ1 G1 σ H1 cls d S1 R1 x
/-- a statement ahead -/
theorem Ws.bnd {f : α → EM β} {k : β → Rho → Hp → L2.St → Hp → SS → Prop} (hl : ρ.length = s.st.length) (h : Ws c U (bnd m f) ρ G H s k) :
    Ws c U m ρ G H s (fun a ρ1 G1 σ1 H1 s1 => Stp ρ G H s.st ρ1 G1 H1 s1.st ∧ R c ρ1 G1 σ1 H1 s1 ∧ Ws c U (f a) ρ1 G1 H1 s1 k) := by
  unfold Ws at h ⊢
  cases e : m s with
  | none => rw [bnd_no e] at h; exact h.elim
  | some p =>
    obtain ⟨o, s1⟩ := p
    cases o with
    | ok a =>
      rw [bnd_ok e] at h
      intro ρ1 G1 σ1 H1 S1 R1
      refine ⟨S1, R1, ?_⟩
      cases e2 : f a s1 with
      | none => rw [e2] at h; exact h.elim
      | some p =>
        obtain ⟨o, s2⟩ := p
        cases o with
        | ok b => rw [e2] at h; exact fun ρ2 G2 σ2 H2 S2 R2 => h ρ2 G2 σ2 H2 (S1.trans hl S2) R2
        | ex _ _ _ => rw [e2] at h; exact fun ρ2 G2 σ2 H2 cls d S2 R2 x => h ρ2 G2 σ2 H2 cls d (S1.trans hl S2) R2 x
    | ex _ _ _ => rw [bnd_ex e] at h; exact h
theorem Ws.pur {a : α} (hR : R c ρ G σ H s) (h : Ws c U (pur a) ρ G H s k) : k a ρ G σ H s := h ρ G σ H Stp.refl hR
theorem Ws.none (e : m s = none) (h : Ws c U m ρ G H s k) {P : Prop} : P := by
  unfold Ws at h; rw [e] at h; exact h.elim
theorem Ws.after {ρ1 : Rho} {G1 H1 : Hp} {st : Store} (hl : ρ.length = st.length) (S : Stp ρ G H st ρ1 G1 H1 s.st) (h : Ws c U m ρ G H ⟨s.env, st⟩ k) (e : m ⟨s.env, st⟩ = m s) : Ws c U m ρ1 G1 H1 s k := by
  unfold Ws at h ⊢
  rw [e] at h
  cases e : m s with
  | none => rw [e] at h; exact h.elim
  | some p =>
    obtain ⟨o, s1⟩ := p
    cases o with
    | ok a => rw [e] at h; exact fun ρ' G' σ' H' S' R => h ρ' G' σ' H' (S.trans hl S') R
    | ex _ _ _ => rw [e] at h; exact fun ρ' G' σ' H' cls d S' R x => h ρ' G' σ' H' cls d (S.trans hl S') R x
end
/-! ### statements -/
def kD (c : Kx) (D : Ends) : Fl → Rho → Hp → L2.St → Hp → SS → Prop := fun f ρ' G' σ' H' _ => match f with
  | .nx => D.nx σ' H'
  | .ret w => ∀ v, RepW c ρ' G' w v → D.rt v H'
  | .brk => D.bk σ' H'
  | .cnt => D.ct σ' H'
def tS (c : Kx) (U : WX) (m : EM Fl) : TS := fun D σ H => ∃ ρ G s, R c ρ G σ H s ∧ Ws c U m ρ G H s (kD c D)
structure ES (c : Kx) (X : Cx) (U : WX) (st : Stmt) (m : EM Fl) : Prop where
  K : X.K = c.K
  ps : PS X st (tS c U m)
structure ESs (c : Kx) (X : Cx) (U : WX) (sts : List Stmt) (m : EM Fl) : Prop where
  K : X.K = c.K
  ps : PSs X sts (tS c U m)
theorem PS.imp {X : Cx} {st : Stmt} {t t' : TS} (h : PS X st t) (q : ∀ D σ H, t' D σ H → t D σ H) : PS X st t' := ⟨fun pins s σ H D I x => h.run pins s σ H D I (q D σ H x)⟩
theorem PSs.imp {X : Cx} {st : List Stmt} {t t' : TS} (h : PSs X st t) (q : ∀ D σ H, t' D σ H → t D σ H) : PSs X st t' := ⟨fun pins s σ H D I x => h.run pins s σ H D I (q D σ H x)⟩
def sq (m r : EM Fl) : EM Fl := bnd m fun f => match f with
  | .nx => r
  | .ret w => pur (.ret w)
  | .brk => pur .brk
  | .cnt => pur .cnt
section
variable {c : Kx} {X : Cx} {U : WX} {st : Stmt} {rest body orelse : List Stmt} {e t a b : Expr} {m r : EM Fl} {me ma mb : EM W} {mt : EM Bool} {pos pos' : Pos}
theorem ess_nil (hK : X.K = c.K) : ESs c X U [] (pur .nx) := ⟨hK, PSs.imp pss_nil fun D σ H ⟨ρ, G, s, hR, w⟩ => Ws.pur hR w⟩
theorem wp_sq {D : Ends} {ρ : Rho} {G H : Hp} {σ : L2.St} {s : SS} (hR : R c ρ G σ H s) (w : Ws c U (sq m r) ρ G H s (kD c D)) : Ws c U m ρ G H s (kD c { D with nx := tS c U r D }) := by
  refine (Ws.bnd hR.rs.len w).imp fun f ρ1 G1 σ1 H1 s1 ⟨S1, R1, w1⟩ => ?_
  cases f with
  | nx => exact ⟨ρ1, G1, s1, R1, w1⟩
  | ret w => exact fun v rv => Ws.pur (U := U) R1 w1 v rv
  | brk => exact Ws.pur (U := U) R1 w1
  | cnt => exact Ws.pur (U := U) R1 w1
theorem ess_cons (h : ES c X U st m) (hr : ESs c X U rest r) : ESs c X U (st :: rest) (sq m r) :=
  ⟨h.K, PSs.imp (pss_cons h.ps hr.ps) fun D σ H ⟨ρ, G, s, hR, w⟩ => ⟨ρ, G, s, hR, wp_sq hR w⟩⟩
theorem ess_one (h : ES c X U st m) : ESs c X U [st] m := ⟨h.K, pss_one h.ps⟩
theorem es_pass (hK : X.K = c.K) : ES c X U (.Pass pos) (pur .nx) := ⟨hK, PS.imp ps_pass fun D σ H ⟨ρ, G, s, hR, w⟩ => Ws.pur hR w⟩
theorem es_break (hK : X.K = c.K) : ES c X U (.Break pos) (pur .brk) := ⟨hK, PS.imp ps_break fun D σ H ⟨ρ, G, s, hR, w⟩ => Ws.pur hR w⟩
theorem es_continue (hK : X.K = c.K) : ES c X U (.Continue pos) (pur .cnt) := ⟨hK, PS.imp ps_continue fun D σ H ⟨ρ, G, s, hR, w⟩ => Ws.pur hR w⟩
def exprS (m : EM W) : EM Fl := bnd m fun _ => pur .nx
theorem es_expr (he : EE c X U e me) (hs : swapsWith e none pos.line X.env = pure false := by rfl) : ES c X U (.Expr e pos) (exprS me) :=
  ⟨he.K, PS.imp (ps_expr he.pe hs) fun D σ H ⟨ρ, G, s, hR, w⟩ => ⟨ρ, G, s, hR, (Ws.bndE hR w).imp fun x ρ1 G1 H1 s1 ⟨S1, R1, w1⟩ v rv => Ws.pur R1 w1⟩⟩
def retS (m : EM W) : EM Fl := bnd m fun w => pur (.ret w)
theorem es_ret (he : EE c X U e me) : ES c X U (.Return (some e) pos) (retS me) :=
  ⟨he.K, PS.imp (ps_ret he.pe) fun D σ H ⟨ρ, G, s, hR, w⟩ => ⟨ρ, G, s, hR, (Ws.bndE hR w).imp fun x ρ1 G1 H1 s1 ⟨S1, R1, w1⟩ v rv => Ws.pur R1 w1 v rv⟩⟩
theorem es_retN (hK : X.K = c.K) : ES c X U (.Return none pos) (pur (.ret (.d .non))) := ⟨hK, PS.imp ps_retN fun D σ H ⟨ρ, G, s, hR, w⟩ => Ws.pur hR w _ .non⟩
theorem es_if (ht : ET c X U t mt) (h1 : ESs c X U body m) (h2 : ESs c X U orelse r) : ES c X U (.If t body orelse pos) (ifE mt m r) :=
  ⟨ht.K, PS.imp (ps_if ht.pt h1.ps h2.ps) fun D σ H ⟨ρ, G, s, hR, w⟩ => ⟨ρ, G, s, hR, (Ws.bndE hR w).imp fun b ρ1 G1 H1 s1 ⟨S1, R1, w1⟩ => by
    cases b with
    | true => exact iteT ⟨ρ1, G1, s1, R1, w1⟩
    | false => exact iteF ⟨ρ1, G1, s1, R1, w1⟩⟩⟩
/-! ### targets -/
inductive Tg where
  | name (i : Nat) | tup (is : List Nat)
def Tg.is : Tg → List Nat
  | .name i => [i]
  | .tup is => is
def gNames : List Nat → TGs
  | [] => gNil
  | i :: r => gCons (gName i) (gNames r)
def gOf (K : PySem.W.Frag) : Tg → TG
  | .name i => gName i
  | .tup is => gTup K is.length (gNames is)
def setAll {α : Type} : List Nat → List α → List (Option α) → List (Option α)
  | i :: is, w :: ws, l => setAll is ws (l.set i (some w))
  | _, _, l => l
/-- the target is given its value -/
def asg (t : Tg) (w : W) : EM Unit := fun s => match t with
  | .name i => some (.ok (), ⟨s.env.set i (some w), s.st⟩)
  | .tup is => match w with
    | .d (.tup ds) => if ds.length = is.length then some (.ok (), ⟨setAll is (ds.map .d) s.env, s.st⟩) else none
    | .loc n => match s.st[n]? with
      | some (some (.tup ws)) => if ws.length = is.length then some (.ok (), ⟨setAll is ws s.env, s.st⟩) else none
      | _ => none
    | _ => none
theorem EnvOk.set {ρ : Rho} {G : Hp} {env : List (Option W)} {σ : L2.St} {i : Nat} {w : W} {v : V} (hl : env.length = σ.length) (h : EnvOk c ρ G env σ) (r : RepW c ρ G w v) : EnvOk c ρ G (env.set i (some w)) (σ.set i (some v)) := fun j x e => by
  by_cases hj : j = i
  · subst hj
    have hlt : j < env.length := by
      have := (List.getElem?_eq_some_iff.mp e).1
      simpa using this
    rw [List.getElem?_set_self hlt] at e
    cases e
    exact ⟨v, by rw [List.getElem?_set_self (by omega)], r⟩
  · rw [List.getElem?_set_ne (Ne.symm hj)] at e
    obtain ⟨u, h1, h2⟩ := h j x e
    exact ⟨u, by rw [List.getElem?_set_ne (Ne.symm hj)]; exact h1, h2⟩
theorem setAll_len {α : Type} : ∀ (is : List Nat) (ws : List α) (l : List (Option α)), (setAll is ws l).length = l.length
  | [], _, _ => rfl
  | _ :: _, [], _ => rfl
  | i :: is, w :: ws, l => by unfold setAll; rw [setAll_len is ws]; simp
theorem setAll_ok {ρ : Rho} {G : Hp} : ∀ (is : List Nat) (ws : List W) (vs : List V) (env : List (Option W)) (σ : L2.St), env.length = σ.length → EnvOk c ρ G env σ → RepWs c ρ G ws vs → EnvOk c ρ G (setAll is ws env) (setAll is vs σ)
  | [], _, _, _, _, _, h, _ => h
  | _ :: _, [], _, _, _, _, h, r => by have r : _ = [] := r; subst r; exact h
  | i :: is, w :: ws, _, env, σ, hl, h, ⟨v, vs, e, r, t⟩ => by
    subst e
    exact setAll_ok is ws vs _ _ (by simpa using hl) (h.set hl r) t
theorem gNames_of {Q : L2.St → Hp → Prop} {H : Hp} : ∀ (is : List Nat) (vs : List V) (σ : L2.St), vs.length = is.length → Q (setAll is vs σ) H → gNames is vs σ H Q
  | [], [], _, _, q => ⟨rfl, q⟩
  | [], _ :: _, _, h, _ => by simp at h
  | _ :: _, [], _, h, _ => by simp at h
  | i :: is, v :: vs, σ, h, q => ⟨v, vs, rfl, gNames_of is vs _ (by simpa using h) q⟩
/-- what the target's reading asks -/
theorem asg_ok {t : Tg} {w : W} {ρ : Rho} {G H : Hp} {σ : L2.St} {s s' : SS} {v : V} {o : Out Unit} {Q : L2.St → Hp → Prop} (hR : R c ρ G σ H s) (r : RepW c ρ G w v) (e : asg t w s = some (o, s'))
    (q : ∀ σ', R c ρ G σ' H s' → s'.st = s.st → o = .ok () → (∃ ws : List V, σ' = setAll t.is ws σ) → Q σ' H) : gOf c.K t v σ H Q := by
  unfold asg at e
  cases t with
  | name i =>
    simp only [Option.some.injEq, Prod.mk.injEq] at e
    obtain ⟨rfl, rfl⟩ := e
    exact q _ ⟨hR.rs, hR.env.set hR.len r, by simpa using hR.len⟩ rfl rfl ⟨[v], rfl⟩
  | tup is =>
    cases w with
    | loc n =>
      simp only at e
      cases ho : s.st[n]? with
      | none => rw [ho] at e; cases e
      | some oo =>
        cases oo with
        | none => rw [ho] at e; cases e
        | some oo =>
          cases oo with
          | lst _ => rw [ho] at e; cases e
          | dct _ _ => rw [ho] at e; cases e
          | ins _ _ _ => rw [ho] at e; cases e
          | tup ws =>
            rw [ho] at e
            simp only at e
            split at e
            · rename_i hl
              simp only [Option.some.injEq, Prod.mk.injEq] at e
              obtain ⟨rfl, rfl⟩ := e
              obtain ⟨p, hp, rfl⟩ := r
              obtain ⟨_, _, _, vs, h, hr⟩ := hR.rs.own n p _ hp ho
              have hl2 : vs.length = is.length := by rw [hr.len]; exact hl
              refine ⟨p.1, vs, rfl, SqT.of h, hl2, gNames_of is vs σ hl2 (q _ ⟨hR.rs, setAll_ok is _ vs _ _ hR.len hR.env hr, ?_⟩ rfl rfl ⟨vs, rfl⟩)⟩
              show (setAll _ _ _).length = (setAll _ _ _).length
              rw [setAll_len, setAll_len]
              exact hR.len
            · cases e
    | d x =>
      cases x with
      | tup ds =>
        simp only at e
        split at e
        · rename_i hl
          simp only [Option.some.injEq, Prod.mk.injEq] at e
          obtain ⟨rfl, rfl⟩ := e
          cases r with
          | tup hs rs =>
            rename_i a vs
            have hl2 : vs.length = is.length := by rw [rs.len]; exact hl
            refine ⟨a, vs, rfl, SqT.same hR.rs.sub hs, hl2, gNames_of is vs σ hl2 (q _ ⟨hR.rs, setAll_ok is _ vs _ _ hR.len hR.env (RepWs.ofD rs), ?_⟩ rfl rfl ⟨vs, rfl⟩)⟩
            show (setAll _ _ _).length = (setAll _ _ _).length
            rw [setAll_len, setAll_len]
            exact hR.len
        · cases e
      | _ => simp at e
structure EG (c : Kx) (X : Cx) (target : Expr) (t : Tg) : Prop where
  pg : PG X target (gOf c.K t)
theorem eg_name {i : Nat} {x : Str} (h : PG X (.Name x pos) (gName i)) : EG c X (.Name x pos) (.name i) := ⟨h⟩
theorem eg_tup {is : List Nat} {es : List Expr} {k : Nat} (hK : X.K = c.K) (hc : X.calm = true) (h : PGs X es (gNames is)) (hn : (assignEach es X.env).length = is.length := by rfl) (hst : (assignEach es X.env).findIdx? (·.1) = none := by rfl) : EG c X (.Tuple es k pos) (.tup is) :=
  ⟨by
    have h := pg_tup (k := k) (pos := pos) hc h hn hst
    rw [hK] at h
    exact h⟩
/-- target = e -/
def asgS (t : Tg) (m : EM W) : EM Fl := bnd m fun w => bnd (asg t w) fun _ => pur .nx
theorem ws_asg {t : Tg} {w : W} {f : Unit → EM Fl} {ρ : Rho} {G H : Hp} {σ : L2.St} {s : SS} {v : V} {k : Fl → Rho → Hp → L2.St → Hp → SS → Prop} {Q : L2.St → Hp → Prop} (hR : R c ρ G σ H s) (r : RepW c ρ G w v) (h : Ws c U (bnd (asg t w) f) ρ G H s k)
    (q : ∀ σ' s', R c ρ G σ' H s' → s'.st = s.st → (∃ ws : List V, σ' = setAll t.is ws σ) → Ws c U (f ()) ρ G H s' k → Q σ' H) : gOf c.K t v σ H Q := by
  cases e : asg t w s with
  | none => exact h.none (bnd_no e)
  | some p =>
    obtain ⟨o, s'⟩ := p
    refine asg_ok hR r e fun σ' R' hst ho hw => q σ' s' R' hst hw ?_
    subst ho
    unfold Ws at h ⊢
    rw [bnd_ok e, ← hst] at h
    exact h
theorem es_asg {tg : Expr} {t : Tg} (he : EE c X U e me) (hg : EG c X tg t) (hs : swapsWithSole [tg] e pos.line X.env = pure false := by rfl) (hw : swappedStores [tg] e X.env = pure none := by rfl)
    (h1 : (assignEach [tg] X.env).map (·.2) = [assign tg X.env] := by rfl) : ES c X U (.Assign [tg] e pos) (asgS t me) :=
  ⟨he.K, PS.imp (ps_asg he.pe hg.pg hs hw h1) fun D σ H ⟨ρ, G, s, hR, w⟩ => ⟨ρ, G, s, hR, (Ws.bndE hR w).imp fun x ρ1 G1 H1 s1 ⟨S1, R1, w1⟩ v rv => ws_asg R1 rv w1 fun σ' s' R' _ _ w' => Ws.pur R' w'⟩⟩
/-! ### loops -/
/-- an iterator J gives ds -/
structure Iter (c : Kx) (G : Hp) (J : It) (ds : List D) : Prop where
  go : ∀ i H, Same G H → i < ds.length → J.go i H
  stop : ∀ H, Same G H → J.stop ds.length H
  yld : ∀ (i : Nat) H x H' (d : D), Same G H → ds[i]? = some d → J.yld i H x H' → ∀ ρ G1 st, Same G G1 → RS c ρ G1 H st → ∃ G2, Stp ρ G1 H st ρ G2 H' st ∧ RS c ρ G2 H' st ∧ RepD c G2 d x
def tI (c : Kx) (U : WX) (m : EM (List D)) : TI := fun σ H Rk => ∃ ρ G s, R c ρ G σ H s ∧ Wp c U m ρ G σ H s (fun ds _ G' H' _ => ∀ J, Iter c G' J ds → Rk J H')
structure EI (c : Kx) (X : Cx) (U : WX) (tg iter : Expr) (m : EM (List D)) : Prop where
  K : X.K = c.K
  pi : PI X tg iter (tI c U m)
def loopS (t : Tg) (body : EM Fl) : List D → EM Fl
  | [] => pur .nx
  | d :: ds => bnd (bnd (asg t (.d d)) fun _ => body) fun f => match f with
    | .nx => loopS t body ds
    | .cnt => loopS t body ds
    | .brk => pur .nx
    | .ret w => pur (.ret w)
def forS (mi : EM (List D)) (t : Tg) (body : EM Fl) : EM Fl := bnd mi fun ds => loopS t body ds
theorem Ws.step {α : Type} {mm : EM α} {ρ : Rho} {G H G1 H1 : Hp} {s : SS} {k : α → Rho → Hp → L2.St → Hp → SS → Prop} (hl : ρ.length = s.st.length) (S : Stp ρ G H s.st ρ G1 H1 s.st) (h : Ws c U mm ρ G H s k) : Ws c U mm ρ G1 H1 s k :=
  Ws.after (s := s) hl S h rfl
theorem bnd_assoc {α β γ : Type} (m : EM α) (f : α → EM β) (g : β → EM γ) : bnd (bnd m f) g = bnd m fun a => bnd (f a) g := by
  funext s
  unfold bnd
  cases m s with
  | none => rfl
  | some p =>
    obtain ⟨o, s1⟩ := p
    cases o <;> rfl
theorem es_for {tg iter : Expr} {t : Tg} {mi : EM (List D)} (hp : PassesOwn (model X.prog X.w) X.A X.env X.xe) (hc : X.calm = true) (hi : EI c X U tg iter mi) (hg : EG c X tg t) (hb : ESs c X U body m) (hs : ∀ x, foldedSetIterable iter X.env x = pure x := by intro _; rfl) :
    ES c X U (.For tg iter body [] pos) (forS mi t m) :=
  ⟨hi.K, PS.imp (ps_for hp hc hi.pi hg.pg hb.ps hs) fun D σ H ⟨ρ, G, s, hR, w⟩ => ⟨ρ, G, s, hR, (Ws.bndE hR w).imp fun ds ρ1 G1 H1 s1 ⟨S1, R1, w1⟩ J it => by
    refine ⟨fun i n σ H => ∃ ρ2 G2 s2, i ≤ ds.length ∧ n = ds.length - i ∧ Same G1 G2 ∧ R c ρ2 G2 σ H s2 ∧ Ws c U (loopS t m (ds.drop i)) ρ2 G2 H s2 (kD c D), ⟨ds.length, ρ1, G1, s1, Nat.zero_le _, by simp, Same.refl _, R1, by simpa using w1⟩, ?_⟩
    rintro i n σ2 H2 ⟨ρ2, G2, s2, hi, rfl, sm, R2, w2⟩
    have sH : Same G1 H2 := sm.trans R2.rs.sub
    by_cases hlt : i < ds.length
    · refine .inr ⟨it.go i H2 sH hlt, fun σ H => ∃ ρ2 G2 s2, Same G1 G2 ∧ R c ρ2 G2 σ H s2 ∧ Ws c U (loopS t m (ds.drop (i + 1))) ρ2 G2 H s2 (kD c D), fun σ' H' ⟨ρ3, G3, s3, h1, h2, h3⟩ => ⟨ds.length - (i + 1), by omega, ρ3, G3, s3, hlt, rfl, h1, h2, h3⟩, fun x H' hy => ?_⟩
      obtain ⟨G3, S3, RS3, rx⟩ := it.yld i H2 x H' ds[i] sH (List.getElem?_eq_getElem hlt) hy ρ2 G2 s2.st sm R2.rs
      have R3 : R c ρ2 G3 σ2 H' s2 := ⟨RS3, R2.env.mono S3.rho S3.same, R2.len⟩
      have ed : ds.drop i = ds[i] :: ds.drop (i + 1) := List.drop_eq_getElem_cons hlt
      rw [ed] at w2
      unfold loopS at w2
      rw [bnd_assoc] at w2
      refine ws_asg (w := .d ds[i]) R3 rx (w2.step R2.rs.len S3) fun σ4 s4 R4 _ _ w4 => ?_
      refine ⟨ρ2, G3, s4, R4, (Ws.bnd R4.rs.len w4).imp fun f ρ5 G5 σ5 H5 s5 ⟨S5, R5, w5⟩ => ?_⟩
      cases f with
      | nx => exact ⟨ρ5, G5, s5, (sm.trans S3.same).trans S5.same, R5, w5⟩
      | cnt => exact ⟨ρ5, G5, s5, (sm.trans S3.same).trans S5.same, R5, w5⟩
      | brk => exact Ws.pur (U := U) R5 w5
      | ret w => exact fun v rv => Ws.pur (U := U) R5 w5 v rv
    · have e : i = ds.length := by omega
      subst e
      rw [List.drop_length] at w2
      exact .inl ⟨it.stop H2 sH, Ws.pur R2 w2⟩⟩⟩
def whileS : Nat → EM Bool → EM Fl → EM Fl
  | 0, _, _ => non
  | n + 1, t, b => bnd t fun k => if k then bnd b fun f => match f with
    | .nx => whileS n t b
    | .cnt => whileS n t b
    | .brk => pur .nx
    | .ret w => pur (.ret w)
    else pur .nx
theorem es_while {n : Nat} (hp : PassesOwn (model X.prog X.w) X.A X.env X.xe) (ht : ET c X U t mt) (hb : ESs c X U body m) : ES c X U (.While t body [] pos) (whileS n mt m) :=
  ⟨ht.K, PS.imp (ps_while hp ht.pt hb.ps) fun D σ H ⟨ρ, G, s, hR, w⟩ => by
    refine ⟨fun n σ H => ∃ ρ G s, R c ρ G σ H s ∧ Ws c U (whileS n mt m) ρ G H s (kD c D), ⟨n, ρ, G, s, hR, w⟩, ?_⟩
    rintro n σ1 H1 ⟨ρ1, G1, s1, R1, w1⟩
    cases n with
    | zero => exact w1.none rfl
    | succ n =>
      unfold whileS at w1
      refine ⟨ρ1, G1, s1, R1, (Ws.bndE R1 w1).imp fun b ρ2 G2 H2 s2 ⟨S2, R2, w2⟩ => ?_⟩
      cases b with
      | false => exact iteF (Ws.pur R2 w2)
      | true =>
        refine iteT ⟨fun σ H => ∃ ρ G s, R c ρ G σ H s ∧ Ws c U (whileS n mt m) ρ G H s (kD c D), fun σ' H' h => ⟨n, Nat.lt_succ_self n, h⟩, ρ2, G2, s2, R2, ?_⟩
        refine (Ws.bnd R2.rs.len w2).imp fun f ρ5 G5 σ5 H5 s5 ⟨S5, R5, w5⟩ => ?_
        cases f with
        | nx => exact ⟨ρ5, G5, s5, R5, w5⟩
        | cnt => exact ⟨ρ5, G5, s5, R5, w5⟩
        | brk => exact Ws.pur (U := U) R5 w5
        | ret w => exact fun v rv => Ws.pur (U := U) R5 w5 v rv⟩
end
end EV
/-! EV3: the store: an object is made, written, frozen. -/
namespace EV
open PySem L2
theorem get_set {α : Type} (l : List α) (n m : Nat) (x y : α) (h : (l.set n x)[m]? = some y) : (m = n ∧ x = y ∧ n < l.length) ∨ (m ≠ n ∧ l[m]? = some y) := by
  by_cases e : m = n
  · subst e
    have hlt : m < l.length := by
      have := (List.getElem?_eq_some_iff.mp h).1
      simpa using this
    rw [List.getElem?_set_self hlt] at h
    exact .inl ⟨rfl, Option.some.inj h, hlt⟩
  · rw [List.getElem?_set_ne (Ne.symm e)] at h
    exact .inr ⟨e, h⟩
section
variable {c : Kx} {ρ : Rho} {G H G' H' : Hp} {st : Store}
theorem OwnOk.sort {p : Addr × Addr} {o : OO} (h : OwnOk c ρ G H p o) : ∃ u, H p.1 = some u ∧ (∀ x, u ≠ .own x) := by
  cases o with
  | lst ws => obtain ⟨_, vs, e, _⟩ := h; exact ⟨_, e, fun x z => by cases z⟩
  | tup ws => obtain ⟨_, vs, e, _⟩ := h; exact ⟨_, e, fun x z => by cases z⟩
  | dct ks ws => obtain ⟨_, _, vs, e, _⟩ := h; exact ⟨_, e, fun x z => by cases z⟩
  | ins k ks ws => obtain ⟨_, C, vs, _, _, e, _, _⟩ := h; exact ⟨_, e, fun x z => by cases z⟩
theorem OwnOk.second {p : Addr × Addr} {o : OO} (h : OwnOk c ρ G H p o) : p.2 = p.1 ∨ H p.2 = some (.own p.1) := by
  cases o with
  | lst ws => exact .inl h.1
  | tup ws => exact .inl h.1
  | dct ks ws => exact .inl h.1
  | ins k ks ws => obtain ⟨_, C, vs, _, _, _, e, _⟩ := h; exact .inr e
/-- two of the store's objects stand apart -/
theorem RS.apart (r : RS c ρ G H st) {n m : Nat} {p q : Addr × Addr} {o o' : OO} (hp : ρ[n]? = some p) (hq : ρ[m]? = some q) (ho : st[n]? = some (some o)) (ho' : st[m]? = some (some o')) (ne : n ≠ m) :
    p.1 ≠ q.1 ∧ p.1 ≠ q.2 ∧ p.2 ≠ q.1 ∧ p.2 ≠ q.2 := by
  have e1 : p.1 ≠ q.1 := fun e => ne (r.inj n m p q o o' hp hq ho ho' e)
  obtain ⟨_, _, a⟩ := r.own n p o hp ho
  obtain ⟨_, _, b⟩ := r.own m q o' hq ho'
  obtain ⟨u, hu, nu⟩ := a.sort
  obtain ⟨v, hv, nv⟩ := b.sort
  have e2 : p.1 ≠ q.2 := fun e => by
    rcases b.second with z | z
    · exact e1 (e.trans z)
    · rw [← e, hu] at z
      exact nu _ (Option.some.inj z)
  have e3 : p.2 ≠ q.1 := fun e => by
    rcases a.second with z | z
    · exact e1 (z.symm.trans e)
    · rw [e, hv] at z
      exact nv _ (Option.some.inj z)
  refine ⟨e1, e2, e3, fun e => ?_⟩
  rcases a.second with z | z
  · exact e2 (z.symm.trans e)
  · rcases b.second with y | y
    · exact e3 (e.trans y)
    · rw [e, y] at z
      have z := Option.some.inj z
      injection z with z
      exact e1 z.symm
theorem RS.rho_of (r : RS c ρ G H st) {n : Nat} {o : Option OO} (h : st[n]? = some o) : ∃ p, ρ[n]? = some p := by
  have := (List.getElem?_eq_some_iff.mp h).1
  exact ⟨_, List.getElem?_eq_getElem (by rw [r.len]; exact this)⟩
/-- an object is given up -/
theorem RS.dead (r : RS c ρ G H st) (n : Nat) : RS c ρ G H (st.set n none) where
  sub := r.sub
  len := by rw [List.length_set]; exact r.len
  own := fun m p o hp ho => by
    rcases get_set _ _ _ _ _ ho with ⟨_, z, _⟩ | ⟨_, z⟩
    · cases z
    · exact r.own m p o hp z
  inj := fun m m' p q o o' hp hq ho ho' e => by
    rcases get_set _ _ _ _ _ ho with ⟨_, z, _⟩ | ⟨_, z⟩
    · cases z
    · rcases get_set _ _ _ _ _ ho' with ⟨_, z', _⟩ | ⟨_, z'⟩
      · cases z'
      · exact r.inj m m' p q o o' hp hq z z' e
/-- .. and put among what stays for good -/
def frzG (H G : Hp) (p : Addr × Addr) : Hp := fun a => if a = p.1 ∨ a = p.2 then H a else G a
theorem frzG_same {p : Addr × Addr} (s : Same G H) : Same G (frzG H G p) := fun a u e => by
  unfold frzG
  split
  · exact s a u e
  · exact e
theorem frzG_sub {p : Addr × Addr} (s : Same G H) : Same (frzG H G p) H := fun a u e => by
  unfold frzG at e
  split at e
  · exact e
  · exact s a u e
theorem frzG_1 {p : Addr × Addr} : frzG H G p p.1 = H p.1 := if_pos (.inl rfl)
theorem frzG_2 {p : Addr × Addr} : frzG H G p p.2 = H p.2 := if_pos (.inr rfl)
theorem RS.frozen (r : RS c ρ G H st) {n : Nat} {p : Addr × Addr} {o : OO} (hp : ρ[n]? = some p) (ho : st[n]? = some (some o)) {ρ1 : Rho} {G1 : Hp} {st1 : Store} (S : Stp ρ G H (st.set n none) ρ G1 H st1) (r1 : RS c ρ G1 H st1) :
    Stp ρ G H st ρ (frzG H G1 p) H st1 ∧ RS c ρ (frzG H G1 p) H st1 := by
  have back : ∀ m o', st1[m]? = some (some o') → m ≠ n ∧ ∃ o, st[m]? = some (some o) := fun m o' h => by
    have hm : m < ρ.length := by
      have := (List.getElem?_eq_some_iff.mp h).1
      rw [r1.len]; exact this
    obtain ⟨o2, e⟩ := S.live m o' hm h
    rcases get_set _ _ _ _ _ e with ⟨_, z, _⟩ | ⟨ne, z⟩
    · cases z
    · exact ⟨ne, _, z⟩
  refine ⟨⟨S.same.trans (frzG_same r1.sub), Rle.refl _, fun m o' _ h => (back m o' h).2, fun a u h _ => h, fun a u h => ⟨u, h⟩, fun a u h h' => ?_, fun m q hm hq => absurd (List.getElem?_eq_some_iff.mp hq).1 (by omega)⟩, frzG_sub r1.sub, r1.len, fun m q o' hq h => ?_, r1.inj⟩
  · unfold frzG at h'
    split at h'
    · rename_i e
      exact .inr ⟨n, p, o, hp, ho, e⟩
    · rcases S.fresh a u h h' with z | ⟨m, q, o2, hq, h2, e⟩
      · exact .inl z
      · rcases get_set _ _ _ _ _ h2 with ⟨_, z, _⟩ | ⟨ne, z⟩
        · cases z
        · exact .inr ⟨m, q, o2, hq, z, e⟩
  · obtain ⟨ne, o2, h2⟩ := back m o' h
    obtain ⟨a1, a2, a3, a4⟩ := r.apart hq hp h2 ho ne
    obtain ⟨b1, b2, b3⟩ := r1.own m q o' hq h
    refine ⟨?_, ?_, b3.mono (Rle.refl _) (frzG_same r1.sub) (fun _ e => e) (fun _ e => e)⟩
    · unfold frzG
      rw [if_neg (by rintro (z | z); exact a1 z; exact a2 z)]
      exact b1
    · unfold frzG
      rw [if_neg (by rintro (z | z); exact a3 z; exact a4 z)]
      exact b2
end
def fzL (f : W → Store → Option (D × Store)) : List W → Store → Option (List D × Store)
  | [], st => some ([], st)
  | w :: ws, st => match f w st with
    | some (d, st1) => match fzL f ws st1 with
      | some (ds, st2) => some (d :: ds, st2)
      | none => none
    | none => none
def fz : Nat → W → Store → Option (D × Store)
  | _, .d x, st => some (x, st)
  | 0, .loc _, _ => none
  | k + 1, .loc n, st => match st[n]? with
    | some (some (.lst ws)) => match fzL (fz k) ws (st.set n none) with
      | some (ds, st1) => some (.lst ds, st1)
      | none => none
    | some (some (.dct ks ws)) => match fzL (fz k) ws (st.set n none) with
      | some (ds, st1) => some (.dct ks ds, st1)
      | none => none
    | some (some (.ins i ks ws)) => match fzL (fz k) ws (st.set n none) with
      | some (ds, st1) => some (.ins i ks ds, st1)
      | none => none
    | _ => none
theorem fz_d (k : Nat) (x : D) (st : Store) : fz k (.d x) st = some (x, st) := by cases k <;> rfl
theorem fzL_d (k : Nat) : ∀ (ds : List D) (st : Store), fzL (fz k) (ds.map .d) st = some (ds, st)
  | [], _ => rfl
  | d :: ds, st => by
    show (match fz k (.d d) st with | some (d, st1) => (match fzL (fz k) (ds.map .d) st1 with | some (ds, st2) => some (d :: ds, st2) | none => none) | none => none) = _
    rw [fz_d]
    simp only []
    rw [fzL_d k ds st]
section
variable {c : Kx} {H : Hp}
theorem fzL_ok {ρ : Rho} {f : W → Store → Option (D × Store)} (hf : ∀ (G : Hp) (st st' : Store) (w : W) (v : V) (d : D), RS c ρ G H st → RepW c ρ G w v → f w st = some (d, st') → ∃ G', Stp ρ G H st ρ G' H st' ∧ RS c ρ G' H st' ∧ RepD c G' d v) :
    ∀ (ws : List W) (vs : List V) (G : Hp) (st st' : Store) (ds : List D), RS c ρ G H st → RepWs c ρ G ws vs → fzL f ws st = some (ds, st') → ∃ G', Stp ρ G H st ρ G' H st' ∧ RS c ρ G' H st' ∧ RepDs c G' ds vs
  | [], _, G, st, st', ds, r, h, e => by
    have h : _ = [] := h
    subst h
    simp only [fzL, Option.some.injEq, Prod.mk.injEq] at e
    obtain ⟨rfl, rfl⟩ := e
    exact ⟨G, Stp.refl, r, .nil⟩
  | w :: ws, _, G, st, st', ds, r, ⟨v, vs, q, h, t⟩, e => by
    subst q
    unfold fzL at e
    split at e
    · rename_i d st1 e1
      split at e
      · rename_i ds2 st2 e2
        simp only [Option.some.injEq, Prod.mk.injEq] at e
        obtain ⟨rfl, rfl⟩ := e
        obtain ⟨G1, S1, r1, h1⟩ := hf G st st1 w v d r h e1
        obtain ⟨G2, S2, r2, h2⟩ := fzL_ok hf ws vs G1 st1 st2 ds2 r1 (t.mono (Rle.refl _) S1.same) e2
        exact ⟨G2, S1.trans r.len S2, r2, .cons (h1.mono S2.same) h2⟩
      · cases e
    · cases e
theorem fz_ok {ρ : Rho} : ∀ (k : Nat) (G : Hp) (st st' : Store) (w : W) (v : V) (d : D), RS c ρ G H st → RepW c ρ G w v → fz k w st = some (d, st') → ∃ G', Stp ρ G H st ρ G' H st' ∧ RS c ρ G' H st' ∧ RepD c G' d v
  | k, G, st, st', .d x, v, d, r, h, e => by
    rw [fz_d] at e
    simp only [Option.some.injEq, Prod.mk.injEq] at e
    obtain ⟨rfl, rfl⟩ := e
    exact ⟨G, Stp.refl, r, h⟩
  | 0, G, st, st', .loc n, v, d, r, h, e => by cases e
  | k + 1, G, st, st', .loc n, v, d, r, ⟨p, hp, hv⟩, e => by
    subst hv
    unfold fz at e
    split at e
    · rename_i ws ho
      split at e
      · rename_i ds st1 e1
        simp only [Option.some.injEq, Prod.mk.injEq] at e
        obtain ⟨rfl, rfl⟩ := e
        obtain ⟨_, _, q, vs, hH, hw⟩ := r.own n p _ hp ho
        obtain ⟨G1, S1, r1, h1⟩ := fzL_ok (fz_ok k) ws vs G _ _ ds (r.dead n) hw e1
        obtain ⟨S2, r2⟩ := r.frozen hp ho (ρ1 := ρ) S1 r1
        exact ⟨_, S2, r2, .lst (frzG_1.trans hH) (h1.mono (frzG_same r1.sub))⟩
      · cases e
    · rename_i ks ws ho
      split at e
      · rename_i ds st1 e1
        simp only [Option.some.injEq, Prod.mk.injEq] at e
        obtain ⟨rfl, rfl⟩ := e
        obtain ⟨_, _, q, hk, vs, hH, hw⟩ := r.own n p _ hp ho
        obtain ⟨G1, S1, r1, h1⟩ := fzL_ok (fz_ok k) ws vs G _ _ ds (r.dead n) hw e1
        obtain ⟨S2, r2⟩ := r.frozen hp ho (ρ1 := ρ) S1 r1
        exact ⟨_, S2, r2, .dct (frzG_1.trans hH) (by rw [hk, ← hw.len, h1.len]) (h1.mono (frzG_same r1.sub))⟩
      · cases e
    · rename_i i ks ws ho
      split at e
      · rename_i ds st1 e1
        simp only [Option.some.injEq, Prod.mk.injEq] at e
        obtain ⟨rfl, rfl⟩ := e
        obtain ⟨_, _, hk, C, vs, hC, hF, hH, hO, hw⟩ := r.own n p _ hp ho
        obtain ⟨G1, S1, r1, h1⟩ := fzL_ok (fz_ok k) ws vs G _ _ ds (r.dead n) hw e1
        obtain ⟨S2, r2⟩ := r.frozen hp ho (ρ1 := ρ) S1 r1
        exact ⟨_, S2, r2, .ins hC hF (frzG_1.trans hH) (frzG_2.trans hO) (by rw [hk, ← hw.len, h1.len]) (h1.mono (frzG_same r1.sub))⟩
      · cases e
    · cases e
end
/-- a value is frozen: it may stand anywhere then; the names that held it hold the tree -/
def rpl (n : Nat) (d : D) : Option W → Option W
  | some (.loc m) => if m = n then some (.d d) else some (.loc m)
  | x => x
def frz (m : EM W) : EM W := bnd m fun w => match w with
  | .d x => pur (.d x)
  | .loc n => fun s => match fz 20 (.loc n) s.st with
    | some (d, st) => some (.ok (.d d), ⟨s.env.map (rpl n d), st⟩)
    | none => none
theorem EnvOk.rpl {c : Kx} {ρ : Rho} {G : Hp} {env : List (Option W)} {σ : L2.St} {n : Nat} {p : Addr × Addr} {d : D} (h : EnvOk c ρ G env σ) (hp : ρ[n]? = some p) (r : RepD c G d (.ref p.1)) : EnvOk c ρ G (env.map (rpl n d)) σ := fun i w e => by
  rw [List.getElem?_map] at e
  cases q : env[i]? with
  | none => rw [q] at e; cases e
  | some o =>
    rw [q] at e
    have e : EV.rpl n d o = some w := Option.some.inj e
    cases o with
    | none => cases e
    | some x =>
      obtain ⟨v, h1, h2⟩ := h i x q
      refine ⟨v, h1, ?_⟩
      cases x with
      | d y => have e : some (W.d y) = some w := e; cases e; exact h2
      | loc m =>
        have e : (if m = n then some (W.d d) else some (W.loc m)) = some w := e
        by_cases z : m = n
        · subst z
          rw [if_pos rfl] at e
          cases e
          obtain ⟨p', hp', hv⟩ := h2
          rw [hp] at hp'
          cases hp'
          subst hv
          exact r
        · rw [if_neg z] at e
          cases e
          exact h2
section
variable {c : Kx} {X : Cx} {U : WX} {e : Expr} {m : EM W}
theorem ee_frz (h : EE c X U e m) : EE c X U e (frz m) :=
  EE.mk1 h.K h.pe fun ρ G s σ H Q hR w => ⟨ρ, G, s, hR, (Wp.bnd hR w).imp fun x ρ1 G1 H1 s1 ⟨S1, R1, w1⟩ v rv => by
    cases x with
    | d x => exact Wp.pur R1 w1 v rv
    | loc n =>
      unfold Wp at w1
      cases e1 : fz 20 (.loc n) s1.st with
      | none => simp only [e1] at w1
      | some z =>
        obtain ⟨d, st⟩ := z
        simp only [e1] at w1
        obtain ⟨G2, S2, r2, h2⟩ := fz_ok 20 G1 s1.st st (.loc n) v d R1.rs rv e1
        obtain ⟨p, hp, hv⟩ := rv
        subst hv
        refine w1 ρ1 G2 H1 S2 ⟨r2, (R1.env.mono S2.rho S2.same).rpl hp h2, ?_⟩ _ h2
        show (List.map _ _).length = _
        rw [List.length_map]
        exact R1.len⟩
end
section
variable {c : Kx} {ρ : Rho} {G H : Hp} {st : Store}
/-- a new object that never changes -/
theorem new_frozen (r : RS c ρ G H st) {p : Addr} {o : HO} (hp : H p = none) : Stp ρ G H st ρ (upd G p o) (upd H p o) st ∧ RS c ρ (upd G p o) (upd H p o) st := by
  have gp : G p = none := r.sub.free hp
  have sG : Same G (upd G p o) := fun a u e => by rw [upd_ne (ne_of_none e gp)]; exact e
  have sH : Same H (upd H p o) := fun a u e => by rw [upd_ne (ne_of_none e hp)]; exact e
  refine ⟨⟨sG, Rle.refl _, fun m o' _ h => ⟨o', h⟩, fun a u h _ => sH a u h, fun a u h => ⟨u, sH a u h⟩, fun a u h h' => ?_, fun m q hm hq => absurd (List.getElem?_eq_some_iff.mp hq).1 (by omega)⟩, fun a u e => ?_, r.len, fun m q o' hq h => ?_, r.inj⟩
  · by_cases e : a = p
    · rw [e]; exact .inl hp
    · rw [upd_ne e, h] at h'; cases h'
  · by_cases z : a = p
    · subst z; rw [upd_same] at e ⊢; exact e
    · rw [upd_ne z] at e ⊢; exact r.sub a u e
  · obtain ⟨b1, b2, b3⟩ := r.own m q o' hq h
    obtain ⟨⟨u1, t1⟩, ⟨u2, t2⟩⟩ := b3.there
    exact ⟨by rw [upd_ne (ne_of_none t1 hp)]; exact b1, by rw [upd_ne (ne_of_none t2 hp)]; exact b2, b3.mono (Rle.refl _) sG (fun o e => sH _ o e) (fun o e => sH _ o e)⟩
/-- a new object of the store -/
theorem new_own (r : RS c ρ G H st) {p : Addr × Addr} {o : OO} {H' : Hp} (h1 : H p.1 = none) (h2 : H p.2 = none) (s : Same H H') (ok : OwnOk c ρ G H' p o) : Stp ρ G H st (ρ ++ [p]) G H' (st ++ [some o]) ∧ RS c (ρ ++ [p]) G H' (st ++ [some o]) := by
  have g1 : G p.1 = none := r.sub.free h1
  have g2 : G p.2 = none := r.sub.free h2
  have le : Rle ρ (ρ ++ [p]) := fun n q e => by rw [List.getElem?_append_left (List.getElem?_eq_some_iff.mp e).1]; exact e
  have at1 : ∀ (n : Nat) (q : Addr × Addr), (ρ ++ [p])[n]? = some q → ρ[n]? = some q ∨ (n = ρ.length ∧ q = p) := fun n q e => by
    by_cases hn : n < ρ.length
    · rw [List.getElem?_append_left hn] at e; exact .inl e
    · rw [List.getElem?_append_right (by omega)] at e
      have hz : n - ρ.length = 0 := by
        have := (List.getElem?_eq_some_iff.mp e).1
        simp at this; omega
      rw [hz] at e
      exact .inr ⟨by omega, (Option.some.inj e).symm⟩
  have at2 : ∀ (n : Nat) (o' : Option OO), (st ++ [some o])[n]? = some o' → st[n]? = some o' ∨ (n = st.length ∧ o' = some o) := fun n o' e => by
    by_cases hn : n < st.length
    · rw [List.getElem?_append_left hn] at e; exact .inl e
    · rw [List.getElem?_append_right (by omega)] at e
      have hz : n - st.length = 0 := by
        have := (List.getElem?_eq_some_iff.mp e).1
        simp at this; omega
      rw [hz] at e
      exact .inr ⟨by omega, (Option.some.inj e).symm⟩
  have old : ∀ (n : Nat) (q : Addr × Addr) (o' : OO), (ρ ++ [p])[n]? = some q → (st ++ [some o])[n]? = some (some o') → (ρ[n]? = some q ∧ st[n]? = some (some o')) ∨ (n = st.length ∧ q = p ∧ o' = o) := fun n q o' hq ho => by
    rcases at1 n q hq with z | ⟨z, e⟩
    · rcases at2 n _ ho with y | ⟨y, e⟩
      · exact .inl ⟨z, y⟩
      · have := (List.getElem?_eq_some_iff.mp z).1
        rw [r.len] at this
        omega
    · rcases at2 n _ ho with y | ⟨y, e'⟩
      · have := (List.getElem?_eq_some_iff.mp y).1
        rw [← r.len] at this
        omega
      · exact .inr ⟨y, e, Option.some.inj e'⟩
  refine ⟨⟨Same.refl _, le, fun m o' hm h => ?_, fun a u h _ => s a u h, fun a u h => ⟨u, s a u h⟩, fun a u h h' => (by rw [h] at h'; cases h'), fun m q hm hq => ?_⟩, r.sub.trans s, by simp [r.len], fun m q o' hq h => ?_, fun m m' q q' o1 o2 hq hq' ho ho' e => ?_⟩
  · rcases at2 m _ h with z | ⟨z, _⟩
    · exact ⟨o', z⟩
    · rw [← r.len] at z; omega
  · rcases at1 m q hq with z | ⟨_, e⟩
    · have := (List.getElem?_eq_some_iff.mp z).1
      omega
    · rw [e]; exact ⟨h1, h2⟩
  · rcases old m q o' hq h with ⟨z, y⟩ | ⟨_, e, e'⟩
    · obtain ⟨b1, b2, b3⟩ := r.own m q o' z y
      exact ⟨b1, b2, b3.mono le (Same.refl _) (fun o e => s _ o e) (fun o e => s _ o e)⟩
    · subst e e'
      exact ⟨g1, g2, ok.mono le (Same.refl _) (fun _ e => e) (fun _ e => e)⟩
  · rcases old m q o1 hq ho with ⟨z, y⟩ | ⟨z, y, _⟩
    · rcases old m' q' o2 hq' ho' with ⟨z', y'⟩ | ⟨z', y', _⟩
      · exact r.inj m m' q q' o1 o2 z z' y y' e
      · obtain ⟨⟨u, t⟩, _⟩ := (r.own m q o1 z y).2.2.there
        rw [e, y', h1] at t
        cases t
    · rcases old m' q' o2 hq' ho' with ⟨z', y'⟩ | ⟨z', y', _⟩
      · obtain ⟨⟨u, t⟩, _⟩ := (r.own m' q' o2 z' y').2.2.there
        rw [← e, y, h1] at t
        cases t
      · omega
/-- an object of the store is written -/
theorem written (r : RS c ρ G H st) {n : Nat} {p : Addr × Addr} {o o' : OO} {u : HO} (hp : ρ[n]? = some p) (ho : st[n]? = some (some o)) (ok : OwnOk c ρ G (upd H p.1 u) p o') : Stp ρ G H st ρ G (upd H p.1 u) (st.set n (some o')) ∧ RS c ρ G (upd H p.1 u) (st.set n (some o')) := by
  obtain ⟨g1, g2, b⟩ := r.own n p o hp ho
  have back : ∀ (m : Nat) (o1 : OO), (st.set n (some o'))[m]? = some (some o1) → (m = n ∧ o1 = o') ∨ (m ≠ n ∧ st[m]? = some (some o1)) := fun m o1 h => by
    rcases get_set _ _ _ _ _ h with ⟨e, z, _⟩ | ⟨ne, z⟩
    · exact .inl ⟨e, (Option.some.inj z).symm⟩
    · exact .inr ⟨ne, z⟩
  refine ⟨⟨Same.refl _, Rle.refl _, fun m o1 _ h => ?_, fun a w h hn => ?_, fun a w h => ?_, fun a w h h' => (by rw [h] at h'; cases h'), fun m q hm hq => absurd (List.getElem?_eq_some_iff.mp hq).1 (by omega)⟩, fun a w e => ?_, by rw [List.length_set]; exact r.len, fun m q o1 hq h => ?_, fun m m' q q' o1 o2 hq hq' h1 h2 e => ?_⟩
  · rcases back m o1 h with ⟨e, _⟩ | ⟨_, z⟩
    · exact ⟨o, by rw [e]; exact ho⟩
    · exact ⟨o1, z⟩
  · rw [upd_ne (Ne.symm (hn n p o hp ho).1)]; exact h
  · by_cases e : a = p.1
    · exact ⟨u, by rw [e, upd_same]⟩
    · exact ⟨w, by rw [upd_ne e]; exact h⟩
  · rw [upd_ne (ne_of_none e g1)]; exact r.sub a w e
  · rcases back m o1 h with ⟨e, e'⟩ | ⟨ne, z⟩
    · subst e e'
      rw [hp] at hq; cases hq
      exact ⟨g1, g2, ok⟩
    · obtain ⟨b1, b2, b3⟩ := r.own m q o1 hq z
      obtain ⟨a1, a2, a3, a4⟩ := r.apart hq hp z ho ne
      exact ⟨b1, b2, b3.mono (Rle.refl _) (Same.refl _) (fun w e => by rw [upd_ne a1]; exact e) (fun w e => by rw [upd_ne a3]; exact e)⟩
  · have oldn : ∀ (m : Nat) (o1 : OO), (st.set n (some o'))[m]? = some (some o1) → ∃ o2, st[m]? = some (some o2) := fun m o1 h => by
      rcases back m o1 h with ⟨e, _⟩ | ⟨_, z⟩
      · exact ⟨o, by rw [e]; exact ho⟩
      · exact ⟨o1, z⟩
    obtain ⟨x1, y1⟩ := oldn m o1 h1
    obtain ⟨x2, y2⟩ := oldn m' o2 h2
    exact r.inj m m' q q' x1 x2 hq hq' y1 y2 e
/-- behind a call: all that stood stands, G grew by new ones -/
theorem called (r : RS c ρ G H st) {G' H' : Hp} (sH : Same H H') (sG : Same G G') (sub : Same G' H') (fr : ∀ a u, G a = none → G' a = some u → H a = none) : Stp ρ G H st ρ G' H' st ∧ RS c ρ G' H' st := by
  refine ⟨⟨sG, Rle.refl _, fun m o' _ h => ⟨o', h⟩, fun a u h _ => sH a u h, fun a u h => ⟨u, sH a u h⟩, fun a u h h' => .inl (fr a u h h'), fun m q hm hq => absurd (List.getElem?_eq_some_iff.mp hq).1 (by omega)⟩, sub, r.len, fun m q o' hq h => ?_, r.inj⟩
  obtain ⟨b1, b2, b3⟩ := r.own m q o' hq h
  obtain ⟨⟨u1, t1⟩, ⟨u2, t2⟩⟩ := b3.there
  have no : ∀ a u, H a = some u → G a = none → G' a = none := fun a u t g => by
    cases e : G' a with
    | none => rfl
    | some w =>
      have := fr a w g e
      rw [t] at this; cases this
  exact ⟨no _ _ t1 b1, no _ _ t2 b2, b3.mono (Rle.refl _) sG (fun o e => sH _ o e) (fun o e => sH _ o e)⟩
end
end EV
/-! EV4: defs, their promises, calls. -/
namespace EV
open PySem PySem.Spec PyProof.Rows L2
def initS (n : Nat) (ws : List W) (st : Store) : SS := ⟨ws.map some ++ List.replicate (n - ws.length) none, st⟩
/-- a def's body as a function -/
def bodyF (n : Nat) (m : EM Fl) (ws : List W) (st : Store) : Option (Out W × Store) := match m (initS n ws st) with
  | some (.ok .nx, s) => some (.ok (.d .non), s.st)
  | some (.ok (.ret w), s) => some (.ok w, s.st)
  | some (.ok .brk, _) => none
  | some (.ok .cnt, _) => none
  | some (.ex c ks vs, s) => some (.ex c ks vs, s.st)
  | none => none
abbrev FF := List W → Store → Option (Out W × Store)
abbrev FP := List D → Option (Out D)
abbrev FO := List D → Option (Out OO)
/-- a def that may read and write the caller's store -/
def spF (c : Kx) (np : Nat) (F : FF) : Sp := fun vs H Q E => ∃ ρ G st ws, RS c ρ G H st ∧ RepWs c ρ G ws vs ∧ ws.length = np ∧ match F ws st with
  | none => False
  | some (.ok w, st') => ∀ v ρ' G' H', Stp ρ G H st ρ' G' H' st' → RS c ρ' G' H' st' → RepW c ρ' G' w v → Q v H'
  | some (.ex C ks es, st') => ∀ ρ' G' H' cls d, Stp ρ G H st ρ' G' H' st' → RS c ρ' G' H' st' → XOk c G' C ks es cls d → E cls d H'
/-- what a call leaves: all that stood, and new things that never change -/
structure Grown (G H G' H' : Hp) : Prop where
  sH : Same H H'
  sG : Same G G'
  sub : Same G' H'
  fr : ∀ a u, G a = none → G' a = some u → H a = none
/-- a def from trees to a tree -/
def spP (c : Kx) (np : Nat) (F : FP) : Sp := fun vs H Q E => ∃ G ds, Same G H ∧ RepDs c G ds vs ∧ ds.length = np ∧ match F ds with
  | none => False
  | some (.ok d) => ∀ v G' H', Grown G H G' H' → RepD c G' d v → Q v H'
  | some (.ex C ks es) => ∀ G' H' cls d, Grown G H G' H' → XOk c G' C ks es cls d → E cls d H'
/-- .. to an object that is the caller's own -/
def spO (c : Kx) (np : Nat) (F : FO) : Sp := fun vs H Q E => ∃ G ds, Same G H ∧ RepDs c G ds vs ∧ ds.length = np ∧ match F ds with
  | none => False
  | some (.ok o) => ∀ p G' H', Grown G H G' H' → G' p.1 = none → G' p.2 = none → H p.1 = none → H p.2 = none → OwnOk c [] G' H' p o → Q (.ref p.1) H'
  | some (.ex C ks es) => ∀ G' H' cls d, Grown G H G' H' → XOk c G' C ks es cls d → E cls d H'
def pureP (F : FF) : FP := fun ds => match F (ds.map .d) [] with
  | some (.ok w, st) => match fz 20 w st with
    | some (d, _) => some (.ok d)
    | none => none
  | some (.ex C ks es, _) => some (.ex C ks es)
  | none => none
def OO.fz (o : OO) (st : Store) : Option OO := match o with
  | .lst ws => match fzL (EV.fz 20) ws st with
    | some (ds, _) => some (.lst (ds.map .d))
    | none => none
  | .dct ks ws => match fzL (EV.fz 20) ws st with
    | some (ds, _) => some (.dct ks (ds.map .d))
    | none => none
  | .ins i ks ws => match fzL (EV.fz 20) ws st with
    | some (ds, _) => some (.ins i ks (ds.map .d))
    | none => none
  | .tup _ => none
def pureO (F : FF) : FO := fun ds => match F (ds.map .d) [] with
  | some (.ok (.loc n), st) => match st[n]? with
    | some (some o) => match o.fz (st.set n none) with
      | some o' => some (.ok o')
      | none => none
    | _ => none
  | some (.ok (.d _), _) => none
  | some (.ex C ks es, _) => some (.ex C ks es)
  | none => none
section
variable {c : Kx} {ρ : Rho} {G H G1 H1 : Hp} {st : Store}
theorem RS.nil (s : Same G H) : RS c [] G H [] := ⟨s, rfl, fun n p o h => (by simp at h), fun n m p q o o' h => (by simp at h)⟩
theorem Stp.grown (r : RS c ρ G1 H1 st) (S : Stp [] G H [] ρ G1 H1 st) : Grown G H G1 H1 :=
  ⟨fun a u h => S.keep a u h fun n p o e => (by simp at e), S.same, r.sub, fun a u h h' => by
    rcases S.fresh a u h h' with z | ⟨n, p, o, e, _⟩
    · exact z
    · simp at e⟩
theorem spP_of {np : Nat} {F : FF} {vs : List V} {Q : VK} {E : XK} (h : spP c np (pureP F) vs H Q E) : spF c np F vs H Q E := by
  obtain ⟨G, ds, sG, r, hl, h⟩ := h
  refine ⟨[], G, [], ds.map .d, RS.nil sG, RepWs.ofD r, by rw [List.length_map]; exact hl, ?_⟩
  unfold pureP at h
  cases e : F (ds.map .d) [] with
  | none => simp only [e] at h
  | some p =>
    obtain ⟨o, st'⟩ := p
    cases o with
    | ok w =>
      simp only [e] at h ⊢
      cases e2 : fz 20 w st' with
      | none => simp only [e2] at h
      | some q =>
        obtain ⟨d, st2⟩ := q
        simp only [e2] at h
        intro v ρ' G' H' S' r' rw'
        obtain ⟨G2, S2, r2, h2⟩ := fz_ok 20 G' st' st2 w v d r' rw' e2
        exact h v G2 H' ((S'.trans rfl S2).grown r2) h2
    | ex C ks es =>
      simp only [e] at h ⊢
      intro ρ' G' H' cls d S' r' x
      exact h G' H' cls d (S'.grown r') x
theorem OO.fz_ok {n : Nat} {p : Addr × Addr} {o o' : OO} (r : RS c ρ G H st) (hp : ρ[n]? = some p) (ho : st[n]? = some (some o)) (e : o.fz (st.set n none) = some o') :
    ∃ G' st', Stp ρ G H (st.set n none) ρ G' H st' ∧ RS c ρ G' H st' ∧ OwnOk c [] G' H p o' := by
  obtain ⟨_, _, ok⟩ := r.own n p o hp ho
  unfold OO.fz at e
  cases o with
  | tup ws => cases e
  | lst ws =>
    simp only at e
    split at e
    · rename_i ds st1 e1
      cases e
      obtain ⟨q, vs, hH, hw⟩ := ok
      obtain ⟨G1, S1, r1, h1⟩ := fzL_ok (EV.fz_ok 20) ws vs G _ _ ds (r.dead n) hw e1
      exact ⟨G1, st1, S1, r1, q, vs, hH, RepWs.ofD h1⟩
    · cases e
  | dct ks ws =>
    simp only at e
    split at e
    · rename_i ds st1 e1
      cases e
      obtain ⟨q, hk, vs, hH, hw⟩ := ok
      obtain ⟨G1, S1, r1, h1⟩ := fzL_ok (EV.fz_ok 20) ws vs G _ _ ds (r.dead n) hw e1
      exact ⟨G1, st1, S1, r1, q, by rw [List.length_map, hk, ← hw.len, h1.len], vs, hH, RepWs.ofD h1⟩
    · cases e
  | ins i ks ws =>
    simp only at e
    split at e
    · rename_i ds st1 e1
      cases e
      obtain ⟨hk, C, vs, hC, hF, hH, hO, hw⟩ := ok
      obtain ⟨G1, S1, r1, h1⟩ := fzL_ok (EV.fz_ok 20) ws vs G _ _ ds (r.dead n) hw e1
      exact ⟨G1, st1, S1, r1, by rw [List.length_map, hk, ← hw.len, h1.len], C, vs, hC, hF, hH, hO, RepWs.ofD h1⟩
    · cases e
theorem spO_of {np : Nat} {F : FF} {vs : List V} {Q : VK} {E : XK} (h : spO c np (pureO F) vs H Q E) : spF c np F vs H Q E := by
  obtain ⟨G, ds, sG, r, hl, h⟩ := h
  refine ⟨[], G, [], ds.map .d, RS.nil sG, RepWs.ofD r, by rw [List.length_map]; exact hl, ?_⟩
  unfold pureO at h
  cases e : F (ds.map .d) [] with
  | none => simp only [e] at h
  | some p =>
    obtain ⟨o, st'⟩ := p
    cases o with
    | ok w =>
      simp only [e] at h ⊢
      cases w with
      | d x => simp only at h
      | loc n =>
        simp only at h
        cases ho : st'[n]? with
        | none => simp only [ho] at h
        | some oo =>
        cases oo with
        | none => simp only [ho] at h
        | some o =>
          simp only [ho] at h
          intro v ρ' G' H' S' r' ⟨p, hp, hv⟩
          subst hv
          cases e2 : o.fz (st'.set n none) with
          | none => simp only [e2] at h
          | some o' =>
            simp only [e2] at h
            obtain ⟨G2, st2, S2, r2, h2⟩ := OO.fz_ok r' hp ho e2
            obtain ⟨g1, g2, _⟩ := r'.own n p o hp ho
            have dead : Stp [] G H [] ρ' G' H' (st'.set n none) := ⟨S'.same, S'.rho, fun m o' hm _ => absurd hm (Nat.not_lt_zero _), S'.keep, S'.there, S'.fresh, S'.new⟩
            obtain ⟨n1, n2⟩ := S'.new n p (Nat.zero_le _) hp
            have no : ∀ a, (a = p.1 ∨ a = p.2) → G' a = none → G2 a = none := fun a ha g => by
              cases q : G2 a with
              | none => rfl
              | some u =>
                exfalso
                have ok := (r'.own n p o hp ho).2.2
                obtain ⟨⟨u1, t1⟩, ⟨u2, t2⟩⟩ := ok.there
                rcases S2.fresh a u g q with z | ⟨m, p', o', hp', ho', z⟩
                · rcases ha with e | e
                  · rw [e, t1] at z; cases z
                  · rw [e, t2] at z; cases z
                · rcases get_set _ _ _ _ _ ho' with ⟨_, y, _⟩ | ⟨ne, y⟩
                  · cases y
                  · obtain ⟨a1, a2, a3, a4⟩ := r'.apart hp' hp y ho ne
                    rcases ha with e | e <;> rcases z with z | z <;> subst e
                    · exact a1 z.symm
                    · exact a3 z.symm
                    · exact a2 z.symm
                    · exact a4 z.symm
            exact h p G2 H' ((dead.trans rfl S2).grown r2) (no _ (.inl rfl) g1) (no _ (.inr rfl) g2) n1 n2 h2
    | ex C ks es =>
      simp only [e] at h ⊢
      intro ρ' G' H' cls d S' r' x
      exact h G' H' cls d (S'.grown r') x
theorem spF.len {np : Nat} {F : FF} {vs : List V} {Q : VK} {E : XK} (h : spF c np F vs H Q E) : vs.length = np := by
  obtain ⟨ρ, G, st, ws, _, r, hl, _⟩ := h
  rw [r.len, hl]
end
/-! ### a def's body keeps its promise -/
section
variable {P : Program} {w : World} {mg : Str → Option Value} {base : Heap} {c : Kx}
abbrev cxE (P : Program) (w : World) (c : Kx) (mg : Str → Option Value) (base : Heap) (N : List Str) (qual : Str) (st : Stmt) (f : Addr) (cdv : Value) (A : Around) (outer : List Env) (s : Shared) (H : Hp) (E : XK) : Cx :=
  cxOf (L2N.CX P w) P w c.K mg base N qual (defScope st) f cdv A outer s H E
abbrev wx (E : XK) : WX := fun cls d _ H => E cls d H
theorem okAny {K : PySem.W.Frag} {CXk : CXT} {nm q : Str} {sd : Stmt} {f : Addr} {fd : FuncData} {N ps : List Str} {k : Nat} {spc : Sp} (F : Fun K nm q sd f fd) (S : FnScope N ps (defScope sd)) (len : ∀ vs H Q E, spc vs H Q E → vs.length = ps.length)
    (body : ∀ (cdv : Value) (A : Around) (outer : List Env) (s : Shared) (H : Hp) (vs : List V) (Q : VK) (E : XK), Room k (A.deeper (envOfC q (defScope sd) s.heap.objs.size f cdv)) → spc vs H Q E →
      ∃ r, PSs (cxOf CXk P w K mg base N q (defScope sd) f cdv A outer s H E) (defBody sd) r ∧ r { nx := fun _ Hn => Q .non Hn, rt := Q } (L2.start N vs) H) : FnOk P w K mg base CXk (k + 1) f fd ps spc := by
  have e := F.ex
  obtain ⟨co, cd, vK, dc, m, an, cdv, t, os, rfl, look, code⟩ := e
  exact fn_of look code S len fun A outer s H vs Q E hr hsp => body cdv A outer s H vs Q E hr hsp
theorem wish_of {N : List Str} {np : Nat} {m : EM Fl} {vs : List V} {H : Hp} {Q : VK} {E : XK} (h : spF c np (bodyF N.length m) vs H Q E) : tS c (wx E) m { nx := fun _ Hn => Q .non Hn, rt := Q } (L2.start N vs) H := by
  obtain ⟨ρ, G, st, ws, r, rw', hl, h⟩ := h
  have hv : vs.length = ws.length := rw'.len
  have hR : R c ρ G (L2.start N vs) H (initS N.length ws st) := by
    refine ⟨r, fun i w e => ?_, ?_⟩
    · unfold initS at e
      unfold L2.start
      simp only at e
      by_cases hi : i < ws.length
      · rw [List.getElem?_append_left (by simpa using hi), List.getElem?_map] at e
        cases q : ws[i]? with
        | none => rw [q] at e; cases e
        | some y =>
          rw [q] at e
          cases e
          obtain ⟨v, h1, h2⟩ := rw'.get q
          exact ⟨v, by rw [List.getElem?_append_left (by simp [hv]; exact hi), List.getElem?_map, h1]; rfl, h2⟩
      · rw [List.getElem?_append_right (by simpa using hi), List.getElem?_replicate] at e
        split at e <;> cases e
    · unfold initS L2.start
      simp [hv]
  refine ⟨ρ, G, initS N.length ws st, hR, ?_⟩
  unfold bodyF at h
  unfold Ws
  cases e : m (initS N.length ws st) with
  | none => simp only [e] at h
  | some p =>
    obtain ⟨o, s'⟩ := p
    cases o with
    | ok fl =>
      cases fl with
      | nx =>
        simp only [e] at h
        exact fun ρ' G' σ' H' S' R' => h _ ρ' G' H' S' R'.rs .non
      | ret w =>
        simp only [e] at h
        exact fun ρ' G' σ' H' S' R' v rv => h v ρ' G' H' S' R'.rs rv
      | brk => simp only [e] at h
      | cnt => simp only [e] at h
    | ex C ks es =>
      simp only [e] at h
      exact fun ρ' G' σ' H' cls d S' R' x => h ρ' G' H' cls d S' R'.rs x
theorem fn_full {x qual : Str} {sd : Stmt} {f : Addr} {fd : FuncData} {N ps : List Str} {k : Nat} {m : EM Fl} (F : Fun c.K x qual sd f fd) (S : FnScope N ps (defScope sd)) (hn : ps.length ≤ N.length)
    (hb : ∀ (cdv : Value) (A : Around) (outer : List Env) (s : Shared) (H : Hp) (E : XK), Room k (A.deeper (envOfC qual (defScope sd) s.heap.objs.size f cdv)) → ESs c (cxE P w c mg base N qual sd f cdv A outer s H E) (wx E) (defBody sd) m) :
    FnOk P w c.K mg base (L2N.CX P w) (k + 1) f fd ps (spF c ps.length (bodyF N.length m)) := by
  exact okAny F S (fun vs H Q E h => h.len) fun cdv A outer s H vs Q E hr h => ⟨_, (hb cdv A outer s H E hr).ps, wish_of h⟩
end
end EV
/-! EV5: calls of defs, of methods, of classes. -/
namespace EV
open PySem PySem.Spec PyProof.Rows L2
def thr {α : Type} (C : Nat) (ks : List Nat) (es : List D) : EM α := fun s => some (.ex C ks es, s)
def allD : List W → Option (List D)
  | [] => some []
  | .d x :: r => (allD r).map (x :: ·)
  | .loc _ :: _ => none
theorem allD_map : ∀ (ds : List D), allD (ds.map .d) = some ds
  | [] => rfl
  | d :: ds => by
    show (allD (ds.map .d)).map (d :: ·) = _
    rw [allD_map ds]; rfl
theorem allD_eq : ∀ {ws : List W} {ds : List D}, allD ws = some ds → ws = ds.map .d
  | [], _, e => by cases e; rfl
  | .d x :: r, ds, e => by
    unfold allD at e
    cases q : allD r with
    | none => rw [q] at e; cases e
    | some es => rw [q] at e; cases e; rw [allD_eq q]; rfl
  | .loc _ :: _, _, e => by cases e
/-- the arguments are trees -/
def treesE (m : EM (List W)) : EM (List D) := bnd m fun ws => match allD ws with
  | some ds => pur ds
  | none => non
def outP (o : Option (Out D)) : EM W := match o with
  | some (.ok d) => pur (.d d)
  | some (.ex C ks es) => thr C ks es
  | none => non
def callP (F : FP) (m : EM (List W)) : EM W := bnd (treesE m) fun ds => outP (F ds)
def outO (o : Option (Out OO)) : EM W := match o with
  | some (.ok o) => fun s => some (.ok (.loc s.st.length), ⟨s.env, s.st ++ [some o]⟩)
  | some (.ex C ks es) => thr C ks es
  | none => non
def callO (F : FO) (m : EM (List W)) : EM W := bnd (treesE m) fun ds => outO (F ds)
def outF (o : Option (Out W × Store)) : EM W := match o with
  | some (.ok w, st) => fun s => some (.ok w, ⟨s.env, st⟩)
  | some (.ex C ks es, st) => fun s => some (.ex C ks es, ⟨s.env, st⟩)
  | none => non
def callF (F : FF) (m : EM (List W)) : EM W := bnd m fun ws => fun s => outF (F ws s.st) s
/-- a promise by values, within a def: what it asks gives what m gives -/
def SpA (c : Kx) (sp : Sp) (f : List W → EM W) : Prop :=
  ∀ (U : WX) (ρ : Rho) (G H : Hp) (σ : L2.St) (s : SS) (ws : List W) (vs : List V) (Q : VK), R c ρ G σ H s → RepWs c ρ G ws vs → Wp c U (f ws) ρ G σ H s (fun w ρ' G' H' _ => ∀ v, RepW c ρ' G' w v → Q v H') → sp vs H Q (WE U σ)
def gP (np : Nat) (F : FP) (ws : List W) : EM W := if ws.length = np then callP F (pur ws) else non
def gO (np : Nat) (F : FO) (ws : List W) : EM W := if ws.length = np then callO F (pur ws) else non
def gF (np : Nat) (F : FF) (ws : List W) : EM W := if ws.length = np then callF F (pur ws) else non
section
variable {c : Kx} {np : Nat}
theorem spA_P {F : FP} : SpA c (spP c np F) (gP np F) := fun U ρ G H σ s ws vs Q hR r w => by
  unfold gP at w
  by_cases hl : ws.length = np
  · rw [if_pos hl] at w
    cases e : allD ws with
    | none => exact w.none (by unfold callP treesE; rw [bnd_pur, e]; rfl)
    | some ds =>
      have e2 : callP F (pur ws) = outP (F ds) := by unfold callP treesE; rw [bnd_pur, e]; rfl
      rw [e2] at w
      obtain rfl := allD_eq e
      refine ⟨G, ds, hR.rs.sub, RepWs.toD r, by rw [List.length_map] at hl; exact hl, ?_⟩
      cases q : F ds with
      | none => rw [q] at w; exact w.none rfl
      | some o =>
        rw [q] at w
        cases o with
        | ok d =>
          intro v G' H' g rd
          obtain ⟨S, r'⟩ := called hR.rs g.sH g.sG g.sub g.fr
          exact Wp.okE (s' := s) (a := W.d d) rfl w ρ G' H' S ⟨r', hR.env.mono S.rho S.same, hR.len⟩ v rd
        | ex C ks es =>
          intro G' H' cls d g x
          obtain ⟨S, r'⟩ := called hR.rs g.sH g.sG g.sub g.fr
          exact w ρ G' H' cls d S ⟨r', hR.env.mono S.rho S.same, hR.len⟩ x
  · rw [if_neg hl] at w
    exact w.none rfl
theorem spA_O {F : FO} : SpA c (spO c np F) (gO np F) := fun U ρ G H σ s ws vs Q hR r w => by
  unfold gO at w
  by_cases hl : ws.length = np
  · rw [if_pos hl] at w
    cases e : allD ws with
    | none => exact w.none (by unfold callO treesE; rw [bnd_pur, e]; rfl)
    | some ds =>
      have e2 : callO F (pur ws) = outO (F ds) := by unfold callO treesE; rw [bnd_pur, e]; rfl
      rw [e2] at w
      obtain rfl := allD_eq e
      refine ⟨G, ds, hR.rs.sub, RepWs.toD r, by rw [List.length_map] at hl; exact hl, ?_⟩
      cases q : F ds with
      | none => rw [q] at w; exact w.none rfl
      | some o =>
        rw [q] at w
        cases o with
        | ok o =>
          intro p G' H' g n1 n2 h1 h2 ok
          obtain ⟨S, r'⟩ := called hR.rs g.sH g.sG g.sub g.fr
          -- the new object apart
          have own : OwnOk c ρ G' H' p o := ok.mono (fun n q e => by simp at e) (Same.refl _) (fun _ e => e) (fun _ e => e)
          have le : Rle ρ (ρ ++ [p]) := fun n q e => by rw [List.getElem?_append_left (List.getElem?_eq_some_iff.mp e).1]; exact e
          have at1 : ∀ (n : Nat) (q : Addr × Addr), (ρ ++ [p])[n]? = some q → ρ[n]? = some q ∨ (n = ρ.length ∧ q = p) := fun n q e => by
            by_cases hn : n < ρ.length
            · rw [List.getElem?_append_left hn] at e; exact .inl e
            · rw [List.getElem?_append_right (by omega)] at e
              have hz : n - ρ.length = 0 := by
                have := (List.getElem?_eq_some_iff.mp e).1
                simp at this; omega
              rw [hz] at e
              exact .inr ⟨by omega, (Option.some.inj e).symm⟩
          have at2 : ∀ (n : Nat) (o' : Option OO), (s.st ++ [some o])[n]? = some o' → s.st[n]? = some o' ∨ (n = s.st.length ∧ o' = some o) := fun n o' e => by
            by_cases hn : n < s.st.length
            · rw [List.getElem?_append_left hn] at e; exact .inl e
            · rw [List.getElem?_append_right (by omega)] at e
              have hz : n - s.st.length = 0 := by
                have := (List.getElem?_eq_some_iff.mp e).1
                simp at this; omega
              rw [hz] at e
              exact .inr ⟨by omega, (Option.some.inj e).symm⟩
          have old : ∀ (n : Nat) (q : Addr × Addr) (o' : OO), (ρ ++ [p])[n]? = some q → (s.st ++ [some o])[n]? = some (some o') → (ρ[n]? = some q ∧ s.st[n]? = some (some o')) ∨ (n = s.st.length ∧ q = p ∧ o' = o) := fun n q o' hq ho => by
            rcases at1 n q hq with z | ⟨z, e⟩
            · rcases at2 n _ ho with y | ⟨y, e⟩
              · exact .inl ⟨z, y⟩
              · have := (List.getElem?_eq_some_iff.mp z).1
                rw [hR.rs.len] at this
                omega
            · rcases at2 n _ ho with y | ⟨y, e'⟩
              · have := (List.getElem?_eq_some_iff.mp y).1
                rw [← hR.rs.len] at this
                omega
              · exact .inr ⟨y, e, Option.some.inj e'⟩
          have rs : RS c (ρ ++ [p]) G' H' (s.st ++ [some o]) := by
            refine ⟨g.sub, by simp [hR.rs.len], fun m q o' hq h => ?_, fun m m' q q' o1 o2 hq hq' ho ho' e => ?_⟩
            · rcases old m q o' hq h with ⟨z, y⟩ | ⟨_, e, e'⟩
              · obtain ⟨b1, b2, b3⟩ := r'.own m q o' z y
                exact ⟨b1, b2, b3.mono le (Same.refl _) (fun _ e => e) (fun _ e => e)⟩
              · subst e e'
                exact ⟨n1, n2, own.mono le (Same.refl _) (fun _ e => e) (fun _ e => e)⟩
            · rcases old m q o1 hq ho with ⟨z, y⟩ | ⟨z, y, _⟩
              · rcases old m' q' o2 hq' ho' with ⟨z', y'⟩ | ⟨z', y', _⟩
                · exact r'.inj m m' q q' o1 o2 z z' y y' e
                · obtain ⟨⟨u, t⟩, _⟩ := (hR.rs.own m q o1 z y).2.2.there
                  rw [e, y', h1] at t
                  cases t
              · rcases old m' q' o2 hq' ho' with ⟨z', y'⟩ | ⟨z', y', _⟩
                · obtain ⟨⟨u, t⟩, _⟩ := (hR.rs.own m' q' o2 z' y').2.2.there
                  rw [← e, y, h1] at t
                  cases t
                · omega
          have S2 : Stp ρ G H s.st (ρ ++ [p]) G' H' (s.st ++ [some o]) := by
            refine ⟨S.same, le, fun m o' hm h => ?_, S.keep, S.there, S.fresh, fun m q hm hq => ?_⟩
            · rcases at2 m _ h with z | ⟨z, _⟩
              · exact ⟨o', z⟩
              · rw [← hR.rs.len] at z; omega
            · rcases at1 m q hq with z | ⟨_, e⟩
              · have := (List.getElem?_eq_some_iff.mp z).1
                omega
              · rw [e]; exact ⟨h1, h2⟩
          exact Wp.okE (s' := ⟨s.env, s.st ++ [some o]⟩) (a := W.loc s.st.length) rfl w (ρ ++ [p]) G' H' S2 ⟨rs, hR.env.mono S2.rho S2.same, hR.len⟩ _
            ⟨p, by rw [← hR.rs.len, List.getElem?_append_right (Nat.le_refl _)]; simp, rfl⟩
        | ex C ks es =>
          intro G' H' cls d g x
          obtain ⟨S, r'⟩ := called hR.rs g.sH g.sG g.sub g.fr
          exact w ρ G' H' cls d S ⟨r', hR.env.mono S.rho S.same, hR.len⟩ x
  · rw [if_neg hl] at w
    exact w.none rfl
theorem spA_F {F : FF} : SpA c (spF c np F) (gF np F) := fun U ρ G H σ s ws vs Q hR r w => by
  unfold gF at w
  by_cases hl : ws.length = np
  · rw [if_pos hl] at w
    refine ⟨ρ, G, s.st, ws, hR.rs, r, hl, ?_⟩
    have e2 : callF F (pur ws) s = outF (F ws s.st) s := rfl
    unfold Wp at w
    rw [e2] at w
    cases q : F ws s.st with
    | none => rw [q] at w; exact w
    | some p =>
      obtain ⟨o, st'⟩ := p
      rw [q] at w
      cases o with
      | ok x => exact fun v ρ' G' H' S r' rv => w ρ' G' H' S ⟨r', hR.env.mono S.rho S.same, hR.len⟩ v rv
      | ex C ks es => exact fun ρ' G' H' cls d S r' x => w ρ' G' H' cls d S ⟨r', hR.env.mono S.rho S.same, hR.len⟩ x
  · rw [if_neg hl] at w
    exact w.none rfl
end
/-! ### a def that may be called -/
/-- at f stands a def of level k that keeps sp; its last parameters have the defaults dvs -/
structure FnS (P : Program) (w : World) (K : PySem.W.Frag) (mg : Str → Option Value) (base : Heap) (k : Nat) (f : Addr) (sp : Sp) (dvs : List V) : Prop where
  ex : ∃ (fd : FuncData) (ps : List Str) (ds : List Value), FnOk P w K mg base (L2N.CX P w) k f fd ps sp ∧ PySem.W.keepIn K (.ref f) = true ∧ Binds K fd ps ds ∧ Vals dvs ds
theorem FnS.mono {P : Program} {w : World} {K : PySem.W.Frag} {mg : Str → Option Value} {base : Heap} {j k : Nat} {f : Addr} {sp : Sp} {dvs : List V} (h : FnS P w K mg base j f sp dvs) (hk : j ≤ k) : FnS P w K mg base k f sp dvs :=
  let ⟨fd, ps, ds, F, a, b, d⟩ := h.ex
  ⟨fd, ps, ds, F.mono hk, a, b, d⟩
theorem FnS.imp {P : Program} {w : World} {K : PySem.W.Frag} {mg : Str → Option Value} {base : Heap} {k : Nat} {f : Addr} {sp sp' : Sp} {dvs : List V} (h : FnS P w K mg base k f sp dvs) (q : ∀ vs H Q E, sp' vs H Q E → sp vs H Q E) : FnS P w K mg base k f sp' dvs :=
  let ⟨fd, ps, ds, F, a, b, d⟩ := h.ex
  ⟨fd, ps, ds, F.imp q, a, b, d⟩
section
variable {X : Cx} {c : Kx} {U : WX} {k : Nat} {f C : Addr} {sp : Sp} {dvs : List V} {x mn : Str} {p pos apos : Pos} {e o : Expr} {es : List Expr} {t : TA}
theorem run_g {pins : List (Addr × Obj)} {σ : L2.St} {H : Hp} {s : Shared} {Q : VK} {us : List Value} {vs : List V} (F : FnS X.prog X.w X.K X.mg X.base k f sp dvs) (hr : Room k X.A) (tk : L2N.Takes X U)
    (I : L2.Inv X pins σ H s) (r : Vals vs us) (h : sp (vs ++ dvs) H Q (WE U σ)) : wpAny (model X.prog X.w) X.A (call (.ref f) us) (EP X pins σ Q) X.xe s := by
  obtain ⟨fd, ps, ds, F, _, hb, hd⟩ := F.ex
  have r2 := r.append hd
  have hl : (us ++ ds).length = ps.length := by
    rw [← r2.length]
    exact F.len _ _ _ _ h
  refine wpAny_call (codeAny_mono (F.run X.A X.stack s H ⟨us, []⟩ (us ++ ds) (vs ++ dvs) Q (WE U σ) hr I.env0 (hb s us I.kIn hl) r2 h) fun res s' hq => ?_)
  match res, hq with
  | .error e, hq => exact L2N.passAt tk σ pins H s e s' I hq
  | .ok (.ret u), hq => exact I.after hq
  | .ok .next, hq => exact hq.elim
  | .ok .brk, hq => exact hq.elim
  | .ok .cont, hq => exact hq.elim
/-- the reading of a call -/
def tCl (sp : Sp) (dvs : List V) (U : WX) (t : TA) : TE := fun σ H Q => t σ H fun vs H1 => sp (vs ++ dvs) H1 Q (WE U σ)
theorem pe_cl (F : FnS X.prog X.w X.K X.mg X.base k f sp dvs) (hr : Room k X.A) (tk : L2N.Takes X U) (hg : Gl X x) (hm : X.mg x = some (.ref f)) (ha : PA X (e :: es) t)
    (hdb : (x == ("__debug__" : Str)) = false := by decide) (he : starEach (e :: es) X.env = (false, eval e X.env) :: starEach es X.env := by rfl) (hpl : (backTo pos (starEach es X.env)).any (·.1) = false := by rfl) :
    PE X (.Call (.Name x p) (e :: es) [] pos) (tCl sp dvs U t) := ⟨fun pins s σ H Q I h => by
  obtain ⟨fd, ps, ds, _, hk, _⟩ := id F.ex
  refine wpAny_Call_Name_kw (ld_glob I hg hm (PySem.W.callWith_K (h₀ := X.base) I.ok.mod.kin hk ?_ he hpl) hdb)
  exact thn (ha.run pos pins s σ H _ I h) fun us s1 ⟨vs, H1, I1, r, q⟩ => ⟨I1.kIn, run_g F hr tk I1 r q⟩⟩
theorem pe_cl0 (F : FnS X.prog X.w X.K X.mg X.base k f sp dvs) (hr : Room k X.A) (tk : L2N.Takes X U) (hg : Gl X x) (hm : X.mg x = some (.ref f))
    (hdb : (x == ("__debug__" : Str)) = false := by decide) : PE X (.Call (.Name x p) [] [] pos) (tCl sp dvs U tNil) := ⟨fun pins s σ H Q I h => by
  obtain ⟨fd, ps, ds, _, hk, _⟩ := id F.ex
  exact wpAny_Call_Name_kw (ld_glob I hg hm (PySem.W.callWith_K0 I.kIn hk (run_g (us := []) F hr tk I .nil h)) hdb)⟩
/-- what a call gives, by the rule of its promise -/
def callE (g : List W → EM W) (dws : List W) (m : EM (List W)) : EM W := bnd m fun ws => g (ws ++ dws)
/-- the defaults as values -/
def DefOk (c : Kx) (dws : List W) (dvs : List V) : Prop := ∀ (ρ : Rho) (G : Hp), RepWs c ρ G dws dvs
theorem DefOk.nil : DefOk c [] [] := fun _ _ => rfl
theorem wp_cl {g : List W → EM W} {m : EM (List W)} {dws : List W} (hs : SpA c sp g) (hd : DefOk c dws dvs) {ρ : Rho} {G H : Hp} {σ : L2.St} {s : SS} {Q : VK} (hR : R c ρ G σ H s) (w : Wp c U (callE g dws m) ρ G σ H s (fun w ρ' G' H' _ => ∀ v, RepW c ρ' G' w v → Q v H')) :
    tCl sp dvs U (tA c U m) σ H Q :=
  ⟨ρ, G, s, hR, (Wp.bnd hR w).imp fun ws ρ1 G1 H1 s1 ⟨S1, R1, w1⟩ vs rvs => hs U ρ1 G1 H1 σ s1 (ws ++ dws) (vs ++ dvs) Q R1 (rvs.app (hd ρ1 G1)) w1⟩
variable {g : List W → EM W} {dws : List W} {m : EM (List W)} {mo : EM W}
theorem ee_call (hs : SpA c sp g) (hd : DefOk c dws dvs) (F : FnS X.prog X.w X.K X.mg X.base k f sp dvs) (hr : Room k X.A) (tk : L2N.Takes X U) (hg : Gl X x) (hm : X.mg x = some (.ref f)) (ha : EA c X U (e :: es) m)
    (hdb : (x == ("__debug__" : Str)) = false := by decide) (he : starEach (e :: es) X.env = (false, eval e X.env) :: starEach es X.env := by rfl) (hpl : (backTo pos (starEach es X.env)).any (·.1) = false := by rfl) :
    EE c X U (.Call (.Name x p) (e :: es) [] pos) (callE g dws m) :=
  EE.mk1 ha.K (pe_cl F hr tk hg hm ha.pa hdb he hpl) fun ρ G s σ H Q hR w => wp_cl hs hd hR w
theorem ee_call0 (hK : X.K = c.K) (hs : SpA c sp g) (hd : DefOk c dws dvs) (F : FnS X.prog X.w X.K X.mg X.base k f sp dvs) (hr : Room k X.A) (tk : L2N.Takes X U) (hg : Gl X x) (hm : X.mg x = some (.ref f))
    (hdb : (x == ("__debug__" : Str)) = false := by decide) : EE c X U (.Call (.Name x p) [] [] pos) (callE g dws anil) :=
  EE.mk1 hK (pe_cl0 F hr tk hg hm hdb) fun ρ G s σ H Q hR w => by
    have q := wp_cl (m := anil) hs hd hR w
    obtain ⟨ρ, G, s, hR, w⟩ := q
    exact Wp.pur hR w [] rfl
end
end EV
/-! EV6: methods, classes called. -/
namespace EV
open PySem PySem.Spec PyProof.Rows L2
def clsOf (st : Store) : W → Option Nat
  | .d (.ins k _ _) => some k
  | .d _ => none
  | .loc n => match st[n]? with
    | some (some (.ins k _ _)) => some k
    | _ => none
def methE (tbl : List (Nat × (List W → EM W))) (mo : EM W) (m : EM (List W)) : EM W := bnd mo fun o => fun s => match clsOf s.st o with
  | none => none
  | some k => match tbl.lookup k with
    | none => none
    | some g => bnd m (fun ws => g (o :: ws)) s
section
variable {c : Kx} {ρ : Rho} {G H : Hp} {st : Store}
theorem nm_none {C : Addr} {ks : List Nat} {vs : List V} {mn : Str} {f : Addr} (h : FOk c C ks) (hm : PySem.W.findIn c.K (.ref C) mn = some (some (.ref f))) : ((ks.map c.nm).zip vs).lookup mn = none := by
  have key : ∀ (ks : List Nat) (vs : List V), (∀ i ∈ ks, NoAttr c.K C (c.nm i)) → ((ks.map c.nm).zip vs).lookup mn = none := by
    intro ks
    induction ks with
    | nil => intro vs _; rfl
    | cons i r ih =>
      intro vs hn
      cases vs with
      | nil => rfl
      | cons v vs =>
        have ne : (mn == c.nm i) = false := by
          rw [beq_eq_false_iff_ne]
          intro e
          have := hn i List.mem_cons_self
          unfold NoAttr at this
          rw [← e, hm] at this
          cases this
        show (match mn == c.nm i with | true => some v | false => ((r.map c.nm).zip vs).lookup mn) = none
        rw [ne]
        exact ih vs fun j hj => hn j (List.mem_cons_of_mem _ hj)
  exact key ks vs fun i hi => (h.2 i hi).2
/-- an instance stands -/
theorem inst_at (r : RS c ρ G H st) {w : W} {v : V} {k : Nat} (rw' : RepW c ρ G w v) (hk : clsOf st w = some k) : ∃ (a C dx : Addr) (ks : List Nat) (vs : List V), v = .ref a ∧ c.ct[k]? = some C ∧ FOk c C ks ∧ H a = some (.ins C dx ((ks.map c.nm).zip vs)) := by
  cases w with
  | d x =>
    cases x with
    | ins k' ks ds =>
      cases hk
      cases rw' with
      | ins hC hF hG hO hl hr => exact ⟨_, _, _, _, _, rfl, hC, hF, r.sub _ _ hG⟩
    | _ => cases hk
  | loc n =>
    obtain ⟨p, hp, hv⟩ := rw'
    unfold clsOf at hk
    cases ho : st[n]? with
    | none => simp only [ho] at hk; cases hk
    | some o =>
      cases o with
      | none => simp only [ho] at hk; cases hk
      | some o =>
        cases o with
        | ins k' ks ws =>
          simp only [ho] at hk
          cases hk
          obtain ⟨_, _, hkl, C, vs, hC, hF, hH, hO, hw⟩ := r.own n p _ hp ho
          exact ⟨p.1, C, p.2, ks, vs, hv, hC, hF, hH⟩
        | lst _ => simp only [ho] at hk; cases hk
        | dct _ _ => simp only [ho] at hk; cases hk
        | tup _ => simp only [ho] at hk; cases hk
end
/-- the class of number k has the method -/
structure MethOk (c : Kx) (X : Cx) (mn : Str) (k : Nat) (g : List W → EM W) : Prop where
  ex : ∃ (C f : Addr) (sp : Sp) (dvs : List V) (dws : List W) (g0 : List W → EM W) (j : Nat), c.ct[k]? = some C ∧ Meth c.K C mn f ∧ FnS X.prog X.w X.K X.mg X.base j f sp dvs ∧ Room j X.A ∧ SpA c sp g0 ∧ DefOk c dws dvs ∧ g = fun ws => g0 (ws ++ dws)
section
variable {X : Cx} {c : Kx} {U : WX} {k j : Nat} {f C : Addr} {sp : Sp} {dvs : List V} {x mn : Str} {p pos apos : Pos} {e o : Expr} {es : List Expr} {t : TA} {mo : EM W} {m : EM (List W)} {tbl : List (Nat × (List W → EM W))}
theorem getm {pins : List (Addr × Obj)} {σ : L2.St} {H : Hp} {s : Shared} {a dx : Addr} {ks : List Nat} {vs : List V} {A : Around} {E : Value → Shared → Prop} {pl : Sem Bool} {Q : Value × List Value → Shared → Prop} (hK : X.K = c.K) (I : L2.Inv X pins σ H s)
    (ha : H a = some (.ins C dx ((ks.map c.nm).zip vs))) (hF : FOk c C ks) (hm : Meth c.K C mn f) (h : Q (.ref f, [.ref a]) s) : wpAny (model X.prog X.w) A (getMethod (.ref a) mn pl) Q E s := by
  refine getmeth_ok I ha ?_ ?_ (nm_none hF hm.at_) h
  · rw [hK]; exact hF.1
  · rw [hK]; exact hm
theorem ee_meth {pl : Sem Bool} (ht : ∀ k g, tbl.lookup k = some g → MethOk c X mn k g) (tk : L2N.Takes X U) (ho : EE c X U o mo) (ha : EA c X U (e :: es) m)
    (hst : starEach (e :: es) X.env = (false, eval e X.env) :: starEach es X.env := by rfl) (hpl : (backTo pos (starEach es X.env)).any (·.1) = false := by rfl)
    (hev : eval (.Call (.Attribute o mn apos) (e :: es) [] pos) X.env = (do
      let z ← eval o X.env
      standAt apos.atName
      let (f, first) ← holding [z] (getMethod z mn pl)
      callWith pos f first (backTo pos (starEach (e :: es) X.env)) (backToKw pos (keywordEach [] X.env))) := by rfl) :
    EE c X U (.Call (.Attribute o mn apos) (e :: es) [] pos) (methE tbl mo m) := ⟨ho.K, ⟨fun pins s σ H Q I ⟨ρ, G, ss, hR, w⟩ => by
  have q1 : tE c U mo σ H (fun v H' => ∃ (a : Addr) (k : Nat) (C dx : Addr) (ks : List Nat) (vs : List V) (g : List W → EM W) (w : W) (ρ' : Rho) (G' : Hp) (s' : SS), v = V.ref a ∧ tbl.lookup k = some g ∧ c.ct[k]? = some C ∧ FOk c C ks ∧ H' a = some (.ins C dx ((ks.map c.nm).zip vs)) ∧
      RepW c ρ' G' w v ∧ R c ρ' G' σ H' s' ∧ Wp c U (bnd m fun ws => g (w :: ws)) ρ' G' σ H' s' (fun w ρ' G' H' _ => ∀ v, RepW c ρ' G' w v → Q v H')) := by
    refine ⟨ρ, G, ss, hR, (Wp.bnd hR w).imp fun z ρ1 G1 H1 s1 ⟨S1, R1, w1⟩ v rv => ?_⟩
    unfold Wp at w1
    cases hk : clsOf s1.st z with
    | none => simp only [hk] at w1
    | some k =>
      cases hg : tbl.lookup k with
      | none => simp only [hk, hg] at w1
      | some g =>
        simp only [hk, hg] at w1
        obtain ⟨a, C, dx, ks, vs, e, hC, hF, hH⟩ := inst_at R1.rs rv hk
        exact ⟨a, k, C, dx, ks, vs, g, z, ρ1, G1, s1, e, hg, hC, hF, hH, rv, R1, w1⟩
  refine PySem.W.methodCall_KW (pl := pl) (thn (ho.pe.run pins s σ H _ I q1) fun u s1 ⟨v, H1, I1, ru, a, k, C, dx, ks, vs, g, z, ρ1, G1, s2, hv, hg, hC, hF, hH, rv, R1, w1⟩ => ?_) hev
  · subst hv
    obtain rfl : u = Value.ref a := ru
    obtain ⟨C', f, sp, dvs, dws, g0, j, hC', hm, F, hr, hs, hd, rfl⟩ := (ht k g hg).ex
    rw [hC] at hC'
    cases hC'
    refine getm ho.K I1 hH hF hm ?_
    refine PySem.W.callWith_K (first := [.ref a]) (h₀ := X.base) I1.ok.mod.kin (by rw [ho.K]; exact hm.kp) ?_ hst hpl
    refine thn (ha.pa.run pos pins s1 σ H1 (fun vs H' => sp (V.ref a :: vs ++ dvs) H' Q (WE U σ)) I1 ⟨_, _, _, R1, (Wp.bnd R1 w1).imp fun ws ρ2 G2 H2 s2 ⟨S2, R2, w2⟩ us rus => ?_⟩) fun us s2 ⟨vs2, H2, I2, r, q2⟩ => ⟨I2.kIn, ?_⟩
    · have r1 : RepWs c ρ2 G2 ((_ :: ws) ++ dws) (V.ref a :: us ++ dvs) := RepWs.app (⟨_, us, rfl, rv.mono S2.rho S2.same, rus⟩ : RepWs c ρ2 G2 (_ :: ws) (V.ref a :: us)) (hd ρ2 G2)
      exact hs U ρ2 G2 H2 σ s2 _ _ Q R2 r1 w2
    · exact run_g (us := .ref a :: us) (vs := .ref a :: vs2) F hr tk I2 (.cons rfl r) q2⟩⟩
theorem ee_meth0 {pl : Sem Bool} (ht : ∀ k g, tbl.lookup k = some g → MethOk c X mn k g) (tk : L2N.Takes X U) (ho : EE c X U o mo)
    (hev : eval (.Call (.Attribute o mn apos) [] [] pos) X.env = (do
      let z ← eval o X.env
      standAt apos.atName
      let (f, first) ← holding [z] (getMethod z mn pl)
      callWith pos f first (backTo pos (starEach [] X.env)) (backToKw pos (keywordEach [] X.env))) := by rfl) :
    EE c X U (.Call (.Attribute o mn apos) [] [] pos) (methE tbl mo anil) := ⟨ho.K, ⟨fun pins s σ H Q I ⟨ρ, G, ss, hR, w⟩ => by
  have q1 : tE c U mo σ H (fun v H' => ∃ (a : Addr) (k : Nat) (C dx : Addr) (ks : List Nat) (vs : List V) (g : List W → EM W) (w : W) (ρ' : Rho) (G' : Hp) (s' : SS), v = V.ref a ∧ tbl.lookup k = some g ∧ c.ct[k]? = some C ∧ FOk c C ks ∧ H' a = some (.ins C dx ((ks.map c.nm).zip vs)) ∧
      RepW c ρ' G' w v ∧ R c ρ' G' σ H' s' ∧ Wp c U (g [w]) ρ' G' σ H' s' (fun w ρ' G' H' _ => ∀ v, RepW c ρ' G' w v → Q v H')) := by
    refine ⟨ρ, G, ss, hR, (Wp.bnd hR w).imp fun z ρ1 G1 H1 s1 ⟨S1, R1, w1⟩ v rv => ?_⟩
    unfold Wp at w1
    cases hk : clsOf s1.st z with
    | none => simp only [hk] at w1
    | some k =>
      cases hg : tbl.lookup k with
      | none => simp only [hk, hg] at w1
      | some g =>
        simp only [hk, hg] at w1
        obtain ⟨a, C, dx, ks, vs, e, hC, hF, hH⟩ := inst_at R1.rs rv hk
        exact ⟨a, k, C, dx, ks, vs, g, z, ρ1, G1, s1, e, hg, hC, hF, hH, rv, R1, w1⟩
  refine PySem.W.methodCall_KW (pl := pl) (thn (ho.pe.run pins s σ H _ I q1) fun u s1 ⟨v, H1, I1, ru, a, k, C, dx, ks, vs, g, z, ρ1, G1, s2, hv, hg, hC, hF, hH, rv, R1, w1⟩ => ?_) hev
  · subst hv
    obtain rfl : u = Value.ref a := ru
    obtain ⟨C', f, sp, dvs, dws, g0, j, hC', hm, F, hr, hs, hd, rfl⟩ := (ht k g hg).ex
    rw [hC] at hC'
    cases hC'
    refine getm ho.K I1 hH hF hm ?_
    refine PySem.W.callWith_K0 (first := [.ref a]) I1.kIn (by rw [ho.K]; exact hm.kp) ?_
    refine run_g (us := [.ref a]) (vs := [.ref a]) F hr tk I1 (.cons rfl .nil) ?_
    have r1 : RepWs c _ _ ([_] ++ dws) ([V.ref a] ++ dvs) := RepWs.app (⟨_, [], rfl, rv, rfl⟩ : RepWs c _ _ [_] [V.ref a]) (hd _ _)
    exact hs U _ _ H1 σ _ _ _ Q R1 r1 w1⟩⟩
/-! ### C.m(..): a def of a class, called as it stands -/
structure CFun (K : PySem.W.Frag) (C : Addr) (mn : Str) (f : Addr) : Prop where
  ex : ∃ mc, ClX.CRead K C mc ∧ PySem.W.findCls K (.ref C) mc mn = some (.val (.ref f))
theorem ee_cfun {g : List W → EM W} {dws : List W} (hs : SpA c sp g) (hd : DefOk c dws dvs) (F : FnS X.prog X.w X.K X.mg X.base k f sp dvs) (hr : Room k X.A) (tk : L2N.Takes X U) (hg : Gl X x) (hm : X.mg x = some (.ref C)) (hC : CFun X.K C mn f) (ha : EA c X U (e :: es) m)
    (hdb : (x == ("__debug__" : Str)) = false := by decide) {pl : Sem Bool} (hst : starEach (e :: es) X.env = (false, eval e X.env) :: starEach es X.env := by rfl) (hpl : (backTo pos (starEach es X.env)).any (·.1) = false := by rfl)
    (hev : eval (.Call (.Attribute (.Name x p) mn apos) (e :: es) [] pos) X.env = (do
      let z ← eval (.Name x p) X.env
      standAt apos.atName
      let (f, first) ← holding [z] (getMethod z mn pl)
      callWith pos f first (backTo pos (starEach (e :: es) X.env)) (backToKw pos (keywordEach [] X.env))) := by rfl) :
    EE c X U (.Call (.Attribute (.Name x p) mn apos) (e :: es) [] pos) (callE g dws m) := ⟨ha.K, ⟨fun pins s σ H Q I ⟨ρ, G, ss, hR, w⟩ => by
  obtain ⟨mc, rd, at_⟩ := hC.ex
  have q := wp_cl (Q := Q) hs hd hR w
  refine PySem.W.methodCall_KW (pl := pl) (ld_glob I hg hm ?_ hdb) hev
  refine PySem.W.method_cls I.kIn rd.ga (ClX.getcval_ok (v := .ref f) I rd ⟨at_, rfl⟩ fun s1 I1 => ?_)
  obtain ⟨fd, ps, ds, _, hk, _⟩ := id F.ex
  refine PySem.W.callWith_K (first := []) (h₀ := X.base) I1.ok.mod.kin hk ?_ hst hpl
  exact thn (ha.pa.run pos pins s1 σ H _ I1 q) fun us s2 ⟨vs, H2, I2, r, q2⟩ => ⟨I2.kIn, run_g F hr tk I2 r q2⟩⟩⟩
/-! ### C(..) -/
theorem run_mk {pins : List (Addr × Obj)} {σ : L2.St} {H : Hp} {s : Shared} {Q : VK} {us : List Value} {vs : List V} (M : Mk X.K C f) (F : FnS X.prog X.w X.K X.mg X.base k f sp dvs) (hr : Room (k + 1) X.A) (tk : L2N.Takes X U) (I : L2.Inv X pins σ H s) (r : Vals vs us)
    (h : ∀ x dx, H x = none → H dx = none → dx ≠ x → sp (.ref x :: (vs ++ dvs)) (upd (upd H dx (.own x)) x (.ins C dx [])) (fun v H2 => v = .non ∧ Q (.ref x) H2) (WE U σ)) :
    wpAny (model X.prog X.w) X.A (call (.ref C) us) (EP X pins σ Q) X.xe s := by
  obtain ⟨fd, ps, ds, F, _, hb, hd⟩ := F.ex
  have hq := h (s.heap.objs.size + 1) s.heap.objs.size (I.hok.fresh (Nat.le_succ _)) (I.hok.fresh (Nat.le_refl _)) (Nat.ne_of_lt (Nat.lt_succ_self _))
  have I2 := Inv.made (C := C) I
  have r2 : Vals (V.ref (s.heap.objs.size + 1) :: (vs ++ dvs)) (Value.ref (s.heap.objs.size + 1) :: (us ++ ds)) := .cons rfl (r.append hd)
  have hl : (Value.ref (s.heap.objs.size + 1) :: us ++ ds).length = ps.length := by
    have e := F.len _ _ _ _ hq
    rw [r2.length] at e
    exact e
  refine wpAny_call (L2.make_map (f := f) I.kIn M.makes M.init (beq_iff_eq.mp M.fn) (codeAny_mono (F.run _ X.stack _ _ ⟨Value.ref (s.heap.objs.size + 1) :: us, []⟩ (Value.ref (s.heap.objs.size + 1) :: (us ++ ds)) _ _ (WE U σ)
    (hr.make C us []) (I2.env0.make C us []) (hb _ (Value.ref (s.heap.objs.size + 1) :: us) I2.kIn hl) r2 hq) fun res s' hq' => ?_))
  match res, hq' with
  | .error e, hq' => exact L2N.passAt tk σ pins _ _ e s' I2 hq'
  | .ok (.ret u), hq' =>
    obtain ⟨v, H', I3, rv, ev, q3⟩ := I2.after hq'
    subst ev
    exact ⟨rv, ⟨V.ref (s.heap.objs.size + 1), H', I3, rfl, q3⟩⟩
  | .ok .next, hq' => exact hq'.elim
  | .ok .brk, hq' => exact hq'.elim
  | .ok .cont, hq' => exact hq'.elim
def tMk (C : Addr) (sp : Sp) (dvs : List V) (U : WX) (t : TA) : TE := fun σ H Q => t σ H fun vs H1 => ∀ x dx, H1 x = none → H1 dx = none → dx ≠ x →
  sp (.ref x :: (vs ++ dvs)) (upd (upd H1 dx (.own x)) x (.ins C dx [])) (fun v H2 => v = .non ∧ Q (.ref x) H2) (WE U σ)
theorem pe_mkC (M : Mk X.K C f) (F : FnS X.prog X.w X.K X.mg X.base k f sp dvs) (hr : Room (k + 1) X.A) (tk : L2N.Takes X U) (hg : Gl X x) (hm : X.mg x = some (.ref C)) (ha : PA X (e :: es) t)
    (hdb : (x == ("__debug__" : Str)) = false := by decide) (he : starEach (e :: es) X.env = (false, eval e X.env) :: starEach es X.env := by rfl) (hpl : (backTo pos (starEach es X.env)).any (·.1) = false := by rfl) :
    PE X (.Call (.Name x p) (e :: es) [] pos) (tMk C sp dvs U t) := ⟨fun pins s σ H Q I h => by
  refine wpAny_Call_Name_kw (ld_glob I hg hm (PySem.W.callWith_K (h₀ := X.base) I.ok.mod.kin M.kp ?_ he hpl) hdb)
  exact thn (ha.run pos pins s σ H _ I h) fun us s1 ⟨vs, H1, I1, r, q⟩ => ⟨I1.kIn, run_mk M F hr tk I1 r q⟩⟩
theorem pe_mkC0 (M : Mk X.K C f) (F : FnS X.prog X.w X.K X.mg X.base k f sp dvs) (hr : Room (k + 1) X.A) (tk : L2N.Takes X U) (hg : Gl X x) (hm : X.mg x = some (.ref C))
    (hdb : (x == ("__debug__" : Str)) = false := by decide) : PE X (.Call (.Name x p) [] [] pos) (tMk C sp dvs U tNil) := ⟨fun pins s σ H Q I h =>
  wpAny_Call_Name_kw (ld_glob I hg hm (PySem.W.callWith_K0 I.kIn M.kp (run_mk (us := []) M F hr tk I .nil h)) hdb)⟩
/-- .. a tree -/
def mkP (k np : Nat) (F : FF) (dws : List W) (m : EM (List W)) : EM W := bnd (treesE m) fun ds => match (if (.loc 0 :: (ds.map .d ++ dws)).length = np then F (.loc 0 :: (ds.map .d ++ dws)) [some (.ins k [] [])] else none) with
  | some (.ok (.d .non), st) => match fz 20 (.loc 0) st with
    | some (d, _) => pur (.d d)
    | none => non
  | some (.ex C ks es, _) => thr C ks es
  | _ => non
/-- .. an object of the store -/
def mkO (k np : Nat) (F : FF) (dws : List W) (m : EM (List W)) : EM W := bnd m fun ws => fun s => match (if (.loc s.st.length :: (ws ++ dws)).length = np then F (.loc s.st.length :: (ws ++ dws)) (s.st ++ [some (.ins k [] [])]) else none) with
  | some (.ok (.d .non), st) => some (.ok (.loc s.st.length), ⟨s.env, st⟩)
  | some (.ex C ks es, st) => some (.ex C ks es, ⟨s.env, st⟩)
  | _ => none
theorem made_own {ρ : Rho} {G H : Hp} {st : Store} {x dx : Addr} (r : RS c ρ G H st) (hk : c.ct[j]? = some C) (hc : Cls c.K C) (h1 : H x = none) (h2 : H dx = none) (ne : dx ≠ x) :
    Stp ρ G H st (ρ ++ [(x, dx)]) G (upd (upd H dx (.own x)) x (.ins C dx [])) (st ++ [some (.ins j [] [])]) ∧ RS c (ρ ++ [(x, dx)]) G (upd (upd H dx (.own x)) x (.ins C dx [])) (st ++ [some (.ins j [] [])]) := by
  refine new_own (p := (x, dx)) r h1 h2 (fun a u e => ?_) ⟨rfl, C, [], hk, ⟨hc, fun i hi => by cases hi⟩, upd_same, ?_, rfl⟩
  · rw [upd_ne (ne_of_none e h1), upd_ne (ne_of_none e h2)]
    exact e
  · show upd _ x _ dx = _
    rw [upd_ne ne, upd_same]
variable {np : Nat} {F : FF} {dws : List W}
theorem wp_mkO (hd : DefOk c dws dvs) (hk : c.ct[j]? = some C) (hc : Cls c.K C) {ρ : Rho} {G H : Hp} {σ : L2.St} {s : SS} {Q : VK} (hR : R c ρ G σ H s) (w : Wp c U (mkO j np F dws m) ρ G σ H s (fun w ρ' G' H' _ => ∀ v, RepW c ρ' G' w v → Q v H')) :
    tMk C (spF c np F) dvs U (tA c U m) σ H Q :=
  ⟨ρ, G, s, hR, (Wp.bnd hR w).imp fun ws ρ1 G1 H1 s1 ⟨S1, R1, w1⟩ vs rvs x dx h1 h2 ne => by
    obtain ⟨S2, r2⟩ := made_own (j := j) R1.rs hk hc h1 h2 ne
    have at0 : (ρ1 ++ [(x, dx)])[s1.st.length]? = some (x, dx) := by rw [← R1.rs.len, List.getElem?_append_right (Nat.le_refl _)]; simp
    unfold Wp at w1
    dsimp only at w1
    by_cases hn : (W.loc s1.st.length :: (ws ++ dws)).length = np
    · rw [if_pos hn] at w1
      refine ⟨_, _, _, W.loc s1.st.length :: (ws ++ dws), r2, ⟨_, _, rfl, ⟨(x, dx), at0, rfl⟩, (rvs.mono S2.rho S2.same).app (hd _ _)⟩, hn, ?_⟩
      cases e : F (W.loc s1.st.length :: (ws ++ dws)) (s1.st ++ [some (OO.ins j [] [])]) with
      | none => simp only [e] at w1
      | some q =>
        obtain ⟨o, st'⟩ := q
        cases o with
        | ok z =>
          cases z with
          | loc n => simp only [e] at w1
          | d z =>
            cases z with
            | non =>
              simp only [e] at w1
              intro v ρ' G' H' S' r' rv
              cases rv
              have S3 := S2.trans R1.rs.len S'
              exact ⟨rfl, w1 ρ' G' H' S3 ⟨r', R1.env.mono S3.rho S3.same, R1.len⟩ _ ⟨(x, dx), S'.rho _ _ at0, rfl⟩⟩
            | _ => simp only [e] at w1
        | ex C' ks es =>
          simp only [e] at w1
          intro ρ' G' H' cls d S' r' xo
          have S3 := S2.trans R1.rs.len S'
          exact w1 ρ' G' H' cls d S3 ⟨r', R1.env.mono S3.rho S3.same, R1.len⟩ xo
    · rw [if_neg hn] at w1
      exact w1.elim⟩
theorem wp_trees {α : Type} {f : List D → EM α} {ρ : Rho} {G H : Hp} {σ : L2.St} {s : SS} {kk : α → Rho → Hp → Hp → SS → Prop} (hR : R c ρ G σ H s) (w : Wp c U (bnd (treesE m) f) ρ G σ H s kk) :
    Wp c U m ρ G σ H s (fun ws ρ1 G1 H1 s1 => ∃ ds, ws = ds.map .d ∧ Stp ρ G H s.st ρ1 G1 H1 s1.st ∧ R c ρ1 G1 σ H1 s1 ∧ Wp c U (f ds) ρ1 G1 σ H1 s1 kk) := by
  unfold treesE at w
  rw [bnd_assoc] at w
  refine (Wp.bnd hR w).imp fun ws ρ1 G1 H1 s1 ⟨S1, R1, w1⟩ => ?_
  cases e : allD ws with
  | none => exact w1.none (by simp only [e]; rfl)
  | some ds =>
    simp only [e] at w1
    exact ⟨ds, allD_eq e, S1, R1, w1⟩
theorem wp_mkP (hd : DefOk c dws dvs) (hk : c.ct[j]? = some C) (hc : Cls c.K C) {ρ : Rho} {G H : Hp} {σ : L2.St} {s : SS} {Q : VK} (hR : R c ρ G σ H s) (w : Wp c U (mkP j np F dws m) ρ G σ H s (fun w ρ' G' H' _ => ∀ v, RepW c ρ' G' w v → Q v H')) :
    tMk C (spF c np F) dvs U (tA c U m) σ H Q :=
  ⟨ρ, G, s, hR, (wp_trees hR w).imp fun ws ρ1 G1 H1 s1 ⟨ds, ew, S1, R1, w1⟩ vs rvs x dx h1 h2 ne => by
    subst ew
    have r0 : RS c [] G1 H1 [] := RS.nil R1.rs.sub
    obtain ⟨S2, r2⟩ := made_own (j := j) r0 hk hc h1 h2 ne
    by_cases hn : (W.loc 0 :: (ds.map .d ++ dws)).length = np
    · rw [if_pos hn] at w1
      refine ⟨_, _, _, W.loc 0 :: (ds.map .d ++ dws), r2, ⟨_, _, rfl, ⟨(x, dx), rfl, rfl⟩, RepWs.app (RepWs.ofD (RepWs.toD rvs)) (hd _ _)⟩, hn, ?_⟩
      show match F (W.loc 0 :: (ds.map .d ++ dws)) [some (OO.ins j [] [])] with | none => _ | some (.ok w, st') => _ | some (.ex C ks es, st') => _
      cases e : F (W.loc 0 :: (ds.map .d ++ dws)) [some (OO.ins j [] [])] with
      | none => rw [e] at w1; exact w1.none rfl
      | some q =>
        obtain ⟨o, st'⟩ := q
        rw [e] at w1
        cases o with
        | ok z =>
          cases z with
          | loc n => exact w1.none rfl
          | d z =>
            cases z with
            | non =>
              intro v ρ' G' H' S' r' rv
              cases rv
              have S3 := S2.trans rfl S'
              cases e2 : fz 20 (.loc 0) st' with
              | none => simp only [e2] at w1; exact w1.none rfl
              | some y =>
                obtain ⟨d, st2⟩ := y
                simp only [e2] at w1
                obtain ⟨G3, S4, r4, h4⟩ := fz_ok (c := c) 20 G' st' st2 (.loc 0) (.ref x) d r' ⟨(x, dx), S'.rho _ _ rfl, rfl⟩ e2
                have g := (S3.trans rfl S4).grown r4
                obtain ⟨S5, r5⟩ := called R1.rs g.sH g.sG g.sub g.fr
                exact ⟨rfl, Wp.okE (s' := s1) (a := W.d d) rfl w1 ρ1 G3 H' S5 ⟨r5, R1.env.mono S5.rho S5.same, R1.len⟩ _ h4⟩
            | _ => exact w1.none rfl
        | ex C' ks es =>
          intro ρ' G' H' cls d S' r' xo
          have g := (S2.trans rfl S').grown r'
          obtain ⟨S5, r5⟩ := called R1.rs g.sH g.sG g.sub g.fr
          exact w1 ρ1 G' H' cls d S5 ⟨r5, R1.env.mono S5.rho S5.same, R1.len⟩ xo
    · rw [if_neg hn] at w1
      exact w1.none rfl⟩
theorem ee_mkP (hd : DefOk c dws dvs) (hk : c.ct[j]? = some C) (hc : Cls c.K C) (M : Mk X.K C f) (Fn : FnS X.prog X.w X.K X.mg X.base k f (spF c np F) dvs) (hr : Room (k + 1) X.A) (tk : L2N.Takes X U) (hg : Gl X x) (hm : X.mg x = some (.ref C)) (ha : EA c X U (e :: es) m)
    (hdb : (x == ("__debug__" : Str)) = false := by decide) (he : starEach (e :: es) X.env = (false, eval e X.env) :: starEach es X.env := by rfl) (hpl : (backTo pos (starEach es X.env)).any (·.1) = false := by rfl) :
    EE c X U (.Call (.Name x p) (e :: es) [] pos) (mkP j np F dws m) :=
  EE.mk1 ha.K (pe_mkC M Fn hr tk hg hm ha.pa hdb he hpl) fun ρ G s σ H Q hR w => wp_mkP hd hk hc hR w
theorem ee_mkO (hd : DefOk c dws dvs) (hk : c.ct[j]? = some C) (hc : Cls c.K C) (M : Mk X.K C f) (Fn : FnS X.prog X.w X.K X.mg X.base k f (spF c np F) dvs) (hr : Room (k + 1) X.A) (tk : L2N.Takes X U) (hg : Gl X x) (hm : X.mg x = some (.ref C)) (ha : EA c X U (e :: es) m)
    (hdb : (x == ("__debug__" : Str)) = false := by decide) (he : starEach (e :: es) X.env = (false, eval e X.env) :: starEach es X.env := by rfl) (hpl : (backTo pos (starEach es X.env)).any (·.1) = false := by rfl) :
    EE c X U (.Call (.Name x p) (e :: es) [] pos) (mkO j np F dws m) :=
  EE.mk1 ha.K (pe_mkC M Fn hr tk hg hm ha.pa hdb he hpl) fun ρ G s σ H Q hR w => wp_mkO hd hk hc hR w
end
end EV
/-! EV7: operators, built-ins by values. -/
namespace EV
open PySem PySem.Spec PyProof.Rows L2
section
variable {c : Kx} {ρ : Rho} {G H : Hp} {st : Store}
/-- the items of a list -/
def listW (st : Store) : W → Option (List W)
  | .d (.lst ds) => some (ds.map .d)
  | .d (.fls ds) => some (ds.map .d)
  | .d _ => none
  | .loc n => match st[n]? with
    | some (some (.lst ws)) => some ws
    | _ => none
/-- .. of a list that is no argument of the law's -/
def lst1W (st : Store) : W → Option (List W)
  | .d (.lst ds) => some (ds.map .d)
  | .d _ => none
  | .loc n => match st[n]? with
    | some (some (.lst ws)) => some ws
    | _ => none
def tupW : W → Option (List W)
  | .d (.tup ds) => some (ds.map .d)
  | _ => none
theorem lst1W_ok {w : W} {v : V} {ws : List W} (r : RS c ρ G H st) (rv : RepW c ρ G w v) (e : lst1W st w = some ws) : ∃ a vs, v = .ref a ∧ H a = some (.lst vs) ∧ RepWs c ρ G ws vs := by
  cases w with
  | d x =>
    cases x with
    | lst ds =>
      cases e
      cases rv with
      | lst h hr => exact ⟨_, _, rfl, r.sub _ _ h, RepWs.ofD hr⟩
    | _ => cases e
  | loc n =>
    unfold lst1W at e
    cases ho : st[n]? with
    | none => simp only [ho] at e; cases e
    | some o =>
      cases o with
      | none => simp only [ho] at e; cases e
      | some o =>
        cases o with
        | lst ws' =>
          simp only [ho] at e
          cases e
          obtain ⟨p, hp, hv⟩ := rv
          obtain ⟨_, _, q, vs, hH, hw⟩ := r.own n p _ hp ho
          exact ⟨p.1, vs, hv, hH, hw⟩
        | dct _ _ => simp only [ho] at e; cases e
        | ins _ _ _ => simp only [ho] at e; cases e
        | tup _ => simp only [ho] at e; cases e
theorem listW_ok {w : W} {v : V} {ws : List W} (r : RS c ρ G H st) (rv : RepW c ρ G w v) (e : listW st w = some ws) : ∃ a vs, v = .ref a ∧ SqL c.K H a vs ∧ RepWs c ρ G ws vs := by
  cases w with
  | d x =>
    cases x with
    | lst ds =>
      cases e
      cases rv with
      | lst h hr => exact ⟨_, _, rfl, SqL.of (r.sub _ _ h), RepWs.ofD hr⟩
    | fls ds =>
      cases e
      cases rv with
      | fls h hr => exact ⟨_, _, rfl, r.sub.seq h, RepWs.ofD hr⟩
    | _ => cases e
  | loc n =>
    obtain ⟨a, vs, h1, h2, h3⟩ := lst1W_ok r rv (show lst1W st (.loc n) = some ws from e)
    exact ⟨a, vs, h1, SqL.of h2, h3⟩
theorem tupW_ok {w : W} {v : V} {ws : List W} (r : RS c ρ G H st) (rv : RepW c ρ G w v) (e : tupW w = some ws) : ∃ a vs, v = .ref a ∧ SqT c.K H a vs ∧ RepWs c ρ G ws vs := by
  cases w with
  | d x =>
    cases x with
    | tup ds =>
      cases e
      cases rv with
      | tup h hr => exact ⟨_, _, rfl, SqT.same r.sub h, RepWs.ofD hr⟩
    | _ => cases e
  | loc n => cases e
/-- a new list: a tree, or an object of the store -/
def newL (own : Bool) (ws : List W) (st : Store) : Option (W × Store) := if own then some (.loc st.length, st ++ [some (.lst ws)]) else match allD ws with
  | some ds => some (.d (.lst ds), st)
  | none => none
theorem newL_ok {own : Bool} {ws : List W} {vs : List V} {w : W} {st' : Store} {p : Addr} (r : RS c ρ G H st) (rv : RepWs c ρ G ws vs) (e : newL own ws st = some (w, st')) (hp : H p = none) :
    ∃ ρ' G', Stp ρ G H st ρ' G' (upd H p (.lst vs)) st' ∧ RS c ρ' G' (upd H p (.lst vs)) st' ∧ RepW c ρ' G' w (.ref p) := by
  unfold newL at e
  cases own with
  | true =>
    simp only [if_true] at e
    cases e
    obtain ⟨S, r'⟩ := new_own (p := (p, p)) (o := .lst ws) (H' := upd H p (.lst vs)) r hp hp (fun a u e => by rw [upd_ne (ne_of_none e hp)]; exact e) ⟨rfl, vs, upd_same, rv⟩
    exact ⟨_, _, S, r', (p, p), by rw [← r.len, List.getElem?_append_right (Nat.le_refl _)]; simp, rfl⟩
  | false =>
    simp only [Bool.false_eq_true, if_false] at e
    cases q : allD ws with
    | none => simp only [q] at e; cases e
    | some ds =>
      simp only [q] at e
      cases e
      obtain rfl := allD_eq q
      obtain ⟨S, r'⟩ := new_frozen (o := .lst vs) r hp
      exact ⟨_, _, S, r', .lst upd_same ((RepWs.toD rv).mono S.same)⟩
theorem Stp.toks : Stp ρ G H st ρ G H st := Stp.refl
end
/-! ### what a rule of one value, of several does -/
def S1 (c : Kx) (r : V → Hp → VK → Prop) (f : Store → W → Option (W × Store)) : Prop :=
  ∀ (ρ : Rho) (G H : Hp) (st : Store) (x w : W) (st' : Store) (vx : V) (Q : VK), RS c ρ G H st → RepW c ρ G x vx → f st x = some (w, st') →
    (∀ v ρ' G' H', Stp ρ G H st ρ' G' H' st' → RS c ρ' G' H' st' → RepW c ρ' G' w v → Q v H') → r vx H Q
/-- a list of values -/
def SN (c : Kx) (r : List V → Hp → VK → Prop) (f : Store → List W → Option (W × Store)) : Prop :=
  ∀ (ρ : Rho) (G H : Hp) (st : Store) (xs : List W) (w : W) (st' : Store) (vs : List V) (Q : VK), RS c ρ G H st → RepWs c ρ G xs vs → f st xs = some (w, st') →
    (∀ v ρ' G' H', Stp ρ G H st ρ' G' H' st' → RS c ρ' G' H' st' → RepW c ρ' G' w v → Q v H') → r vs H Q
theorem S2.or {c : Kx} {r r' : R2} {f g : Store → W → W → Option (W × Store)} (h1 : S2 c r f) (h2 : S2 c r' g) : S2 c (fun x y H Q => r x y H Q ∨ r' x y H Q) (fun st x y => match f st x y with | some z => some z | none => g st x y) :=
  fun ρ G H st x y w st' vx vy Q r rx ry e q => by
    cases e1 : f st x y with
    | some z =>
      simp only [e1] at e
      cases e
      exact .inl (h1 ρ G H st x y w st' vx vy Q r rx ry e1 q)
    | none =>
      simp only [e1] at e
      exact .inr (h2 ρ G H st x y w st' vx vy Q r rx ry e q)
theorem SN.or {c : Kx} {r r' : List V → Hp → VK → Prop} {f g : Store → List W → Option (W × Store)} (h1 : SN c r f) (h2 : SN c r' g) : SN c (fun x H Q => r x H Q ∨ r' x H Q) (fun st x => match f st x with | some z => some z | none => g st x) :=
  fun ρ G H st x w st' vx Q r rx e q => by
    cases e1 : f st x with
    | some z =>
      simp only [e1] at e
      cases e
      exact .inl (h1 ρ G H st x w st' vx Q r rx e1 q)
    | none =>
      simp only [e1] at e
      exact .inr (h2 ρ G H st x w st' vx Q r rx e q)
/-! ### intF -/
def intF (f : Int → Int → Option D) (st : Store) : W → W → Option (W × Store)
  | .d (.int i), .d (.int j) => match f i j with
    | some d => some (.d d, st)
    | none => none
  | _, _ => none
theorem s2_ints {c : Kx} {C : Int → Int → Prop} {g : Int → Int → V} {f : Int → Int → Option D} (h : ∀ i j d, f i j = some d → C i j ∧ ∀ G, RepD c G d (g i j)) : S2 c (rI C g) (intF f) := fun ρ G H st x y w st' vx vy Q r rx ry e q => by
  unfold intF at e
  split at e
  · rename_i i j
    cases rx
    cases ry
    cases e1 : f i j with
    | none => simp only [e1] at e; cases e
    | some d =>
      simp only [e1] at e
      cases e
      obtain ⟨h1, h2⟩ := h i j d e1
      exact ⟨i, j, rfl, rfl, h1, q _ ρ G H Stp.refl r (h2 G)⟩
  · cases e
theorem s2_ints0 {c : Kx} {g : Int → Int → V} {f : Int → Int → Option D} (h : ∀ i j d, f i j = some d → ∀ G, RepD c G d (g i j)) : S2 c (rI0 g) (intF f) := fun ρ G H st x y w st' vx vy Q r rx ry e q => by
  obtain ⟨i, j, a, b, _, z⟩ := s2_ints (C := fun _ _ => True) (g := g) (fun i j d e => ⟨trivial, h i j d e⟩) ρ G H st x y w st' vx vy Q r rx ry e q
  exact ⟨i, j, a, b, z⟩
def small (i : Int) : Bool := decide (-18446744073709551616 < i) && decide (i < 18446744073709551616)
def mulI (i j : Int) : Option D := if small i || small j then some (.int (i * j)) else none
def divI (i j : Int) : Option D := if 0 < j ∧ j < 1000000000000000000000000000000 then some (.int (i / j)) else none
def modI (i j : Int) : Option D := if 0 < j then some (.int (i % j)) else none
def powI (i j : Int) : Option D := if 0 ≤ j ∧ j ≤ 1000 ∧ 0 ≤ i ∧ i < 1000 then some (.int (i ^ j.toNat)) else none
def shrI (i j : Int) : Option D := if 0 ≤ j then some (.int (i / 2 ^ j.toNat)) else none
theorem s2_add {c : Kx} : S2 c (rI0 fun i j => .int (i + j)) (intF fun i j => some (.int (i + j))) := s2_ints0 fun i j d e G => by cases e; exact .int _
def subA : Store → W → W → Option (W × Store) := intF fun i j => some (.int (i - j))
theorem s2_sub {c : Kx} : S2 c (rI0 fun i j => .int (i - j)) subA := s2_ints0 fun i j d e G => by cases e; exact .int _
theorem s2_mul {c : Kx} : S2 c (rI CMul fun i j => .int (i * j)) (intF mulI) := s2_ints fun i j d e => by
  unfold mulI at e
  split at e
  · rename_i h
    cases e
    refine ⟨?_, fun G => .int _⟩
    rcases Bool.or_eq_true_iff.mp h with h | h
    · unfold small at h
      simp only [Bool.and_eq_true, decide_eq_true_eq] at h
      exact .inl ⟨h.1, h.2⟩
    · unfold small at h
      simp only [Bool.and_eq_true, decide_eq_true_eq] at h
      exact .inr ⟨h.1, h.2⟩
  · cases e
theorem log2_lt {n k : Nat} (h : n < 2 ^ k) (hk : 0 < k) : n.log2 < k := by
  by_cases h0 : n = 0
  · subst h0
    simpa using hk
  · exact (Nat.log2_lt h0).mpr h
theorem s2_div {c : Kx} : S2 c (rI CDivW fun i j => .int (i / j)) (intF divI) := s2_ints fun i j d e => by
  unfold divI at e
  split at e
  · rename_i h
    cases e
    refine ⟨⟨h.1, ?_⟩, fun G => .int _⟩
    have : j.natAbs < 2 ^ 100 := by
      have h2 := h.2
      have h1 := h.1
      omega
    exact Nat.lt_of_lt_of_le (log2_lt this (by decide)) (by decide)
  · cases e
theorem s2_mod {c : Kx} : S2 c (rI (fun _ j => 0 < j) fun i j => .int (i % j)) (intF modI) := s2_ints fun i j d e => by
  unfold modI at e
  split at e
  · rename_i h
    cases e
    exact ⟨h, fun G => .int _⟩
  · cases e
theorem s2_pow {c : Kx} : S2 c (rI CPow fun i j => .int (i ^ j.toNat)) (intF powI) := s2_ints fun i j d e => by
  unfold powI at e
  split at e
  · rename_i h
    cases e
    exact ⟨⟨h.1, by omega, by omega⟩, fun G => .int _⟩
  · cases e
theorem s2_shr {c : Kx} : S2 c (rI (fun _ j => 0 ≤ j) fun i j => .int (i / 2 ^ j.toNat)) (intF shrI) := s2_ints fun i j d e => by
  unfold shrI at e
  split at e
  · rename_i h
    cases e
    exact ⟨h, fun G => .int _⟩
  · cases e
def andA : Store → W → W → Option (W × Store) := intF fun i j => some (.int (Builtin.bitAnd i j))
theorem s2_and {c : Kx} : S2 c (rI0 fun i j => .int (Builtin.bitAnd i j)) andA := s2_ints0 fun i j d e G => by cases e; exact .int _
def ltA : Store → W → W → Option (W × Store) := intF fun i j => some (.bl (decide (i < j)))
theorem s2_lt {c : Kx} : S2 c (rI0 fun i j => .bl (decide (i < j))) ltA := s2_ints0 fun i j d e G => by cases e; exact .bl _
def leA : Store → W → W → Option (W × Store) := intF fun i j => some (.bl (decide (i ≤ j)))
theorem s2_le {c : Kx} : S2 c (rI0 fun i j => .bl (decide (i ≤ j))) leA := s2_ints0 fun i j d e G => by cases e; exact .bl _
def gtA : Store → W → W → Option (W × Store) := intF fun i j => some (.bl (decide (j < i)))
theorem s2_gt {c : Kx} : S2 c (rI0 fun i j => .bl (decide (j < i))) gtA := s2_ints0 fun i j d e G => by cases e; exact .bl _
def geA : Store → W → W → Option (W × Store) := intF fun i j => some (.bl (decide (j ≤ i)))
theorem s2_ge {c : Kx} : S2 c (rI0 fun i j => .bl (decide (j ≤ i))) geA := s2_ints0 fun i j d e G => by cases e; exact .bl _
/-! ### + of anything -/
def strs2 (f : Str → Str → Option D) (st : Store) : W → W → Option (W × Store)
  | .d (.str i), .d (.str j) => match f i j with
    | some d => some (.d d, st)
    | none => none
  | _, _ => none
def catS (i j : Str) : Option D := if i.length + j.length ≤ 16777216 then some (.str (i ++ j)) else none
theorem s2_cat {c : Kx} : S2 c (fun x y H Q => ∃ i j, x = .str i ∧ y = .str j ∧ i.length + j.length ≤ sizeLine ∧ Q (.str (i ++ j)) H) (strs2 catS) := fun ρ G H st x y w st' vx vy Q r rx ry e q => by
  unfold strs2 at e
  split at e
  · rename_i i j
    cases rx
    cases ry
    unfold catS at e
    split at e
    · rename_i d h
      split at h
      · rename_i h
        cases h
        cases e
        exact ⟨i, j, rfl, rfl, by rw [sizeLine_eq]; assumption, q _ ρ G H Stp.refl r (.str _)⟩
      · cases h
    · cases e
  · cases e
def catL (own : Bool) (st : Store) (x y : W) : Option (W × Store) := match lst1W st x, lst1W st y with
  | some a, some b => if a.length + b.length ≤ 16777216 then newL own (a ++ b) st else none
  | _, _ => none
theorem s2_catL {c : Kx} (own : Bool) : S2 c rCat (catL own) := fun ρ G H st x y w st' vx vy Q r rx ry e q => by
  unfold catL at e
  split at e
  · rename_i a b ea eb
    split at e
    · rename_i hl
      obtain ⟨p1, v1, rfl, h1, r1⟩ := lst1W_ok r rx ea
      obtain ⟨p2, v2, rfl, h2, r2⟩ := lst1W_ok r ry eb
      refine ⟨p1, p2, v1, v2, rfl, rfl, h1, h2, by rw [r1.len, r2.len, sizeLine_eq]; exact hl, fun p hp => ?_⟩
      obtain ⟨ρ', G', S, r', rw'⟩ := newL_ok r (r1.app r2) e hp
      exact q _ ρ' G' _ S r' rw'
    · cases e
  · cases e
def catT (st : Store) (x y : W) : Option (W × Store) := match x, y with
  | .d (.tup a), .d (.tup b) => if a.length + b.length ≤ 16777216 ∧ 0 < a.length ∧ 0 < b.length then some (.d (.tup (a ++ b)), st) else none
  | _, _ => none
theorem s2_catT {c : Kx} : S2 c (rCatT c.K) catT := fun ρ G H st x y w st' vx vy Q r rx ry e q => by
  unfold catT at e
  split at e
  · rename_i a b
    split at e
    · rename_i hl
      cases e
      cases rx with
      | tup h1 r1 =>
        cases ry with
        | tup h2 r2 =>
          rename_i p1 v1 p2 v2
          have ne : ∀ {ds : List D} {vs : List V}, RepDs c G ds vs → 0 < ds.length → vs ≠ [] := fun {ds vs} h hl e => by
            subst e
            have := h.len
            simp at this
            omega
          refine ⟨p1, p2, v1, v2, rfl, rfl, SqT.same r.sub h1, SqT.same r.sub h2, ne r1 hl.2.1, by rw [r1.len, r2.len, sizeLine_eq]; exact hl.1, fun e => absurd e (ne r2 hl.2.2), fun _ p hp => ?_⟩
          obtain ⟨S, r'⟩ := new_frozen (o := .tup (v1 ++ v2)) r hp
          exact q _ ρ _ _ S r' (.tup (SqT.of upd_same) ((r1.app r2).mono S.same))
    · cases e
  · cases e
def addA (own : Bool) (st : Store) (x y : W) : Option (W × Store) := match x, y with
  | .d (.int i), .d (.int j) => some (.d (.int (i + j)), st)
  | .d (.str i), .d (.str j) => if i.length + j.length ≤ 16777216 then some (.d (.str (i ++ j)), st) else none
  | .d (.tup a), .d (.tup b) => if a.length + b.length ≤ 16777216 ∧ 0 < a.length ∧ 0 < b.length then some (.d (.tup (a ++ b)), st) else none
  | x, y => catL own st x y
theorem op_addA {X : Cx} : OpR X (binaryOp .Add) (fun x y H Q => rI0 (fun i j => .int (i + j)) x y H Q ∨ (∃ i j, x = .str i ∧ y = .str j ∧ i.length + j.length ≤ sizeLine ∧ Q (.str (i ++ j)) H) ∨ rCatT X.K x y H Q ∨ rCat x y H Q) :=
  op_add.or (op_add_str.or (op_catT.or op_cat))
theorem s2_addA {c : Kx} (own : Bool) : S2 c (fun x y H Q => rI0 (fun i j => .int (i + j)) x y H Q ∨ (∃ i j, x = .str i ∧ y = .str j ∧ i.length + j.length ≤ sizeLine ∧ Q (.str (i ++ j)) H) ∨ rCatT c.K x y H Q ∨ rCat x y H Q) (addA own) := fun ρ G H st x y w st' vx vy Q r rx ry e q => by
  unfold addA at e
  split at e
  · exact .inl (s2_add ρ G H st _ _ w st' vx vy Q r rx ry e q)
  · refine .inr (.inl (s2_cat ρ G H st _ _ w st' vx vy Q r rx ry ?_ q))
    unfold strs2 catS
    simp only
    split at e
    · rename_i h; rw [if_pos h]; exact e
    · cases e
  · exact .inr (.inr (.inl (s2_catT ρ G H st _ _ w st' vx vy Q r rx ry e q)))
  · exact .inr (.inr (.inr (s2_catL own ρ G H st _ _ w st' vx vy Q r rx ry e q)))
/-! ### * of anything -/
def rMulS : R2 := fun x y H Q => ∃ z n, x = .str z ∧ y = .int n ∧ MulOk z n ∧ Q (.str (Txt.mul z n)) H
theorem op_mulS {X : Cx} : OpR X (binaryOp .Mult) rMulS := fun pins s σ H x y v u Q I rx ry h => by
  obtain ⟨z, n, rfl, rfl, ok, q⟩ := h
  obtain ⟨t, rfl⟩ := rx
  obtain ⟨t', rfl⟩ := ry
  exact SB.mul ok fun t2 k => ⟨.str _, H, I.tok k, ⟨_, rfl⟩, q⟩
def mulS (st : Store) (x y : W) : Option (W × Store) := match x, y with
  | .d (.str z), .d (.int n) => if z.length ≤ 1000 ∧ n ≤ 1000 ∧ 0 ≤ n then some (.d (.str (Txt.mul z n)), st) else none
  | _, _ => none
theorem mulOk_small {z : Str} {n : Int} (h : z.length ≤ 1000 ∧ n ≤ 1000 ∧ 0 ≤ n) : MulOk z n := by
  obtain ⟨h1, h2, h3⟩ := h
  refine ⟨?_, fun hn _ => ?_, fun hn _ => ?_⟩
  · simp only [Bool.or_eq_false_iff, decide_eq_false_iff_not]
    omega
  · have e : (2 ^ 63 - 1 : Int) / 1000 ≤ (2 ^ 63 - 1) / n := by
      have hn0 : 0 < n := by omega
      rw [Int.le_ediv_iff_mul_le hn0]
      calc (2 ^ 63 - 1 : Int) / 1000 * n ≤ (2 ^ 63 - 1 : Int) / 1000 * 1000 := Int.mul_le_mul_of_nonneg_left h2 (by decide)
        _ ≤ 2 ^ 63 - 1 := by decide
    have e2 : (2 ^ 63 - 1 : Int) / 1000 = 9223372036854775 := by decide
    omega
  · have hm : z.length * n.toNat ≤ 1000 * 1000 := Nat.mul_le_mul h1 (by omega)
    unfold Builtin.Str.tooLong
    rw [decide_eq_false_iff_not]
    have := sizeLine_eq
    omega
theorem s2_mulS {c : Kx} : S2 c rMulS mulS := fun ρ G H st x y w st' vx vy Q r rx ry e q => by
  unfold mulS at e
  split at e
  · rename_i z n
    split at e
    · rename_i h
      cases e
      cases rx
      cases ry
      exact ⟨z, n, rfl, rfl, mulOk_small h, q _ ρ G H Stp.refl r (.str _)⟩
    · cases e
  · cases e
def mulL (own : Bool) (st : Store) (x y : W) : Option (W × Store) := match lst1W st x, y with
  | some ws, .d (.int n) => if ws.length ≤ 1000 ∧ n ≤ 1000 ∧ 0 ≤ n then newL own (List.replicate n.toNat ws).flatten st else none
  | _, _ => none
theorem RepWs.rep {c : Kx} {ρ : Rho} {G : Hp} {ws : List W} {vs : List V} (h : RepWs c ρ G ws vs) : ∀ n : Nat, RepWs c ρ G (List.replicate n ws).flatten (List.replicate n vs).flatten
  | 0 => rfl
  | n + 1 => by
    rw [List.replicate_succ, List.replicate_succ, List.flatten_cons, List.flatten_cons]
    exact h.app (RepWs.rep h n)
theorem s2_mulL {c : Kx} (own : Bool) : S2 c rRep (mulL own) := fun ρ G H st x y w st' vx vy Q r rx ry e q => by
  unfold mulL at e
  split at e
  · rename_i ws n ew
    split at e
    · rename_i h
      cases ry
      obtain ⟨p1, v1, rfl, h1, r1⟩ := lst1W_ok r rx ew
      refine ⟨p1, n, v1, rfl, rfl, h1, by omega, by omega, ?_, fun p hp => ?_⟩
      · rw [r1.len, sizeLine_eq]
        exact Nat.le_trans (Nat.mul_le_mul h.1 (by omega : n.toNat ≤ 1000)) (by decide)
      · obtain ⟨ρ', G', S, r', rw'⟩ := newL_ok r (r1.rep n.toNat) e hp
        exact q _ ρ' G' _ S r' rw'
    · cases e
  · cases e
def mulA (own : Bool) (st : Store) (x y : W) : Option (W × Store) := match x, y with
  | .d (.int i), .d (.int j) => if small i || small j then some (.d (.int (i * j)), st) else none
  | .d (.str z), .d (.int n) => if z.length ≤ 1000 ∧ n ≤ 1000 ∧ 0 ≤ n then some (.d (.str (Txt.mul z n)), st) else none
  | x, y => mulL own st x y
theorem op_mulA {X : Cx} : OpR X (binaryOp .Mult) (fun x y H Q => rI CMul (fun i j => .int (i * j)) x y H Q ∨ rMulS x y H Q ∨ rRep x y H Q) := op_mul.or (op_mulS.or op_rep)
theorem s2_mulA {c : Kx} (own : Bool) : S2 c (fun x y H Q => rI CMul (fun i j => .int (i * j)) x y H Q ∨ rMulS x y H Q ∨ rRep x y H Q) (mulA own) := fun ρ G H st x y w st' vx vy Q r rx ry e q => by
  unfold mulA at e
  split at e
  · refine .inl (s2_mul ρ G H st _ _ w st' vx vy Q r rx ry ?_ q)
    unfold intF mulI
    simp only
    split at e
    · rename_i h; rw [if_pos h]; exact e
    · cases e
  · exact .inr (.inl (s2_mulS ρ G H st _ _ w st' vx vy Q r rx ry e q))
  · exact .inr (.inr (s2_mulL own ρ G H st _ _ w st' vx vy Q r rx ry e q))
end EV
/-! EV8: comparisons, len, isinstance, int, str, list, items, slices, displays. -/
namespace EV
open PySem PySem.Spec PyProof.Rows L2
/-! ### == of data -/
mutual
def toPy : D → PyData
  | .non => .none
  | .bl b => .bool b
  | .int i => .int i
  | .str x => .str x
  | .lst xs => .list (toPys xs)
  | .fls xs => .list (toPys xs)
  | .tup xs => .tuple (toPys xs)
  | .ref _ => .dict []
  | .ty _ => .dict []
  | .dct _ _ => .dict []
  | .ins _ _ _ => .dict []
  | .exc _ _ _ => .dict []
def toPys : List D → List PyData
  | [] => []
  | d :: ds => toPy d :: toPys ds
end
def okD (d : D) : Bool := SeqAt.shaped (toPy d)
def D.eq (d e : D) : Bool := PyData.eqv (toPy d) (toPy e)
section
variable {c : Kx} {ρ : Rho} {G H : Hp} {st : Store}
mutual
theorem dp_of (s : Same G H) {d : D} {v : V} (h : (toPy d).canLay0 = true) (r : RepD c G d v) : Dp c.K H v (toPy d) := by
  cases r with
  | non => exact .non
  | bl b => exact .bl b
  | int i => exact .int i
  | str x => exact .str x
  | ref a => cases h
  | ty n => cases h
  | lst hl r => exact .lst (SqL.of (s _ _ hl)) (dps_of s h r)
  | fls hl r => exact .lst (s.seq hl) (dps_of s h r)
  | tup hl r => exact .tup (SqT.same s hl) (dps_of s h r)
  | dct _ _ _ => cases h
  | ins _ _ _ _ _ _ => cases h
  | exc0 _ _ => cases h
  | excD _ _ _ _ _ => cases h
theorem dps_of (s : Same G H) {ds : List D} {vs : List V} (h : PyData.canLayAll0 (toPys ds) = true) (r : RepDs c G ds vs) : DpAll c.K H vs (toPys ds) := by
  cases r with
  | nil => exact .nil
  | cons r t =>
    have h := Bool.and_eq_true_iff.mp h
    exact .cons (dp_of s h.1 r) (dps_of s h.2 t)
end
theorem toPys_map : ∀ ds : List D, toPys ds = ds.map toPy
  | [] => rfl
  | d :: ds => by show toPy d :: toPys ds = _; rw [toPys_map ds]; rfl
theorem canLay_ok {d : D} (h : okD d = true) : (toPy d).canLay0 = true := (Bool.and_eq_true_iff.mp h).1
/-- a look at a value -/
def snapD (st : Store) (w : W) : Option D := match fz 20 w st with
  | some (d, _) => some d
  | none => none
theorem snap_d (st : Store) (d : D) : snapD st (.d d) = some d := by unfold snapD; rw [fz_d]
theorem snap_ok {w : W} {v : V} {d : D} (r : RS c ρ G H st) (rv : RepW c ρ G w v) (e : snapD st w = some d) : ∃ G', Same G' H ∧ RepD c G' d v := by
  unfold snapD at e
  cases q : fz 20 w st with
  | none => simp only [q] at e; cases e
  | some p =>
    obtain ⟨d', st'⟩ := p
    simp only [q] at e
    cases e
    obtain ⟨G', _, r', h'⟩ := fz_ok 20 G st st' w v d r rv q
    exact ⟨G', r'.sub, h'⟩
def eqB (st : Store) (x y : W) : Option Bool := match x, y with
  | .d (.int i), .d (.int j) => some (decide (i = j))
  | .d (.str i), .d (.str j) => some (decide (i = j))
  | x, y => match snapD st x, snapD st y with
    | some a, some b => if okD a && okD b then some (D.eq a b) else none
    | _, _ => none
def eqA (st : Store) (x y : W) : Option (W × Store) := match eqB st x y with
  | some b => some (.d (.bl b), st)
  | none => none
def neA (st : Store) (x y : W) : Option (W × Store) := match eqB st x y with
  | some b => some (.d (.bl (!b)), st)
  | none => none
theorem eqB_ok {x y : W} {vx vy : V} {b : Bool} (r : RS c ρ G H st) (rx : RepW c ρ G x vx) (ry : RepW c ρ G y vy) (e : eqB st x y = some b) :
    (scal vx vy = true ∧ decide (vx = vy) = b) ∨ ∃ d e, Dp c.K H vx d ∧ Dp c.K H vy e ∧ SeqAt.shaped d = true ∧ SeqAt.shaped e = true ∧ PyData.eqv d e = b := by
  unfold eqB at e
  split at e
  · cases e
    cases rx
    cases ry
    refine .inl ⟨rfl, ?_⟩
    rw [Bool.eq_iff_iff]
    simp
  · cases e
    cases rx
    cases ry
    refine .inl ⟨rfl, ?_⟩
    rw [Bool.eq_iff_iff]
    simp
  · cases ea : snapD st x with
    | none => simp only [ea] at e; cases e
    | some a =>
      cases eb : snapD st y with
      | none => simp only [ea, eb] at e; cases e
      | some b' =>
        simp only [ea, eb] at e
        split at e
        · rename_i h
          cases e
          have h := Bool.and_eq_true_iff.mp h
          obtain ⟨G1, s1, r1⟩ := snap_ok r rx ea
          obtain ⟨G2, s2, r2⟩ := snap_ok r ry eb
          exact .inr ⟨_, _, dp_of s1 (canLay_ok h.1) r1, dp_of s2 (canLay_ok h.2) r2, h.1, h.2, rfl⟩
        · cases e
theorem op_eqA {X : Cx} (hu : X.A.units + 64 < cLine) : OpR X (compareOp .Eq) (fun x y H Q => rEq x y H Q ∨ rEqD X.K x y H Q) := op_eq.or (op_eqD hu)
theorem op_neA {X : Cx} (hu : X.A.units + 64 < cLine) : OpR X (compareOp .NotEq) (fun x y H Q => rNe x y H Q ∨ rNeD X.K x y H Q) := op_ne.or (op_neD hu)
theorem s2_eqA : S2 c (fun x y H Q => rEq x y H Q ∨ rEqD c.K x y H Q) eqA := fun ρ G H st x y w st' vx vy Q r rx ry e q => by
  unfold eqA at e
  cases eb : eqB st x y with
  | none => simp only [eb] at e; cases e
  | some b =>
    simp only [eb] at e
    cases e
    have fin := q (.bl b) ρ G H Stp.refl r (.bl b)
    rcases eqB_ok r rx ry eb with ⟨h1, h2⟩ | ⟨d, e, h1, h2, h3, h4, h5⟩
    · exact .inl ⟨h1, by rw [h2]; exact fin⟩
    · exact .inr ⟨d, e, h1, h2, h3, h4, by rw [h5]; exact fin⟩
theorem s2_neA : S2 c (fun x y H Q => rNe x y H Q ∨ rNeD c.K x y H Q) neA := fun ρ G H st x y w st' vx vy Q r rx ry e q => by
  unfold neA at e
  cases eb : eqB st x y with
  | none => simp only [eb] at e; cases e
  | some b =>
    simp only [eb] at e
    cases e
    have fin := q (.bl (!b)) ρ G H Stp.refl r (.bl (!b))
    rcases eqB_ok r rx ry eb with ⟨h1, h2⟩ | ⟨d, e, h1, h2, h3, h4, h5⟩
    · exact .inl ⟨h1, by rw [h2]; exact fin⟩
    · exact .inr ⟨d, e, h1, h2, h3, h4, by rw [h5]; exact fin⟩
/-! ### in -/
def flatD : D → Bool
  | .non => true
  | .bl _ => true
  | .int _ => true
  | .str _ => true
  | _ => false
def inS (i z : Str) : Bool := match i.cps.toList with
  | [k] => decide (k ∈ z.cps.toList)
  | _ => !(Builtin.Str.occurrences z i 0 z.length 1).isEmpty
def seqD : D → Option (List D)
  | .lst ds => some ds
  | .fls ds => some ds
  | .tup ds => some ds
  | _ => none
def notTup : D → Bool
  | .tup _ => false
  | _ => true
def inB (st : Store) (x y : W) : Option Bool := match x, y with
  | .d (.str i), .d (.str z) => some (inS i z)
  | x, y => match snapD st x, snapD st y with
    | some a, some b => match seqD b with
      | some ds => if flatD a && ds.all flatD then some (ds.any fun e => D.eq e a) else if okD a && okD b && notTup b then some (ds.any fun e => D.eq e a) else none
      | none => none
    | _, _ => none
def inA (st : Store) (x y : W) : Option (W × Store) := match inB st x y with
  | some b => some (.d (.bl b), st)
  | none => none
def ninA (st : Store) (x y : W) : Option (W × Store) := match inB st x y with
  | some b => some (.d (.bl (!b)), st)
  | none => none
theorem flat_rep {a : D} {v : V} (h : flatD a = true) (r : RepD c G a v) : flatV v = true := by cases r <;> first | rfl | cases h
theorem eqV_rep {G' : Hp} {a b : D} {v u : V} (ha : flatD a = true) (hb : flatD b = true) (r : RepD c G a v) (q : RepD c G' b u) : eqV v u = D.eq a b := by
  cases a <;> first | (exfalso; exact Bool.false_ne_true ha) | (cases b <;> first | (exfalso; exact Bool.false_ne_true hb) | (cases r; cases q; simp [eqV, D.eq, toPy, PyData.eqv]))
theorem inV_rep {a : D} {v : V} {G' : Hp} (ha : flatD a = true) (r : RepD c G' a v) : ∀ {ds : List D} {vs : List V}, ds.all flatD = true → RepDs c G ds vs → vs.all flatV = true ∧ inV v vs = ds.any fun e => D.eq e a
  | _, _, _, .nil => ⟨rfl, rfl⟩
  | _, _, h, .cons h1 t => by
    simp only [List.all_cons, Bool.and_eq_true] at h
    obtain ⟨i1, i2⟩ := inV_rep ha r h.2 t
    refine ⟨by simp only [List.all_cons, Bool.and_eq_true]; exact ⟨flat_rep h.1 h1, i1⟩, ?_⟩
    have e := eqV_rep h.1 ha h1 r
    show (eqV _ v || inV v _) = (D.eq _ a || _)
    rw [e, i2]
    try rfl
theorem any_map {α β : Type} (f : α → β) (p : β → Bool) (l : List α) : (l.map f).any p = l.any fun x => p (f x) := List.any_map
def rInA (K : PySem.W.Frag) : R2 := fun x y H Q => (∃ k z, x = .str ⟨#[k]⟩ ∧ y = .str z ∧ Q (.bl (decide (k ∈ z.cps.toList))) H) ∨ (∃ i j, x = .str i ∧ y = .str j ∧ Q (.bl (!(Builtin.Str.occurrences j i 0 j.length 1).isEmpty)) H) ∨ rIn K false x y H Q ∨ rInD K x y H Q
def rNotInA (K : PySem.W.Frag) : R2 := fun x y H Q => (∃ k z, x = .str ⟨#[k]⟩ ∧ y = .str z ∧ Q (.bl (!decide (k ∈ z.cps.toList))) H) ∨ (∃ i j, x = .str i ∧ y = .str j ∧ Q (.bl (!(!(Builtin.Str.occurrences j i 0 j.length 1).isEmpty))) H) ∨ rIn K true x y H Q ∨ rNotInD K x y H Q
theorem op_inA {X : Cx} (hu : X.A.units + 65 < cLine) : OpR X (compareOp .In) (rInA X.K) := op_in_sign.or (op_in_str.or (op_in_seq.or (op_inD hu)))
theorem op_ninA {X : Cx} (hu : X.A.units + 65 < cLine) : OpR X (compareOp .NotIn) (rNotInA X.K) := op_notIn_sign.or (op_notin_str.or (op_notIn_seq.or (op_notInD hu)))
theorem inB_ok {x y : W} {vx vy : V} {b : Bool} (r : RS c ρ G H st) (rx : RepW c ρ G x vx) (ry : RepW c ρ G y vy) (e : inB st x y = some b) :
    (∃ k z, vx = .str ⟨#[k]⟩ ∧ vy = .str z ∧ decide (k ∈ z.cps.toList) = b) ∨ (∃ i j, vx = .str i ∧ vy = .str j ∧ (!(Builtin.Str.occurrences j i 0 j.length 1).isEmpty) = b) ∨
      (∃ p xs, vy = V.ref p ∧ (SqL c.K H p xs ∨ SqT c.K H p xs) ∧ flatV vx = true ∧ xs.all flatV = true ∧ inV vx xs = b) ∨
      (∃ d ds, Dp c.K H vx d ∧ Dp c.K H vy (.list ds) ∧ SeqAt.shaped d = true ∧ SeqAt.shaped (.list ds) = true ∧ (ds.any fun z => PyData.eqv z d) = b) := by
  unfold inB at e
  split at e
  · rename_i i z
    cases e
    cases rx
    cases ry
    unfold inS
    split
    · rename_i k hk
      refine .inl ⟨k, z, ?_, rfl, rfl⟩
      obtain ⟨⟨l⟩⟩ := i
      have hk : l = [k] := hk
      rw [hk]
    · exact .inr (.inl ⟨i, z, rfl, rfl, rfl⟩)
  · cases ea : snapD st x with
    | none => simp only [ea] at e; cases e
    | some a =>
      cases eb : snapD st y with
      | none => simp only [ea, eb] at e; cases e
      | some b' =>
        simp only [ea, eb] at e
        obtain ⟨G1, s1, r1⟩ := snap_ok r rx ea
        obtain ⟨G2, s2, r2⟩ := snap_ok r ry eb
        cases es : seqD b' with
        | none => simp only [es] at e; cases e
        | some ds =>
          simp only [es] at e
          split at e
          · rename_i h
            cases e
            have h := Bool.and_eq_true_iff.mp h
            refine .inr (.inr (.inl ?_))
            cases r2 <;> cases es
            · rename_i hl hr
              obtain ⟨i1, i2⟩ := inV_rep h.1 r1 h.2 hr
              exact ⟨_, _, rfl, .inl (SqL.of (s2 _ _ hl)), flat_rep h.1 r1, i1, i2⟩
            · rename_i hl hr
              obtain ⟨i1, i2⟩ := inV_rep h.1 r1 h.2 hr
              exact ⟨_, _, rfl, .inl (s2.seq hl), flat_rep h.1 r1, i1, i2⟩
            · rename_i hl hr
              obtain ⟨i1, i2⟩ := inV_rep h.1 r1 h.2 hr
              exact ⟨_, _, rfl, .inr (SqT.same s2 hl), flat_rep h.1 r1, i1, i2⟩
          · split at e
            · rename_i h
              cases e
              have h := Bool.and_eq_true_iff.mp h
              obtain ⟨h1, h3⟩ := h
              have h1 := Bool.and_eq_true_iff.mp h1
              have d2 := dp_of s2 (canLay_ok h1.2) r2
              refine .inr (.inr (.inr ?_))
              cases b' with
              | lst xs =>
                cases es
                exact ⟨_, _, dp_of s1 (canLay_ok h1.1) r1, d2, h1.1, h1.2, by rw [toPys_map, any_map]; rfl⟩
              | fls xs =>
                cases es
                exact ⟨_, _, dp_of s1 (canLay_ok h1.1) r1, d2, h1.1, h1.2, by rw [toPys_map, any_map]; rfl⟩
              | tup xs => cases h3
              | _ => cases es
            · cases e
theorem s2_inA : S2 c (rInA c.K) inA := fun ρ G H st x y w st' vx vy Q r rx ry e q => by
  unfold inA at e
  cases eb : inB st x y with
  | none => simp only [eb] at e; cases e
  | some b =>
    simp only [eb] at e
    cases e
    have fin := q (.bl b) ρ G H Stp.refl r (.bl b)
    rcases inB_ok r rx ry eb with ⟨k, z, h1, h2, h3⟩ | ⟨i, j, h1, h2, h3⟩ | ⟨p, xs, h1, h2, h3, h4, h5⟩ | ⟨d, ds, h1, h2, h3, h4, h5⟩
    · exact .inl ⟨k, z, h1, h2, by rw [h3]; exact fin⟩
    · exact .inr (.inl ⟨i, j, h1, h2, by rw [h3]; exact fin⟩)
    · exact .inr (.inr (.inl ⟨p, xs, h1, h2, h3, h4, by rw [if_neg Bool.false_ne_true, h5]; exact fin⟩))
    · exact .inr (.inr (.inr ⟨d, ds, h1, h2, h3, h4, by rw [h5]; exact fin⟩))
theorem s2_ninA : S2 c (rNotInA c.K) ninA := fun ρ G H st x y w st' vx vy Q r rx ry e q => by
  unfold ninA at e
  cases eb : inB st x y with
  | none => simp only [eb] at e; cases e
  | some b =>
    simp only [eb] at e
    cases e
    have fin := q (.bl (!b)) ρ G H Stp.refl r (.bl (!b))
    rcases inB_ok r rx ry eb with ⟨k, z, h1, h2, h3⟩ | ⟨i, j, h1, h2, h3⟩ | ⟨p, xs, h1, h2, h3, h4, h5⟩ | ⟨d, ds, h1, h2, h3, h4, h5⟩
    · exact .inl ⟨k, z, h1, h2, by rw [h3]; exact fin⟩
    · exact .inr (.inl ⟨i, j, h1, h2, by rw [h3]; exact fin⟩)
    · exact .inr (.inr (.inl ⟨p, xs, h1, h2, h3, h4, by rw [if_pos rfl, h5]; exact fin⟩))
    · exact .inr (.inr (.inr ⟨d, ds, h1, h2, h3, h4, by rw [h5]; exact fin⟩))
/-! ### is -/
def isNonB : W → Bool
  | .d .non => true
  | _ => false
theorem isNon_ok {x : W} {v : V} (rx : RepW c ρ G x v) : decide (v = .non) = isNonB x := by
  cases x with
  | d x => cases rx <;> simp [isNonB]
  | loc n => obtain ⟨p, _, rfl⟩ := rx; simp [isNonB]
def isN (st : Store) (x y : W) : Option (W × Store) := match y with
  | .d .non => some (.d (.bl (isNonB x)), st)
  | _ => none
def isnN (st : Store) (x y : W) : Option (W × Store) := match y with
  | .d .non => some (.d (.bl (!isNonB x)), st)
  | _ => none
theorem s2_isN : S2 c (fun x y H Q => y = .non ∧ Q (.bl (decide (x = .non))) H) isN := fun ρ G H st x y w st' vx vy Q r rx ry e q => by
  unfold isN at e
  split at e
  · cases e
    cases ry
    exact ⟨rfl, by rw [isNon_ok rx]; exact q _ ρ G H Stp.refl r (.bl _)⟩
  · cases e
theorem s2_isnN : S2 c (fun x y H Q => y = .non ∧ Q (.bl (!decide (x = .non))) H) isnN := fun ρ G H st x y w st' vx vy Q r rx ry e q => by
  unfold isnN at e
  split at e
  · cases e
    cases ry
    exact ⟨rfl, by rw [isNon_ok rx]; exact q _ ρ G H Stp.refl r (.bl _)⟩
  · cases e
def isBl (st : Store) (x y : W) : Option (W × Store) := match x, y with
  | .d (.bl a), .d (.bl b) => some (.d (.bl (decide (a = b))), st)
  | _, _ => none
def isnBl (st : Store) (x y : W) : Option (W × Store) := match x, y with
  | .d (.bl a), .d (.bl b) => some (.d (.bl (!decide (a = b))), st)
  | _, _ => none
theorem s2_isBl : S2 c rIsB isBl := fun ρ G H st x y w st' vx vy Q r rx ry e q => by
  unfold isBl at e
  split at e
  · cases e
    cases rx
    cases ry
    exact ⟨_, _, rfl, rfl, q _ ρ G H Stp.refl r (.bl _)⟩
  · cases e
theorem s2_isnBl : S2 c rNotB isnBl := fun ρ G H st x y w st' vx vy Q r rx ry e q => by
  unfold isnBl at e
  split at e
  · cases e
    cases rx
    cases ry
    exact ⟨_, _, rfl, rfl, q _ ρ G H Stp.refl r (.bl _)⟩
  · cases e
end
end EV
/-! EV9: built-ins called, methods of built-in types, items, slices, displays, fields, what a loop walks. -/
namespace EV
open PySem PySem.Spec PyProof.Rows L2
section
variable {c : Kx} {X : Cx} {U : WX} {e o a b i : Expr} {es : List Expr} {x : Str} {p pos apos cpos : Pos} {id T : String} {m : EM (List W)} {ma mb mi mo : EM W}
/-! ### f(..), T(..) built-in -/
def callB (f : Store → List W → Option (W × Store)) (m : EM (List W)) : EM W := bnd m fun ws => lft fun st => f st ws
theorem wp_cb {r : List V → Hp → VK → Prop} {f : Store → List W → Option (W × Store)} (hs : SN c r f) {ρ : Rho} {G H : Hp} {σ : L2.St} {s : SS} {Q : VK} (hR : R c ρ G σ H s) (w : Wp c U (callB f m) ρ G σ H s (fun w ρ' G' H' _ => ∀ v, RepW c ρ' G' w v → Q v H')) :
    tCB r (tA c U m) σ H Q :=
  ⟨ρ, G, s, hR, (Wp.bnd hR w).imp fun ws ρ1 G1 H1 s1 ⟨S1, R1, w1⟩ vs rvs => by
    obtain ⟨w, st', e, q⟩ := Wp.lft w1
    exact hs ρ1 G1 H1 s1.st ws w st' vs Q R1.rs rvs e fun v' ρ' G' H' S3 R3 r3 => q ρ' G' H' S3 ⟨R3, R1.env.mono S3.rho S3.same, R1.len⟩ v' r3⟩
theorem ee_cb {r : List V → Hp → VK → Prop} {f : Store → List W → Option (W × Store)} (hc : CallR X (.builtin id) r) (hs : SN c r f) (hg : Gl X x) (hm : X.mg x = none) (hv : bootBuiltins x = some (.builtin id)) (ha : EA c X U (e :: es) m) (hn : x ≠ "__name__" := by decide) (hdb : (x == ("__debug__" : Str)) = false := by decide)
    (he : starEach (e :: es) X.env = (false, eval e X.env) :: starEach es X.env := by rfl) (hpl : (backTo pos (starEach es X.env)).any (·.1) = false := by rfl) : EE c X U (.Call (.Name x p) (e :: es) [] pos) (callB f m) :=
  EE.mk1 ha.K (pe_callB hc hg hm hv ha.pa hn hdb he hpl) fun ρ G s σ H Q hR w => wp_cb hs hR w
theorem ee_cty {r : List V → Hp → VK → Prop} {f : Store → List W → Option (W × Store)} (hc : CallR X (.type T) r) (hs : SN c r f) (hg : Gl X x) (hm : X.mg x = none) (hv : bootBuiltins x = some (.type T)) (ha : EA c X U (e :: es) m) (hn : x ≠ "__name__" := by decide) (hdb : (x == ("__debug__" : Str)) = false := by decide)
    (he : starEach (e :: es) X.env = (false, eval e X.env) :: starEach es X.env := by rfl) (hpl : (backTo pos (starEach es X.env)).any (·.1) = false := by rfl) : EE c X U (.Call (.Name x p) (e :: es) [] pos) (callB f m) :=
  EE.mk1 ha.K (pe_callTy hc hg hm hv ha.pa hn hdb he hpl) fun ρ G s σ H Q hR w => wp_cb hs hR w
def lenW (st : Store) : List W → Option (W × Store)
  | [.d (.str z)] => if z.length ≤ 16777216 then some (.d (.int z.length), st) else none
  | [w] => match listW st w with
    | some ws => some (.d (.int ws.length), st)
    | none => match tupW w with
      | some ws => some (.d (.int ws.length), st)
      | none => none
  | _ => none
theorem sn_len : SN c (fun xs H Q => ∃ x n, xs = [x] ∧ LenV c.K x H n ∧ Q (.int n) H) lenW := fun ρ G H st xs w st' vs Q r rv e q => by
  unfold lenW at e
  split at e
  · rename_i z
    split at e
    · rename_i h
      cases e
      obtain ⟨v, r', rfl, hz, h2⟩ := rv
      have h2 : r' = [] := h2
      subst h2
      cases hz
      exact ⟨_, z.length, rfl, ⟨by rw [sizeLine_eq]; exact h, rfl⟩, q _ ρ G H Stp.refl r (.int _)⟩
    · cases e
  · rename_i w' _
    obtain ⟨v, r', rfl, hz, h2⟩ := rv
    have h2 : r' = [] := h2
    subst h2
    cases el : listW st w' with
    | some ws =>
      simp only [el] at e
      cases e
      obtain ⟨a, us, rfl, h1, h3⟩ := listW_ok r hz el
      exact ⟨_, ws.length, rfl, .inl ⟨us, h1, h3.len.symm⟩, q _ ρ G H Stp.refl r (.int _)⟩
    | none =>
      simp only [el] at e
      cases et : tupW w' with
      | some ws =>
        simp only [et] at e
        cases e
        obtain ⟨a, us, rfl, h1, h3⟩ := tupW_ok r hz et
        exact ⟨_, ws.length, rfl, .inr ⟨us, h1, h3.len.symm⟩, q _ ρ G H Stp.refl r (.int _)⟩
      | none => simp only [et] at e; cases e
  · cases e
def intW (st : Store) : List W → Option (W × Store)
  | [.d (.int i)] => some (.d (.int i), st)
  | [.d (.bl k)] => some (.d (.int (if k then 1 else 0)), st)
  | [.d (.str z)] => if z.length ≤ 640 then match intText? z with
    | some n => some (.d (.int n), st)
    | none => none
    else none
  | _ => none
theorem one_rep {ρ : Rho} {G : Hp} {w : W} {vs : List V} (h : RepWs c ρ G [w] vs) : ∃ v, vs = [v] ∧ RepW c ρ G w v := by
  obtain ⟨v, r', rfl, hz, h2⟩ := h
  have h2 : r' = [] := h2
  subst h2
  exact ⟨v, rfl, hz⟩
theorem two_rep {ρ : Rho} {G : Hp} {w w' : W} {vs : List V} (h : RepWs c ρ G [w, w'] vs) : ∃ v v', vs = [v, v'] ∧ RepW c ρ G w v ∧ RepW c ρ G w' v' := by
  obtain ⟨v, r', rfl, hz, h2⟩ := h
  obtain ⟨v', rfl, h3⟩ := one_rep h2
  exact ⟨v, v', rfl, hz, h3⟩
theorem call_intA : CallR X (.type "int") (fun xs H Q => ((∃ i, xs = [.int i] ∧ Q (.int i) H) ∨ ∃ k, xs = [.bl k] ∧ Q (.int (if k = true then 1 else 0)) H) ∨ ∃ a n, xs = [.str a] ∧ intText? a = some n ∧ a.length ≤ 640 ∧ Q (.int n) H) := call_int1.or call_int_str
theorem sn_int : SN c (fun xs H Q => ((∃ i, xs = [.int i] ∧ Q (.int i) H) ∨ ∃ k, xs = [.bl k] ∧ Q (.int (if k = true then 1 else 0)) H) ∨ ∃ a n, xs = [.str a] ∧ intText? a = some n ∧ a.length ≤ 640 ∧ Q (.int n) H) intW := fun ρ G H st xs w st' vs Q r rv e q => by
  unfold intW at e
  split at e
  · cases e
    obtain ⟨v, rfl, hz⟩ := one_rep rv
    cases hz
    exact .inl (.inl ⟨_, rfl, q _ ρ G H Stp.refl r (.int _)⟩)
  · cases e
    obtain ⟨v, rfl, hz⟩ := one_rep rv
    cases hz
    exact .inl (.inr ⟨_, rfl, q _ ρ G H Stp.refl r (.int _)⟩)
  · split at e
    · rename_i h
      split at e
      · rename_i n hn
        cases e
        obtain ⟨v, rfl, hz⟩ := one_rep rv
        cases hz
        exact .inr ⟨_, n, rfl, hn, h, q _ ρ G H Stp.refl r (.int _)⟩
      · cases e
    · cases e
  · cases e
def strW (st : Store) : List W → Option (W × Store)
  | [.d (.int i)] => if 0 ≤ i ∧ i < 10 ^ 200 then some (.d (.str (Str.ofString (toString i))), st) else none
  | _ => none
theorem sn_str : SN c (fun xs H Q => ∃ i, xs = [.int i] ∧ i.natAbs.log2 < 1920 ∧ Q (.str (Str.ofString (toString i))) H) strW := fun ρ G H st xs w st' vs Q r rv e q => by
  unfold strW at e
  split at e
  · rename_i i
    split at e
    · rename_i h
      cases e
      obtain ⟨v, rfl, hz⟩ := one_rep rv
      cases hz
      refine ⟨i, rfl, ?_, q _ ρ G H Stp.refl r (.str _)⟩
      refine log2_lt ?_ (by decide)
      have h1 : i.natAbs < 10 ^ 200 := by omega
      exact Nat.lt_of_lt_of_le h1 (by decide +kernel)
    · cases e
  · cases e
def listC (own : Bool) (st : Store) : List W → Option (W × Store)
  | [w] => match listW st w with
    | some ws => newL own ws st
    | none => match tupW w with
      | some ws => newL own ws st
      | none => none
  | _ => none
theorem sn_list (own : Bool) : SN c (fun xs H Q => ∃ p ys, xs = [.ref p] ∧ (SqL c.K H p ys ∨ SqT c.K H p ys) ∧ ∀ l, H l = none → Q (.ref l) (upd H l (.lst ys))) (listC own) := fun ρ G H st xs w st' vs Q r rv e q => by
  unfold listC at e
  split at e
  · rename_i w'
    obtain ⟨v, rfl, hz⟩ := one_rep rv
    cases el : listW st w' with
    | some ws =>
      simp only [el] at e
      obtain ⟨a, us, rfl, h1, h3⟩ := listW_ok r hz el
      refine ⟨a, us, rfl, .inl h1, fun l hl => ?_⟩
      obtain ⟨ρ', G', S, r', rw'⟩ := newL_ok r h3 e hl
      exact q _ ρ' G' _ S r' rw'
    | none =>
      simp only [el] at e
      cases et : tupW w' with
      | some ws =>
        simp only [et] at e
        obtain ⟨a, us, rfl, h1, h3⟩ := tupW_ok r hz et
        refine ⟨a, us, rfl, .inr h1, fun l hl => ?_⟩
        obtain ⟨ρ', G', S, r', rw'⟩ := newL_ok r h3 e hl
        exact q _ ρ' G' _ S r' rw'
      | none => simp only [et] at e; cases e
  · cases e
/-- isinstance(x, T): by the kind of the value -/
inductive Ty where
  | bi (n : String) | cl (k : Nat) | xc (k : Nat)
  deriving DecidableEq
def tyW (st : Store) : W → Option Ty
  | .d .non => some (.bi "NoneType")
  | .d (.bl _) => some (.bi "bool")
  | .d (.int _) => some (.bi "int")
  | .d (.str _) => some (.bi "str")
  | .d (.lst _) => some (.bi "list")
  | .d (.fls _) => none
  | .d (.tup _) => some (.bi "tuple")
  | .d (.dct _ _) => some (.bi "dict")
  | .d (.ins k _ _) => some (.cl k)
  | .d (.exc k _ _) => some (.xc k)
  | .d _ => none
  | .loc n => match st[n]? with
    | some (some (.lst _)) => some (.bi "list")
    | some (some (.dct _ _)) => some (.bi "dict")
    | some (some (.ins k _ _)) => some (.cl k)
    | _ => none
/-- what isinstance asks of a class of instances -/
structure InsT (K : PySem.W.Frag) (C : Addr) : Prop where
  a : PySem.W.findIn K (.ref C) "__class__" = some (some (.builtin "object.__class__"))
  b : PySem.W.specialIn K (.builtin "object.__class__") "__get__" = some (some (.builtin "getset_descriptor.__get__"))
  c : PySem.W.takesIn K (.builtin "object.__class__") = some true
  d : PySem.W.mroIn K C (.type "object") = some true
def TyFact (c : Kx) (u : Value) : Ty → Bool → Prop
  | .bi n, b => PySem.W.kitOne c.K (.type n) u = some b
  | .cl k, b => ∀ C, c.ct[k]? = some C → InsT c.K C ∧ PySem.W.kitOne c.K (.ref C) u = some b
  | .xc k, b => ∀ C, c.ct[k]? = some C → ExcC c.K C ∧ PySem.W.kitOne c.K (.ref C) u = some b
def isiW (q : List (Ty × Bool)) (st : Store) : List W → Option (W × Store)
  | [w, _] => match tyW st w with
    | some t => match q.lookup t with
      | some b => some (.d (.bl b), st)
      | none => none
    | none => none
  | _ => none
theorem sn_isi {q : List (Ty × Bool)} {v : V} {u : Value} (hv : ClsV v u) (hq : ∀ t b, q.lookup t = some b → TyFact c u t b) (ρ : Rho) (G H : Hp) (st : Store) (w : W) (w2 : W) (st' : Store) (vx : V) (Q : VK) (r : RS c ρ G H st) (rv : RepW c ρ G w vx) (w0 : W) (e : isiW q st [w, w2] = some (w0, st'))
    (k : ∀ v ρ' G' H', Stp ρ G H st ρ' G' H' st' → RS c ρ' G' H' st' → RepW c ρ' G' w0 v → Q v H') : (rIsi c.K [vx, v] H Q ∨ rIsX c.K [vx, v] H Q) := by
  unfold isiW at e
  simp only at e
  cases et : tyW st w with
  | none => simp only [et] at e; cases e
  | some t =>
    simp only [et] at e
    cases eq : q.lookup t with
    | none => simp only [eq] at e; cases e
    | some b =>
      simp only [eq] at e
      cases e
      have hf := hq t b eq
      have fin := k (.bl b) ρ G H Stp.refl r (.bl b)
      cases w with
      | d x =>
        cases x with
        | non => cases et; cases rv; exact .inl ⟨_, _, _, _, b, rfl, hv, .base .non, hf, fin⟩
        | bl _ => cases et; cases rv; exact .inl ⟨_, _, _, _, b, rfl, hv, .base (.bl _), hf, fin⟩
        | int _ => cases et; cases rv; exact .inl ⟨_, _, _, _, b, rfl, hv, .base (.int _), hf, fin⟩
        | str _ => cases et; cases rv; exact .inl ⟨_, _, _, _, b, rfl, hv, .base (.str _), hf, fin⟩
        | lst _ => cases et; cases rv with | lst h _ => exact .inl ⟨_, _, _, _, b, rfl, hv, .base (.lst (r.sub _ _ h)), hf, fin⟩
        | fls _ => cases et
        | tup _ =>
          cases et
          cases rv with
          | tup h _ =>
            rcases h with (h | ⟨o, h⟩) | ⟨o, its, n, h1, h2, _⟩
            · exact .inl ⟨_, _, _, _, b, rfl, hv, .base (.tup (r.sub _ _ h)), hf, fin⟩
            · exact .inl ⟨_, _, _, _, b, rfl, hv, .fTuple (r.sub _ _ h), hf, fin⟩
            · exact .inl ⟨_, _, _, _, b, rfl, hv, .kTuple h1 h2, hf, fin⟩
        | dct _ _ => cases et; cases rv with | dct h _ _ => exact .inl ⟨_, _, _, _, b, rfl, hv, .base (.dK (r.sub _ _ h)), hf, fin⟩
        | ins _ _ _ =>
          cases et
          cases rv with
          | ins hC hF h _ _ _ =>
            obtain ⟨hI, hb⟩ := hf _ hC
            exact .inl ⟨_, _, _, _, b, rfl, hv, .base (.ins (r.sub _ _ h) hF.1 hI.a hI.b hI.c hI.d), hb, fin⟩
        | exc _ _ _ =>
          cases et
          cases rv with
          | exc0 hC h =>
            obtain ⟨hI, hb⟩ := hf _ hC
            exact .inr ⟨_, _, none, _, _, b, rfl, hv, r.sub _ _ h, .inl rfl, hI, hb, fin⟩
          | excD hC h h2 _ _ =>
            obtain ⟨hI, hb⟩ := hf _ hC
            exact .inr ⟨_, _, _, _, _, b, rfl, hv, r.sub _ _ h, .inr ⟨_, _, rfl, r.sub _ _ h2⟩, hI, hb, fin⟩
        | ref _ => cases et
        | ty _ => cases et
      | loc n =>
        obtain ⟨p, hp, rfl⟩ := rv
        unfold tyW at et
        cases ho : st[n]? with
        | none => simp only [ho] at et; cases et
        | some o =>
          cases o with
          | none => simp only [ho] at et; cases et
          | some o =>
            obtain ⟨_, _, ok⟩ := r.own n p o hp ho
            cases o with
            | lst _ =>
              simp only [ho] at et
              cases et
              obtain ⟨_, _, h, _⟩ := ok
              exact .inl ⟨_, _, _, _, b, rfl, hv, .base (.lst h), hf, fin⟩
            | dct _ _ =>
              simp only [ho] at et
              cases et
              obtain ⟨_, _, _, h, _⟩ := ok
              exact .inl ⟨_, _, _, _, b, rfl, hv, .base (.dK h), hf, fin⟩
            | ins _ _ _ =>
              simp only [ho] at et
              cases et
              obtain ⟨_, C, _, hC, hF, h, _⟩ := ok
              obtain ⟨hI, hb⟩ := hf _ hC
              exact .inl ⟨_, _, _, _, b, rfl, hv, .base (.ins h hF.1 hI.a hI.b hI.c hI.d), hb, fin⟩
            | tup _ => simp only [ho] at et; cases et
theorem wp_map {α β : Type} {mm : EM α} {g : α → β} {ρ : Rho} {G H : Hp} {σ : L2.St} {s : SS} {k : β → Rho → Hp → Hp → SS → Prop} (h : Wp c U mm ρ G σ H s (fun a ρ' G' H' s' => k (g a) ρ' G' H' s')) : Wp c U (bnd mm fun a => pur (g a)) ρ G σ H s k := by
  unfold Wp at h ⊢
  cases e : mm s with
  | none => rw [e] at h; exact h.elim
  | some p =>
    obtain ⟨o, s1⟩ := p
    rw [e] at h
    cases o with
    | ok a => rw [bnd_ok e]; exact h
    | ex _ _ _ => rw [bnd_ex e]; exact h
/-- the second argument is a class, known by its name -/
theorem ee_isi {q : List (Ty × Bool)} {u : Value} {v : V} {d2 : D} (hv : ClsV v u) (hq : ∀ t b, q.lookup t = some b → TyFact c u t b) (hd2 : ∀ (G : Hp) (z : V), RepD c G d2 z → z = v) (hg : Gl X "isinstance") (hm : X.mg "isinstance" = none) (ha : EE c X U a ma) (hb : EE c X U b (cst d2))
    (hs : starEach [a, b] X.env = (false, eval a X.env) :: starEach [b] X.env := by rfl) (hs2 : starEach [b] X.env = (false, eval b X.env) :: starEach [] X.env := by rfl) (hpl : (backTo pos (starEach [b] X.env)).any (·.1) = false := by rfl) :
    EE c X U (.Call (.Name "isinstance" p) [a, b] [] pos) (bnd ma fun w => lft fun st => isiW q st [w, .d .non]) :=
  EE.mk1 ha.K (pe_callB (call_isi.or call_isX) hg hm (by decide +kernel) (ea_cons ha (ea_cons hb (ea_nil ha.K) hs2) hs).pa (by decide) (by decide) hs hpl) fun ρ G s σ H Q hR w => by
    refine ⟨ρ, G, s, hR, ?_⟩
    have e : acons ma (acons (cst d2) anil) = bnd ma fun w => pur [w, .d d2] := rfl
    rw [e]
    refine wp_map (g := fun w => [w, .d d2]) (k := fun ws ρ' G' H' _ => ∀ vs, RepWs c ρ' G' ws vs → (rIsi X.K vs H' Q ∨ rIsX X.K vs H' Q)) ((Wp.bnd hR w).imp fun x ρ1 G1 H1 s1 ⟨S1, R1, w1⟩ vs rvs => ?_)
    obtain ⟨w, st', e, q'⟩ := Wp.lft w1
    obtain ⟨v1, v2, rfl, r1, r2⟩ := two_rep rvs
    rw [hd2 G1 v2 r2, ha.K]
    exact sn_isi hv hq ρ1 G1 H1 s1.st x _ st' v1 Q R1.rs r1 w e fun v' ρ' G' H' S3 R3 r3 => q' ρ' G' H' S3 ⟨R3, R1.env.mono S3.rho S3.same, R1.len⟩ v' r3
/-! ### methods of built-in types -/
/-- the receiver is of the type T -/
def tyIs (T : String) (st : Store) (w : W) : Bool := match w with
  | .d (.str _) => decide (T = "str")
  | .d (.lst _) => decide (T = "list")
  | .d (.fls _) => decide (T = "list")
  | .d (.dct _ _) => decide (T = "dict")
  | .d _ => false
  | .loc n => match st[n]? with
    | some (some (.lst _)) => decide (T = "list")
    | some (some (.dct _ _)) => decide (T = "dict")
    | _ => false
theorem tyIs_ok {ρ : Rho} {G H : Hp} {st : Store} {w : W} {v : V} (r : RS c ρ G H st) (rv : RepW c ρ G w v) (e : tyIs T st w = true) : tyV c.K T v H := by
  cases w with
  | d x =>
    cases x with
    | str z => cases rv; exact (of_decide_eq_true e : T = "str")
    | lst _ => cases rv with | lst h _ => exact .inl ⟨of_decide_eq_true e, _, SqL.of (r.sub _ _ h)⟩
    | fls _ => cases rv with | fls h _ => exact .inl ⟨of_decide_eq_true e, _, r.sub.seq h⟩
    | dct _ _ => cases rv with | dct h _ _ => exact .inr (.inr (.inl ⟨of_decide_eq_true e, .inl ⟨_, r.sub _ _ h⟩⟩))
    | _ => exact absurd e Bool.false_ne_true
  | loc n =>
    obtain ⟨p, hp, rfl⟩ := rv
    unfold tyIs at e
    cases ho : st[n]? with
    | none => simp only [ho] at e; exact absurd e Bool.false_ne_true
    | some o =>
      cases o with
      | none => simp only [ho] at e; exact absurd e Bool.false_ne_true
      | some o =>
        obtain ⟨_, _, ok⟩ := r.own n p o hp ho
        cases o with
        | lst _ =>
          simp only [ho] at e
          obtain ⟨_, _, h, _⟩ := ok
          exact .inl ⟨of_decide_eq_true e, _, SqL.of h⟩
        | dct _ _ =>
          simp only [ho] at e
          obtain ⟨_, _, _, h, _⟩ := ok
          exact .inr (.inr (.inl ⟨of_decide_eq_true e, .inl ⟨_, h⟩⟩))
        | ins _ _ _ => simp only [ho] at e; exact absurd e Bool.false_ne_true
        | tup _ => simp only [ho] at e; exact absurd e Bool.false_ne_true
/-- what a method's rule does: the receiver, the arguments -/
def SM (c : Kx) (r : V → List V → Hp → VK → Prop) (f : Store → W → List W → Option (W × Store)) : Prop :=
  ∀ (ρ : Rho) (G H : Hp) (st : Store) (o : W) (xs : List W) (w : W) (st' : Store) (vo : V) (vs : List V) (Q : VK), RS c ρ G H st → RepW c ρ G o vo → RepWs c ρ G xs vs → f st o xs = some (w, st') →
    (∀ v ρ' G' H', Stp ρ G H st ρ' G' H' st' → RS c ρ' G' H' st' → RepW c ρ' G' w v → Q v H') → r vo vs H Q
def bmE (T : String) (f : Store → W → List W → Option (W × Store)) (mo : EM W) (m : EM (List W)) : EM W := bnd mo fun o => fun s => if tyIs T s.st o then bnd m (fun ws => lft fun st => f st o ws) s else none
theorem ee_bm {name : Str} {r : V → List V → Hp → VK → Prop} {f : Store → W → List W → Option (W × Store)} (hs : SM c r f) (pa : PlainAttrs T) (slot : Slot T name id) (hty : typeOf (.builtin id) = pure (.type "method_descriptor")) (hm : MtR X id r) (ho : EE c X U o mo) (ha : EA c X U (e :: es) m)
    (h1 : attributeBase o name X.env (eval o X.env) = eval o X.env := by rfl)
    (h2 : (((backTo cpos (starEach (e :: es) X.env)).all fun x => !x.1) && (backToKw cpos (keywordEach [] X.env)).all (fun x => x.1.isSome) && decide ((e :: es).length + ([] : List Keyword).length + (if ([] : List Keyword).isEmpty = true then 0 else 1) < 30)) = true := by rfl)
    (h3 : (apos.endLine == cpos.line) = true := by rfl) (h4 : starEach (e :: es) X.env = (false, eval e X.env) :: starEach es X.env := by rfl) (h5 : (backTo cpos (starEach es X.env)).any (fun x => x.1) = false := by rfl) :
    EE c X U (.Call (.Attribute o name apos) (e :: es) [] cpos) (bmE T f mo m) :=
  EE.mk1 ho.K (pe_bm pa slot hty hm ho.pe ha.pa h1 h2 h3 h4 h5) fun ρ G s σ H Q hR w => ⟨ρ, G, s, hR, (Wp.bnd hR w).imp fun ov ρ1 G1 H1 s1 ⟨S1, R1, w1⟩ v rv => by
    unfold Wp at w1
    by_cases ht : tyIs T s1.st ov = true
    · simp only [ht, if_true] at w1
      refine ⟨by rw [ho.K]; exact tyIs_ok R1.rs rv ht, ρ1, G1, s1, R1, (Wp.bnd R1 w1).imp fun ws ρ2 G2 H2 s2 ⟨S2, R2, w2⟩ vs rvs => ?_⟩
      obtain ⟨w, st', e, q⟩ := Wp.lft w2
      exact hs ρ2 G2 H2 s2.st ov ws w st' v vs Q R2.rs (rv.mono S2.rho S2.same) rvs e fun v' ρ' G' H' S3 R3 r3 => q ρ' G' H' S3 ⟨R3, R2.env.mono S3.rho S3.same, R2.len⟩ v' r3
    · simp only [if_neg ht] at w1⟩
theorem ee_bm0 {name : Str} {r : V → List V → Hp → VK → Prop} {f : Store → W → List W → Option (W × Store)} (hs : SM c r f) (pa : PlainAttrs T) (slot : Slot T name id) (hty : typeOf (.builtin id) = pure (.type "method_descriptor")) (hm : MtR X id r) (ho : EE c X U o mo)
    (h1 : attributeBase o name X.env (eval o X.env) = eval o X.env := by rfl) (h3 : (apos.endLine == cpos.line) = true := by rfl) :
    EE c X U (.Call (.Attribute o name apos) [] [] cpos) (bmE T f mo anil) :=
  EE.mk1 ho.K (pe_bm0 pa slot hty hm ho.pe h1 h3) fun ρ G s σ H Q hR w => ⟨ρ, G, s, hR, (Wp.bnd hR w).imp fun ov ρ1 G1 H1 s1 ⟨S1, R1, w1⟩ v rv => by
    unfold Wp at w1
    by_cases ht : tyIs T s1.st ov = true
    · simp only [ht, if_true] at w1
      refine ⟨by rw [ho.K]; exact tyIs_ok R1.rs rv ht, ?_⟩
      have w2 : Wp c U (lft fun st => f st ov []) ρ1 G1 σ H1 s1 (fun w ρ' G' H' _ => ∀ v, RepW c ρ' G' w v → Q v H') := w1
      obtain ⟨w, st', e, q⟩ := Wp.lft w2
      exact hs ρ1 G1 H1 s1.st ov [] w st' v [] Q R1.rs rv rfl e fun v' ρ' G' H' S3 R3 r3 => q ρ' G' H' S3 ⟨R3, R1.env.mono S3.rho S3.same, R1.len⟩ v' r3
    · simp only [if_neg ht] at w1⟩
/-! lists that are written -/
def wrL (st : Store) (o : W) (g : List W → Option (List W × W)) : Option (W × Store) := match o with
  | .loc n => match st[n]? with
    | some (some (.lst ws)) => match g ws with
      | some (ws', w) => some (w, st.set n (some (.lst ws')))
      | none => none
    | _ => none
  | _ => none
def appendW (st : Store) (o : W) : List W → Option (W × Store)
  | [w] => wrL st o fun ws => if ws.length < 16777216 then some (ws ++ [w], .d .non) else none
  | _ => none
theorem wrL_ok {ρ : Rho} {G H : Hp} {st : Store} {o w : W} {st' : Store} {vo : V} {g : List W → Option (List W × W)} (r : RS c ρ G H st) (ro : RepW c ρ G o vo) (e : wrL st o g = some (w, st')) :
    ∃ a vs ws ws', vo = .ref a ∧ H a = some (.lst vs) ∧ RepWs c ρ G ws vs ∧ g ws = some (ws', w) ∧ ∀ vs', RepWs c ρ G ws' vs' → Stp ρ G H st ρ G (upd H a (.lst vs')) st' ∧ RS c ρ G (upd H a (.lst vs')) st' := by
  unfold wrL at e
  split at e
  · rename_i n
    obtain ⟨p, hp, rfl⟩ := ro
    cases ho : st[n]? with
    | none => simp only [ho] at e; cases e
    | some o =>
      cases o with
      | none => simp only [ho] at e; cases e
      | some o =>
        cases o with
        | lst ws =>
          simp only [ho] at e
          cases hg : g ws with
          | none => simp only [hg] at e; cases e
          | some q =>
            obtain ⟨ws', w'⟩ := q
            simp only [hg] at e
            cases e
            obtain ⟨_, _, h1, vs, h2, h3⟩ := r.own n p _ hp ho
            exact ⟨p.1, vs, ws, ws', rfl, h2, h3, hg, fun vs' r' => written r hp ho ⟨h1, vs', upd_same, r'⟩⟩
        | dct _ _ => simp only [ho] at e; cases e
        | ins _ _ _ => simp only [ho] at e; cases e
        | tup _ => simp only [ho] at e; cases e
  · cases e
theorem sm_append : SM c rAppend appendW := fun ρ G H st o xs w st' vo vs Q r ro rx e q => by
  unfold appendW at e
  split at e
  · rename_i x
    obtain ⟨v, rfl, rv⟩ := one_rep rx
    obtain ⟨a, vs, ws, ws', rfl, h1, h2, h3, h4⟩ := wrL_ok r ro e
    by_cases hl : ws.length < 16777216
    · rw [if_pos hl] at h3
      cases h3
      obtain ⟨S, r'⟩ := h4 (vs ++ [v]) (h2.app ⟨v, [], rfl, rv, rfl⟩)
      exact ⟨a, vs, v, rfl, rfl, h1, by rw [h2.len, sizeLine_eq]; exact hl, q _ ρ G _ S r' .non⟩
    · rw [if_neg hl] at h3
      cases h3
  · cases e
def clearW (st : Store) (o : W) : List W → Option (W × Store)
  | [] => wrL st o fun _ => some ([], .d .non)
  | _ => none
theorem sm_clear : SM c rClear clearW := fun ρ G H st o xs w st' vo vs Q r ro rx e q => by
  unfold clearW at e
  split at e
  · have rx : vs = [] := rx
    subst rx
    obtain ⟨a, vs, ws, ws', rfl, h1, h2, h3, h4⟩ := wrL_ok r ro e
    cases h3
    obtain ⟨S, r'⟩ := h4 [] rfl
    exact ⟨a, vs, rfl, rfl, h1, q _ ρ G _ S r' .non⟩
  · cases e
def popW (st : Store) (o : W) : List W → Option (W × Store)
  | [] => wrL st o fun ws => match ws[ws.length - 1]? with
    | some w => some (ws.dropLast, w)
    | none => none
  | _ => none
theorem RepWs.dropLast {ρ : Rho} {G : Hp} {ws : List W} {vs : List V} (h : RepWs c ρ G ws vs) : RepWs c ρ G ws.dropLast vs.dropLast := by
  rw [List.dropLast_eq_take, List.dropLast_eq_take, h.len]
  exact h.take _
theorem sm_pop : SM c rPop popW := fun ρ G H st o xs w st' vo vs Q r ro rx e q => by
  unfold popW at e
  split at e
  · have rx : vs = [] := rx
    subst rx
    obtain ⟨a, vs, ws, ws', rfl, h1, h2, h3, h4⟩ := wrL_ok r ro e
    cases hw : ws[ws.length - 1]? with
    | none => simp only [hw] at h3; cases h3
    | some y =>
      simp only [hw] at h3
      cases h3
      obtain ⟨v, hv, rv⟩ := h2.get hw
      obtain ⟨S, r'⟩ := h4 vs.dropLast h2.dropLast
      exact ⟨a, vs, v, rfl, rfl, h1, by rw [h2.len]; exact hv, q _ ρ G _ S r' rv⟩
  · cases e
def extendW (st : Store) (o : W) : List W → Option (W × Store)
  | [x] => match lst1W st x with
    | some zs => wrL st o fun ws => if ws.length + zs.length ≤ 16777216 then some (ws ++ zs, .d .non) else none
    | none => none
  | _ => none
theorem sm_extend : SM c rExtend extendW := fun ρ G H st o xs w st' vo vs Q r ro rx e q => by
  unfold extendW at e
  split at e
  · rename_i x
    cases hz : lst1W st x with
    | none => simp only [hz] at e; cases e
    | some zs =>
      simp only [hz] at e
      obtain ⟨v, rfl, rv⟩ := one_rep rx
      obtain ⟨b, us, rfl, g1, g2⟩ := lst1W_ok r rv hz
      obtain ⟨a, vs, ws, ws', rfl, h1, h2, h3, h4⟩ := wrL_ok r ro e
      by_cases hl : ws.length + zs.length ≤ 16777216
      · rw [if_pos hl] at h3
        cases h3
        obtain ⟨S, r'⟩ := h4 (vs ++ us) (h2.app g2)
        exact ⟨a, b, vs, us, rfl, rfl, h1, g1, by rw [h2.len, g2.len, sizeLine_eq]; exact hl, q _ ρ G _ S r' .non⟩
      · rw [if_neg hl] at h3
        cases h3
  · cases e
def insertW (st : Store) (o : W) : List W → Option (W × Store)
  | [.d (.int i), x] => wrL st o fun ws => if ws.length < 16777216 ∧ 0 ≤ i ∧ i < 1000000000 then some (ws.take i.toNat ++ [x] ++ ws.drop i.toNat, .d .non) else none
  | _ => none
theorem sm_insert : SM c (fun x vs H Q => ∃ (l : Addr) (xs : List V) (i : Int) (y : V), x = .ref l ∧ vs = [.int i, y] ∧ H l = some (.lst xs) ∧ xs.length < sizeLine ∧ 0 ≤ i ∧ i < 2 ^ 63 ∧ Q .non (upd H l (.lst (xs.take i.toNat ++ [y] ++ xs.drop i.toNat)))) insertW := fun ρ G H st o xs w st' vo vs Q r ro rx e q => by
  unfold insertW at e
  split at e
  · rename_i i x
    obtain ⟨v, v', rfl, rv, rv'⟩ := two_rep rx
    cases rv
    obtain ⟨a, vs, ws, ws', rfl, h1, h2, h3, h4⟩ := wrL_ok r ro e
    by_cases hl : ws.length < 16777216 ∧ 0 ≤ i ∧ i < 1000000000
    · rw [if_pos hl] at h3
      cases h3
      obtain ⟨S, r'⟩ := h4 (vs.take i.toNat ++ [v'] ++ vs.drop i.toNat) (((h2.take _).app (show RepWs c ρ G [x] [v'] from ⟨v', [], rfl, rv', rfl⟩)).app (h2.drop _))
      exact ⟨a, vs, i, v', rfl, rfl, h1, by rw [h2.len, sizeLine_eq]; exact hl.1, hl.2.1, by omega, q _ ρ G _ S r' .non⟩
    · rw [if_neg hl] at h3
      cases h3
  · cases e
/-! texts -/
def strsD : List D → Option (List Str)
  | [] => some []
  | .str z :: r => (strsD r).map (z :: ·)
  | _ :: _ => none
theorem strsD_map : ∀ zs : List Str, strsD (zs.map .str) = some zs
  | [] => rfl
  | z :: zs => by
    show (strsD (zs.map .str)).map (z :: ·) = _
    rw [strsD_map zs]; rfl
theorem strsD_ok {G : Hp} : ∀ {ds : List D} {zs : List Str} {vs : List V}, strsD ds = some zs → RepDs c G ds vs → vs = zs.map V.str
  | [], _, _, e, .nil => by cases e; rfl
  | d :: ds, zs, _, e, .cons h t => by
    cases d with
    | str z =>
      unfold strsD at e
      cases q : strsD ds with
      | none => rw [q] at e; cases e
      | some ys =>
        rw [q] at e
        cases e
        cases h
        rw [strsD_ok q t]
        rfl
    | _ => cases e
def joinW (st : Store) (o : W) : List W → Option (W × Store)
  | [x] => match o, snapD st x with
    | .d (.str a), some d => match (match d with | .lst ds => strsD ds | .fls ds => strsD ds | .tup ds => strsD ds | _ => none) with
      | some ys => if (ys.map fun x => x.length).sum + ys.length * a.length ≤ 16777216 then some (.d (.str (Txt.join a ys)), st) else none
      | none => none
    | _, _ => none
  | _ => none
theorem sm_join : SM c (fun x xs H Q => ∃ a p, ∃ ys : List Str, x = .str a ∧ xs = [.ref p] ∧ (SqL c.K H p (ys.map V.str) ∨ SqT c.K H p (ys.map V.str)) ∧ (ys.map fun x => x.length).sum + ys.length * a.length ≤ 16777216 ∧ Q (.str (Txt.join a ys)) H) joinW := fun ρ G H st o xs w st' vo vs Q r ro rx e q => by
  unfold joinW at e
  split at e
  · rename_i x
    obtain ⟨v, rfl, rv⟩ := one_rep rx
    split at e
    · rename_i a d hd
      split at e
      · rename_i ys hy
        split at e
        · rename_i hl
          cases e
          cases ro
          obtain ⟨G', s', r'⟩ := snap_ok r rv hd
          have fin := q (.str (Txt.join a ys)) ρ G H Stp.refl r (.str _)
          cases r' with
          | lst h hr => rw [strsD_ok hy hr] at h; exact ⟨a, _, ys, rfl, rfl, .inl (SqL.of (s' _ _ h)), hl, fin⟩
          | fls h hr => rw [strsD_ok hy hr] at h; exact ⟨a, _, ys, rfl, rfl, .inl (s'.seq h), hl, fin⟩
          | tup h hr => rw [strsD_ok hy hr] at h; exact ⟨a, _, ys, rfl, rfl, .inr (SqT.same s' h), hl, fin⟩
          | _ => cases hy
        · cases e
      · cases e
    · cases e
  · cases e
def splitW (own : Bool) (st : Store) (o : W) : List W → Option (W × Store)
  | [.d (.str b)] => match o with
    | .d (.str a) => if 0 < b.length ∧ a.length ≤ 1000000 then newL own ((Txt.split a b).map fun z => .d (.str z)) st else none
    | _ => none
  | _ => none
theorem strs_rep {ρ : Rho} {G : Hp} : ∀ zs : List Str, RepWs c ρ G (zs.map fun z => W.d (.str z)) (zs.map V.str)
  | [] => rfl
  | z :: zs => ⟨_, _, rfl, .str z, strs_rep zs⟩
theorem sm_split (own : Bool) : SM c (fun x xs H Q => ∃ a b, x = .str a ∧ xs = [.str b] ∧ (b.length == 0) = false ∧ a.length + 2 ≤ sizeLine ∧ rNewStrs (Txt.split a b) H Q) (splitW own) := fun ρ G H st o xs w st' vo vs Q r ro rx e q => by
  unfold splitW at e
  split at e
  · rename_i b
    obtain ⟨v, rfl, rv⟩ := one_rep rx
    cases rv
    split at e
    · rename_i a
      cases ro
      split at e
      · rename_i hl
        refine ⟨a, b, rfl, rfl, beq_eq_false_iff_ne.mpr (by omega), by rw [sizeLine_eq]; omega, fun p hp => ?_⟩
        obtain ⟨ρ', G', S, r', rw'⟩ := newL_ok r (strs_rep (Txt.split a b)) e hp
        exact q _ ρ' G' _ S r' rw'
      · cases e
    · cases e
  · cases e
def findW (st : Store) (o : W) : List W → Option (W × Store)
  | [.d (.str b)] => match o with
    | .d (.str a) => some (.d (.int (Txt.find a b)), st)
    | _ => none
  | _ => none
theorem sm_find : SM c (fun x xs H Q => ∃ a b, x = .str a ∧ xs = [.str b] ∧ Q (.int (Txt.find a b)) H) findW := fun ρ G H st o xs w st' vo vs Q r ro rx e q => by
  unfold findW at e
  split at e
  · rename_i b
    obtain ⟨v, rfl, rv⟩ := one_rep rx
    cases rv
    split at e
    · rename_i a
      cases ro
      cases e
      exact ⟨a, b, rfl, rfl, q _ ρ G H Stp.refl r (.int _)⟩
    · cases e
  · cases e
end
end EV
/-! EV10: items, slices, displays, fields, what a loop walks. -/
namespace EV
open PySem PySem.Spec PyProof.Rows L2
section
variable {c : Kx} {X : Cx} {U : WX} {e o a b i value : Expr} {es : List Expr} {x f : Str} {p p2 pos pos' apos cpos : Pos} {m : EM (List W)} {ma mb mi mo me ml mh : EM W}
/-! ### items -/
theorem rep_at {ρ : Rho} {G : Hp} {ws : List W} {vs : List V} {k : Int} {w : W} (h : RepWs c ρ G ws vs) (e : atI ws k = some w) : ∃ v, atI vs k = some v ∧ RepW c ρ G w v := by
  unfold atI at e ⊢
  rw [h.len]
  cases q : ixN ws.length k with
  | none => rw [q] at e; cases e
  | some j =>
    rw [q] at e
    obtain ⟨v, h1, h2⟩ := h.get (show ws[j]? = some w from e)
    exact ⟨v, h1, h2⟩
def ixI (st : Store) (x : W) (k : Int) : Option (W × Store) := match x with
  | .d (.str z) => match atI z.cps.toList k with
    | some ch => if z.length ≤ 16777216 then some (.d (.str ⟨#[ch]⟩), st) else none
    | none => none
  | .d (.lst ds) => match atI ds k with
    | some d => some (.d d, st)
    | none => none
  | .d (.fls ds) => match atI ds k with
    | some d => some (.d d, st)
    | none => none
  | .d (.tup ds) => match atI ds k with
    | some d => some (.d d, st)
    | none => none
  | .d _ => none
  | .loc n => match st[n]? with
    | some (some (.lst ws)) => match atI ws k with
      | some w => some (w, st)
      | none => none
    | some (some (.tup ws)) => match atI ws k with
      | some w => some (w, st)
      | none => none
    | _ => none
def ixA (st : Store) (x y : W) : Option (W × Store) := match y with
  | .d (.int k) => ixI st x k
  | _ => none
theorem repD_at {G : Hp} {ds : List D} {vs : List V} {k : Int} {d : D} (h : RepDs c G ds vs) (e : atI ds k = some d) : ∃ v, atI vs k = some v ∧ RepD c G d v := by
  unfold atI at e ⊢
  rw [h.len]
  cases q : ixN ds.length k with
  | none => rw [q] at e; cases e
  | some j =>
    rw [q] at e
    obtain ⟨v, h1, h2⟩ := h.get (show ds[j]? = some d from e)
    exact ⟨v, h1, h2⟩
theorem s2_ixA : S2 c (rIx c.K) ixA := fun ρ G H st x y w st' vx vy Q r rx ry e q => by
  unfold ixA at e
  cases y with
  | loc n => cases e
  | d y =>
  cases y with
  | int k =>
    have e : ixI st x k = some (w, st') := e
    cases ry
    unfold ixI at e
    cases x with
    | d x =>
      cases x with
      | str z =>
        cases rx
        cases hc : atI z.cps.toList k with
        | none => simp only [hc] at e; cases e
        | some ch =>
          simp only [hc] at e
          split at e
          · rename_i hl
            cases e
            exact .inr (.inr ⟨z, k, ch, rfl, rfl, by rw [sizeLine_eq]; exact hl, hc, q _ ρ G H Stp.refl r (.str _)⟩)
          · cases e
      | lst ds =>
        cases ea : atI ds k with
        | none => simp only [ea] at e; cases e
        | some d =>
          simp only [ea] at e
          cases e
          cases rx with
          | lst h hr =>
            obtain ⟨v, h4, h5⟩ := repD_at hr ea
            exact .inl ⟨_, _, k, v, rfl, rfl, SqL.of (r.sub _ _ h), h4, q v ρ G H Stp.refl r h5⟩
      | fls ds =>
        cases ea : atI ds k with
        | none => simp only [ea] at e; cases e
        | some d =>
          simp only [ea] at e
          cases e
          cases rx with
          | fls h hr =>
            obtain ⟨v, h4, h5⟩ := repD_at hr ea
            exact .inl ⟨_, _, k, v, rfl, rfl, r.sub.seq h, h4, q v ρ G H Stp.refl r h5⟩
      | tup ds =>
        cases ea : atI ds k with
        | none => simp only [ea] at e; cases e
        | some d =>
          simp only [ea] at e
          cases e
          cases rx with
          | tup h hr =>
            obtain ⟨v, h4, h5⟩ := repD_at hr ea
            exact .inr (.inl ⟨_, _, k, v, rfl, rfl, SqT.same r.sub h, h4, q v ρ G H Stp.refl r h5⟩)
      | _ => cases e
    | loc n =>
      cases ho : st[n]? with
      | none => simp only [ho] at e; cases e
      | some oo =>
        cases oo with
        | none => simp only [ho] at e; cases e
        | some oo =>
          cases oo with
          | lst ws =>
            simp only [ho] at e
            cases ea : atI ws k with
            | none => simp only [ea] at e; cases e
            | some w' =>
              simp only [ea] at e
              cases e
              obtain ⟨p, hp, rfl⟩ := rx
              obtain ⟨_, _, _, vs, h, hr⟩ := r.own n p _ hp ho
              obtain ⟨v, h4, h5⟩ := rep_at hr ea
              exact .inl ⟨_, vs, k, v, rfl, rfl, SqL.of h, h4, q v ρ G H Stp.refl r h5⟩
          | dct _ _ => simp only [ho] at e; cases e
          | ins _ _ _ => simp only [ho] at e; cases e
          | tup ws =>
            simp only [ho] at e
            cases ea : atI ws k with
            | none => simp only [ea] at e; cases e
            | some w' =>
              simp only [ea] at e
              cases e
              obtain ⟨p, hp, rfl⟩ := rx
              obtain ⟨_, _, _, vs, h, hr⟩ := r.own n p _ hp ho
              obtain ⟨v, h4, h5⟩ := rep_at hr ea
              exact .inr (.inl ⟨_, vs, k, v, rfl, rfl, SqT.of h, h4, q v ρ G H Stp.refl r h5⟩)
  | _ => cases e
theorem ee_ix (ha : EE c X U a ma) (hb : EE c X U b mb) (hs : PlainIx b) : EE c X U (.Subscript a b pos) (op2 ixA ma mb) :=
  EE.mk1 ha.K (pe_ix ix_seq ha.pe hb.pe hs) fun ρ G s σ H Q hR w => by
    have := wp_op2 (c := c) (r := rIx c.K) s2_ixA hR w
    rw [ha.K]
    exact this
/-! ### slices -/
def partE (o : Option (EM W)) : EM (Option Int) := match o with
  | none => pur none
  | some m => bnd m fun w => match w with
    | .d (.int i) => pur (some i)
    | _ => non
def tO (c : Kx) (U : WX) (m : EM (Option Int)) : TO := fun σ H Q => ∃ ρ G s, R c ρ G σ H s ∧ Wp c U m ρ G σ H s (fun z _ _ H' _ => Q z H')
structure EO (c : Kx) (X : Cx) (U : WX) (e : Option Expr) (m : EM (Option Int)) : Prop where
  po : PO X e (tO c U m)
theorem PO.imp {X : Cx} {e : Option Expr} {t t' : TO} (h : PO X e t) (q : ∀ σ H Q, t' σ H Q → t σ H Q) : PO X e t' := ⟨fun pins s σ H Q I x => h.run pins s σ H Q I (q σ H Q x)⟩
theorem eo_none : EO c X U none (partE none) := ⟨PO.imp po_none fun σ H Q ⟨ρ, G, s, hR, w⟩ => Wp.pur hR w⟩
theorem eo_some (h : EE c X U e me) : EO c X U (some e) (partE (some me)) := ⟨PO.imp (po_some h.pe) fun σ H Q ⟨ρ, G, s, hR, w⟩ => ⟨ρ, G, s, hR, (Wp.bnd hR w).imp fun z ρ1 G1 H1 s1 ⟨S1, R1, w1⟩ v rv => by
    cases z with
    | loc n => exact w1.none rfl
    | d z =>
      cases z with
      | int i => cases rv; exact ⟨i, rfl, Wp.pur R1 w1⟩
      | _ => exact w1.none rfl⟩⟩
def cutW {α : Type} (xs : List α) (lo hi : Option Int) : List α := List.take (HT.sIx xs.length xs.length hi - HT.sIx xs.length 0 lo) (List.drop (HT.sIx xs.length 0 lo) xs)
theorem rep_cut {ρ : Rho} {G : Hp} {ws : List W} {vs : List V} {lo hi : Option Int} (h : RepWs c ρ G ws vs) : RepWs c ρ G (cutW ws lo hi) (cutV vs lo hi) := by
  unfold cutW cutV
  rw [h.len]
  exact (h.drop _).take _
def sliceA (own : Bool) (st : Store) (x : W) (lo hi : Option Int) : Option (W × Store) := match x with
  | .d (.str z) => if z.length ≤ 16777216 then some (.d (.str (cutS z lo hi)), st) else none
  | .d (.tup ds) => if HT.sIx ds.length 0 lo = 0 ∧ HT.sIx ds.length ds.length hi = ds.length then none else some (.d (.tup (cutW ds lo hi)), st)
  | x => match listW st x with
    | some ws => newL own (cutW ws lo hi) st
    | none => none
def slE (own : Bool) (m : EM W) (ml mh : EM (Option Int)) : EM W := bnd m fun x => bnd ml fun lo => bnd mh fun hi => lft fun st => sliceA own st x lo hi
theorem sl_any : SlR X (fun x lo hi H Q => rSlL X.K x lo hi H Q ∨ rSlT X.K x lo hi H Q ∨ rSlS x lo hi H Q) := sl_list.or (sl_tup.or sl_str)
theorem cutW_D (ds : List D) (lo hi : Option Int) : cutW (ds.map W.d) lo hi = (cutW ds lo hi).map W.d := by
  unfold cutW
  rw [List.length_map, List.map_take, List.map_drop]
theorem ee_slice {own : Bool} {lo hi : Option Expr} {nl nh : EM (Option Int)} (h : EE c X U e me) (hl : EO c X U lo nl) (hh : EO c X U hi nh) : EE c X U (.Subscript e (.Slice lo hi none p2) pos) (slE own me nl nh) :=
  EE.mk1 h.K (pe_slice sl_any h.pe hl.po hh.po) fun ρ G s σ H Q hR w => ⟨ρ, G, s, hR, (Wp.bnd hR w).imp fun z ρ1 G1 H1 s1 ⟨S1, R1, w1⟩ v rv =>
    ⟨ρ1, G1, s1, R1, (Wp.bnd R1 w1).imp fun l ρ2 G2 H2 s2 ⟨S2, R2, w2⟩ => ⟨ρ2, G2, s2, R2, (Wp.bnd R2 w2).imp fun u ρ3 G3 H3 s3 ⟨S3, R3, w3⟩ => by
      obtain ⟨w, st', e, q⟩ := Wp.lft w3
      have rv3 : RepW c ρ3 G3 z v := (rv.mono S2.rho S2.same).mono S3.rho S3.same
      have r := R3.rs
      rw [h.K]
      unfold sliceA at e
      split at e
      · split at e
        · rename_i y _ hl
          cases e
          cases rv3
          exact .inr (.inr ⟨_, rfl, by rw [sizeLine_eq]; assumption, q ρ3 G3 H3 Stp.refl R3 _ (.str _)⟩)
        · cases e
      · split at e
        · cases e
        · rename_i hn
          cases e
          cases rv3 with
          | tup ht hr =>
            rename_i a us
            refine .inr (.inl ⟨a, us, rfl, SqT.same r.sub ht, by rw [hr.len]; exact hn, fun p hp => ?_⟩)
            obtain ⟨S4, r4⟩ := new_frozen (o := .tup (cutV us l u)) r hp
            refine q ρ3 _ _ S4 ⟨r4, R3.env.mono S4.rho S4.same, R3.len⟩ _ (.tup (SqT.of upd_same) (RepDs.mono S4.same ?_))
            have := rep_cut (lo := l) (hi := u) (RepWs.ofD (ρ := ρ3) hr)
            rw [cutW_D] at this
            exact RepWs.toD this
      · cases el : listW s3.st z with
        | none => simp only [el] at e; cases e
        | some ws =>
          simp only [el] at e
          obtain ⟨a, us, rfl, h1, h3⟩ := listW_ok r rv3 el
          refine .inl ⟨a, us, rfl, h1, fun p hp => ?_⟩
          obtain ⟨ρ', G', S4, r4, rw4⟩ := newL_ok r (rep_cut (lo := l) (hi := u) h3) e hp
          exact q ρ' G' _ S4 ⟨r4, R3.env.mono S4.rho S4.same, R3.len⟩ _ rw4⟩⟩⟩
/-! ### displays -/
def tupE (m : EM (List W)) : EM W := bnd (treesE m) fun ds => if ds.length ≤ 16777216 then pur' ds else non
where pur' (ds : List D) : EM W := pur (.d (.tup ds))
def lstE (own : Bool) (m : EM (List W)) : EM W := bnd m fun ws => if ws.length ≤ 16777216 then lft (newL own ws) else non
theorem ee_tup {k} (h : EA c X U es m) : EE c X U (.Tuple es k pos) (tupE m) :=
  EE.mk1 h.K (pe_tup h.pa) fun ρ G s σ H Q hR w => ⟨ρ, G, s, hR, (wp_trees hR w).imp fun ws ρ1 G1 H1 s1 ⟨ds, ew, S1, R1, w1⟩ vs rvs => by
    subst ew
    by_cases hl : ds.length ≤ 16777216
    · rw [if_pos hl] at w1
      have rd := RepWs.toD rvs
      refine ⟨by rw [rd.len, sizeLine_eq]; exact hl, fun p hp => ?_⟩
      obtain ⟨S2, r2⟩ := new_frozen (o := .tup vs) R1.rs hp
      exact Wp.okE (s' := s1) (a := W.d (.tup ds)) rfl w1 ρ1 _ _ S2 ⟨r2, R1.env.mono S2.rho S2.same, R1.len⟩ _ (.tup (SqT.of upd_same) (rd.mono S2.same))
    · rw [if_neg hl] at w1
      exact w1.none rfl⟩
theorem ee_lst {own : Bool} (h : EA c X U es m) : EE c X U (.List es pos) (lstE own m) :=
  EE.mk1 h.K (pe_lst h.pa) fun ρ G s σ H Q hR w => ⟨ρ, G, s, hR, (Wp.bnd hR w).imp fun ws ρ1 G1 H1 s1 ⟨S1, R1, w1⟩ vs rvs => by
    by_cases hl : ws.length ≤ 16777216
    · rw [if_pos hl] at w1
      refine ⟨by rw [rvs.len, sizeLine_eq]; exact hl, fun p hp => ?_⟩
      obtain ⟨w, st', e, q⟩ := Wp.lft w1
      obtain ⟨ρ', G', S2, r2, rw2⟩ := newL_ok R1.rs rvs e hp
      exact q ρ' G' _ S2 ⟨r2, R1.env.mono S2.rho S2.same, R1.len⟩ _ rw2
    · rw [if_neg hl] at w1
      exact w1.none rfl⟩
/-! ### fields -/
def fget : List Nat → List W → Nat → Option W
  | k :: ks, w :: ws, i => if k = i then some w else fget ks ws i
  | _, _, _ => none
def fput : List Nat → List W → Nat → W → List Nat × List W
  | k :: ks, w :: ws, i, y => if k = i then (k :: ks, y :: ws) else let r := fput ks ws i y; (k :: r.1, w :: r.2)
  | _, _, i, y => ([i], [y])
def insW (st : Store) : W → Option (Nat × List Nat × List W)
  | .d (.ins k ks ds) => some (k, ks, ds.map .d)
  | .d _ => none
  | .loc n => match st[n]? with
    | some (some (.ins k ks ws)) => some (k, ks, ws)
    | _ => none
theorem insW_ok {ρ : Rho} {G H : Hp} {st : Store} {w : W} {v : V} {k : Nat} {ks : List Nat} {ws : List W} (r : RS c ρ G H st) (rv : RepW c ρ G w v) (e : insW st w = some (k, ks, ws)) :
    ∃ (a C dx : Addr) (vs : List V), v = .ref a ∧ c.ct[k]? = some C ∧ FOk c C ks ∧ H a = some (.ins C dx ((ks.map c.nm).zip vs)) ∧ ks.length = ws.length ∧ RepWs c ρ G ws vs := by
  cases w with
  | d x =>
    cases x with
    | ins k' ks' ds =>
      cases e
      cases rv with
      | ins hC hF h h2 hl hr => exact ⟨_, _, _, _, rfl, hC, hF, r.sub _ _ h, by rw [List.length_map]; exact hl, RepWs.ofD hr⟩
    | _ => cases e
  | loc n =>
    obtain ⟨p, hp, rfl⟩ := rv
    unfold insW at e
    cases ho : st[n]? with
    | none => simp only [ho] at e; cases e
    | some o =>
      cases o with
      | none => simp only [ho] at e; cases e
      | some o =>
        cases o with
        | ins k' ks' ws' =>
          simp only [ho] at e
          cases e
          obtain ⟨_, _, hl, C, vs, hC, hF, h, _, hr⟩ := r.own n p _ hp ho
          exact ⟨p.1, C, p.2, vs, rfl, hC, hF, h, hl, hr⟩
        | lst _ => simp only [ho] at e; cases e
        | dct _ _ => simp only [ho] at e; cases e
        | tup _ => simp only [ho] at e; cases e
theorem nm_inj {i j : Nat} (hi : i < c.fn.length) (hj : j < c.fn.length) (e : c.nm i = c.nm j) : i = j := by
  unfold Kx.nm at e
  rw [List.getD_eq_getElem?_getD, List.getD_eq_getElem?_getD, List.getElem?_eq_getElem hi, List.getElem?_eq_getElem hj] at e
  exact (List.getElem_inj c.nd).mp e
theorem fget_ok {ρ : Rho} {G : Hp} {i : Nat} {w : W} (hi : i < c.fn.length) : ∀ {ks : List Nat} {ws : List W} {vs : List V}, (∀ k ∈ ks, k < c.fn.length) → RepWs c ρ G ws vs → fget ks ws i = some w → i ∈ ks ∧ ∃ v, ((ks.map c.nm).zip vs).lookup (c.nm i) = some v ∧ RepW c ρ G w v
  | [], _, _, _, _, e => by unfold fget at e; cases e
  | k :: ks, [], _, _, _, e => by unfold fget at e; cases e
  | k :: ks, w' :: ws, _, hk, ⟨v, vs, q, h, t⟩, e => by
    subst q
    unfold fget at e
    show _ ∧ ∃ v', (match c.nm i == c.nm k with | true => some v | false => ((ks.map c.nm).zip vs).lookup (c.nm i)) = some v' ∧ _
    by_cases z : k = i
    · rw [if_pos z] at e
      cases e
      subst z
      exact ⟨List.mem_cons_self, v, by simp, h⟩
    · rw [if_neg z] at e
      obtain ⟨h1, v', h2, h3⟩ := fget_ok hi (fun k' h' => hk k' (List.mem_cons_of_mem _ h')) t e
      have ne : (c.nm i == c.nm k) = false := beq_eq_false_iff_ne.mpr fun e => z (nm_inj hi (hk k List.mem_cons_self) e).symm
      rw [ne]
      exact ⟨List.mem_cons_of_mem _ h1, v', h2, h3⟩
def fldE (i : Nat) (m : EM W) : EM W := bnd m fun w => fun s => match insW s.st w with
  | some (_, ks, ws) => match fget ks ws i with
    | some y => some (.ok y, s)
    | none => none
  | none => none
theorem ee_fld {i : Nat} (hf : c.fn[i]? = some f) (h : EE c X U e me) (ha : attributeBase e f X.env (eval e X.env) = eval e X.env := by rfl) : EE c X U (.Attribute e f pos) (fldE i me) :=
  EE.mk1 h.K (pe_fld h.pe ha) fun ρ G s σ H Q hR w => ⟨ρ, G, s, hR, (Wp.bnd hR w).imp fun z ρ1 G1 H1 s1 ⟨S1, R1, w1⟩ v rv => by
    cases e1 : insW s1.st z with
    | none => exact w1.none (by simp only [e1])
    | some q =>
      obtain ⟨k, ks, ws⟩ := q
      cases e2 : fget ks ws i with
      | none => exact w1.none (by simp only [e1, e2])
      | some y =>
        obtain ⟨a, C, dx, vs, rfl, hC, hF, hH, hl, hr⟩ := insW_ok R1.rs rv e1
        have hi : i < c.fn.length := (List.getElem?_eq_some_iff.mp hf).1
        obtain ⟨h1, u, h2, h3⟩ := fget_ok hi (fun k hk => (hF.2 k hk).1) hr e2
        have en : c.nm i = f := by
          unfold Kx.nm
          rw [List.getD_eq_getElem?_getD, hf]
          rfl
        rw [en] at h2
        refine ⟨a, C, dx, _, u, rfl, hH, by rw [h.K]; exact hF.1, ?_, h2, w1.same R1 (by simp only [e1, e2]) u h3⟩
        have := (hF.2 i h1).2
        rw [en] at this
        rw [h.K]
        exact this⟩
theorem putF_ok {ρ : Rho} {G : Hp} {i : Nat} {y : W} {u : V} (hi : i < c.fn.length) (hy : RepW c ρ G y u) : ∀ {ks : List Nat} {ws : List W} {vs : List V}, (∀ k ∈ ks, k < c.fn.length) → ks.length = ws.length → RepWs c ρ G ws vs →
    ∃ vs', putF (c.nm i) u ((ks.map c.nm).zip vs) = (((fput ks ws i y).1).map c.nm).zip vs' ∧ RepWs c ρ G (fput ks ws i y).2 vs' ∧ (fput ks ws i y).1.length = (fput ks ws i y).2.length ∧ ∀ k ∈ (fput ks ws i y).1, k ∈ ks ∨ k = i
  | [], [], _, _, _, h => by
    have h : _ = [] := h
    subst h
    exact ⟨[u], rfl, ⟨u, [], rfl, hy, rfl⟩, rfl, fun k hk => .inr (by simpa [fput] using hk)⟩
  | [], _ :: _, _, _, h, _ => by cases h
  | _ :: _, [], _, _, h, _ => by cases h
  | k :: ks, w :: ws, _, hk, hl, ⟨v, vs, q, h, t⟩ => by
    subst q
    unfold fput
    by_cases z : k = i
    · subst z
      rw [if_pos rfl]
      refine ⟨u :: vs, ?_, ⟨u, vs, rfl, hy, t⟩, hl, fun k' hk' => .inl hk'⟩
      show (if c.nm k = c.nm k then (c.nm k, u) :: _ else _) = _
      rw [if_pos rfl]
      rfl
    · rw [if_neg z]
      obtain ⟨vs', h1, h2, h3, h4⟩ := putF_ok hi hy (fun k' h' => hk k' (List.mem_cons_of_mem _ h')) (Nat.succ.inj hl) t
      refine ⟨v :: vs', ?_, ⟨v, vs', rfl, h, h2⟩, congrArg (· + 1) h3, fun k' hk' => ?_⟩
      · have ne : ¬ c.nm k = c.nm i := fun e => z (nm_inj (hk k List.mem_cons_self) hi e)
        show (if c.nm k = c.nm i then _ else (c.nm k, v) :: putF (c.nm i) u ((ks.map c.nm).zip vs)) = _
        rw [if_neg ne, h1]
        rfl
      · rcases List.mem_cons.mp hk' with e | e
        · exact .inl (by rw [e]; exact List.mem_cons_self)
        · rcases h4 k' e with e | e
          · exact .inl (List.mem_cons_of_mem _ e)
          · exact .inr e
/-- o.f = e: o an object of the store; its class may have the field -/
def sfldS (ok : List Nat) (i : Nat) (mo m : EM W) : EM Fl := bnd m fun y => bnd mo fun w => fun s => match w with
  | .loc n => match s.st[n]? with
    | some (some (.ins k ks ws)) => if ok.contains k && decide (ks.length < 900) then some (.ok .nx, ⟨s.env, s.st.set n (some (.ins k (fput ks ws i y).1 (fput ks ws i y).2))⟩) else none
    | _ => none
  | _ => none
theorem zip_len {ks : List Nat} {vs : List V} (h : ks.length ≤ 900) : ((ks.map c.nm).zip vs).length < 1000 := by
  rw [List.length_zip, List.length_map]
  omega
theorem es_sfld {ok : List Nat} {i : Nat} (hf : c.fn[i]? = some f) (hok : ∀ k C, ok.contains k = true → c.ct[k]? = some C → NoAttr c.K C f) (ho : EE c X U o mo) (h : EE c X U value me)
    (hs : swapsWith value (some (.Attribute o f pos')) pos.line X.env = pure false := by rfl) : ES c X U (.Assign [.Attribute o f pos'] value pos) (sfldS ok i mo me) :=
  ⟨h.K, PS.imp (ps_fld ho.pe h.pe hs) fun D σ H ⟨ρ, G, s, hR, w⟩ => ⟨ρ, G, s, hR, (Ws.bndE hR w).imp fun y ρ1 G1 H1 s1 ⟨S1, R1, w1⟩ u ru =>
    ⟨ρ1, G1, s1, R1, (Ws.bndE R1 w1).imp fun z ρ2 G2 H2 s2 ⟨S2, R2, w2⟩ v rv => by
      cases z with
      | d _ => exact w2.none rfl
      | loc n =>
        cases ho2 : s2.st[n]? with
        | none => exact w2.none (by simp only [ho2])
        | some oo =>
          cases oo with
          | none => exact w2.none (by simp only [ho2])
          | some oo =>
            cases oo with
            | lst _ => exact w2.none (by simp only [ho2])
            | dct _ _ => exact w2.none (by simp only [ho2])
            | tup _ => exact w2.none (by simp only [ho2])
            | ins k ks ws =>
              by_cases hk : (ok.contains k && decide (ks.length < 900)) = true
              · obtain ⟨p, hp, rfl⟩ := rv
                have hi : i < c.fn.length := (List.getElem?_eq_some_iff.mp hf).1
                have en : c.nm i = f := by
                  unfold Kx.nm
                  rw [List.getD_eq_getElem?_getD, hf]
                  rfl
                obtain ⟨_, _, hl, C, vs, hC, hF, hH, hO, hr⟩ := R2.rs.own n p _ hp ho2
                have hk2 := Bool.and_eq_true_iff.mp hk
                have na := hok k C hk2.1 hC
                obtain ⟨vs', h1, h2, h3, h4⟩ := putF_ok hi (ru.mono S2.rho S2.same) (fun k hk => (hF.2 k hk).1) hl hr
                refine ⟨p.1, C, p.2, _, rfl, hH, by rw [h.K]; exact hF.1, by rw [h.K]; exact na, zip_len (by have := of_decide_eq_true hk2.2; omega), ?_⟩
                rw [← en, h1]
                have hF' : FOk c C (fput ks ws i y).1 := ⟨hF.1, fun j hj => by
                  rcases h4 j hj with e | e
                  · exact hF.2 j e
                  · rw [e, en]; exact ⟨hi, na⟩⟩
                obtain ⟨S3, r3⟩ := written (u := .ins C p.2 ((((fput ks ws i y).1).map c.nm).zip vs')) R2.rs hp ho2 (o' := .ins k (fput ks ws i y).1 (fput ks ws i y).2) ⟨h3, C, vs', hC, hF', upd_same, by
                  have ne : p.2 ≠ p.1 := fun e => by rw [e, hH] at hO; cases hO
                  rw [upd_ne ne]; exact hO, h2⟩
                unfold Ws at w2
                simp only [ho2, hk, if_true] at w2
                exact w2 ρ2 G2 σ _ S3 ⟨r3, R2.env, R2.len⟩
              · exact w2.none (by simp only [ho2, if_neg hk])⟩⟩⟩
end
end EV
/-! EV11: what a loop walks; comprehensions. -/
namespace EV
open PySem PySem.Spec PyProof.Rows L2
section
variable {c : Kx} {X : Cx} {U : WX} {e o a b tg iter : Expr} {es : List Expr} {x f : Str} {p p2 pos pos' tpos : Pos} {m : EM (List W)} {ma mb mi mo me : EM W}
theorem Wp.exE {α : Type} {mm : EM α} {ρ : Rho} {G H : Hp} {σ : L2.St} {s s' : SS} {k k' : α → Rho → Hp → Hp → SS → Prop} {C : Nat} {ks : List Nat} {ds : List D} (e : mm s = some (.ex C ks ds, s')) (h : Wp c U mm ρ G σ H s k) : Wp c U mm ρ G σ H s k' := by
  unfold Wp at h ⊢
  rw [e] at h ⊢
  exact h
theorem PI.imp {w1 w2 : TI} (h : PI X tg iter w1) (q : ∀ σ H Rk, w2 σ H Rk → w1 σ H Rk) : PI X tg iter w2 := ⟨fun pins s σ H Rk I x => h.run pins s σ H Rk I (q σ H Rk x)⟩
theorem PI.or {w1 w2 : TI} (h1 : PI X tg iter w1) (h2 : PI X tg iter w2) : PI X tg iter (fun σ H Rk => w1 σ H Rk ∨ w2 σ H Rk) := ⟨fun pins s σ H Rk I x => x.elim (h1.run pins s σ H Rk I) (h2.run pins s σ H Rk I)⟩
/-- the items of a tree -/
def itemsD : D → Option (List D)
  | .lst ds => some ds
  | .fls ds => some ds
  | .tup ds => some ds
  | .str z => some (z.cps.toList.map fun k => .str ⟨#[k]⟩)
  | _ => none
def itemsE (m : EM W) : EM (List D) := bnd m fun w => match w with
  | .d x => match itemsD x with
    | some ds => pur ds
    | none => non
  | .loc _ => non
theorem iter_list {G : Hp} {a : Addr} {ds : List D} {vs : List V} (h : SqL c.K G a vs) (r : RepDs c G ds vs) : Iter c G (Itl c.K a) ds where
  go := fun i H s hi => by
    obtain ⟨v, h1, _⟩ := r.get (List.getElem?_eq_getElem hi)
    exact ⟨vs, v, s.seq h, h1⟩
  stop := fun H s => ⟨vs, s.seq h, by rw [r.len]; exact Nat.le_refl _⟩
  yld := fun i H x H' d s hd hy ρ G1 st sG rs => by
    obtain ⟨e, hy⟩ := hy
    subst e
    obtain ⟨v, h1, h2⟩ := r.get hd
    have := hy vs (s.seq h)
    rw [h1] at this
    cases this
    exact ⟨G1, Stp.refl, rs, h2.mono sG⟩
theorem iter_tup {G : Hp} {a : Addr} {ds : List D} {vs : List V} (h : SqT c.K G a vs) (r : RepDs c G ds vs) : Iter c G (Itt c.K a) ds where
  go := fun i H s hi => by
    obtain ⟨v, h1, _⟩ := r.get (List.getElem?_eq_getElem hi)
    exact ⟨vs, v, SqT.same s h, h1⟩
  stop := fun H s => ⟨vs, SqT.same s h, by rw [r.len]; exact Nat.le_refl _⟩
  yld := fun i H x H' d s hd hy ρ G1 st sG rs => by
    obtain ⟨e, hy⟩ := hy
    subst e
    obtain ⟨v, h1, h2⟩ := r.get hd
    have := hy vs (SqT.same s h)
    rw [h1] at this
    cases this
    exact ⟨G1, Stp.refl, rs, h2.mono sG⟩
theorem iter_str {G : Hp} {z : Str} : Iter c G (Its z) (z.cps.toList.map fun k => .str ⟨#[k]⟩) where
  go := fun i H s hi => by
    rw [List.length_map] at hi
    show i < z.cps.size
    simpa using hi
  stop := fun H s => by
    show z.cps.size ≤ _
    simp
  yld := fun i H x H' d s hd hy ρ G1 st sG rs => by
    obtain ⟨e, k, hk, hx⟩ := hy
    subst e
    rw [List.getElem?_map] at hd
    have e2 : z.cps.toList[i]? = some k := by simpa using hk
    rw [e2] at hd
    cases hd
    subst hx
    exact ⟨G1, Stp.refl, rs, .str _⟩
theorem iter_range {G : Hp} {lo : Int} {n : Nat} : Iter c G (Itr lo n) ((List.range n).map fun (i : Nat) => D.int (lo + (i : Int))) where
  go := fun i H s hi => by
    rw [List.length_map, List.length_range] at hi
    exact hi
  stop := fun H s => by
    show n ≤ _
    simp
  yld := fun i H x H' d s hd hy ρ G1 st sG rs => by
    obtain ⟨e, hx⟩ := hy
    subst e
    rw [List.getElem?_map] at hd
    cases q : (List.range n)[i]? with
    | none => rw [q] at hd; cases hd
    | some j =>
      rw [q] at hd
      cases hd
      have : j = i := by
        have := List.getElem?_eq_some_iff.mp q
        obtain ⟨_, e⟩ := this
        simp at e
        exact e.symm
      subst this
      subst hx
      exact ⟨G1, Stp.refl, rs, .int _⟩
theorem ei_seq (h : EE c X U e me) : EI c X U tg e (itemsE me) :=
  ⟨h.K, PI.imp (PI.or (pi_list h.pe) (PI.or (pi_tup h.pe) (pi_str h.pe))) fun σ H Rk ⟨ρ, G, s, hR, w⟩ => by
    have w1 := Wp.bnd hR w
    cases q : me s with
    | none => exact w1.none q
    | some z =>
      obtain ⟨o, s1⟩ := z
      cases o with
      | ex C ks es => exact .inl ⟨ρ, G, s, hR, Wp.exE q w1⟩
      | ok y =>
        have w2 := Wp.okE q w1
        cases y with
        | loc n => exact .inl ⟨ρ, G, s, hR, Wp.ok q fun ρ' G' H' S R' => (w2 ρ' G' H' S R').2.2.none rfl⟩
        | d y =>
          cases hy : itemsD y with
          | none => exact .inl ⟨ρ, G, s, hR, Wp.ok q fun ρ' G' H' S R' => (w2 ρ' G' H' S R').2.2.none (by simp only [hy]; rfl)⟩
          | some ds =>
            simp only [hy] at w2
            rw [h.K]
            cases y with
            | lst xs =>
              cases hy
              refine .inl ⟨ρ, G, s, hR, Wp.ok q fun ρ' G' H' S R' v rv => ?_⟩
              cases rv with
              | lst hg hr => exact ⟨_, rfl, ⟨_, SqL.of (R'.rs.sub _ _ hg)⟩, Wp.pur R' (w2 ρ' G' H' S R').2.2 _ (iter_list (SqL.of hg) hr)⟩
            | fls xs =>
              cases hy
              refine .inl ⟨ρ, G, s, hR, Wp.ok q fun ρ' G' H' S R' v rv => ?_⟩
              cases rv with
              | fls hg hr => exact ⟨_, rfl, ⟨_, R'.rs.sub.seq hg⟩, Wp.pur R' (w2 ρ' G' H' S R').2.2 _ (iter_list hg hr)⟩
            | tup xs =>
              cases hy
              refine .inr (.inl ⟨ρ, G, s, hR, Wp.ok q fun ρ' G' H' S R' v rv => ?_⟩)
              cases rv with
              | tup hg hr => exact ⟨_, rfl, ⟨_, SqT.same R'.rs.sub hg⟩, Wp.pur R' (w2 ρ' G' H' S R').2.2 _ (iter_tup hg hr)⟩
            | str z =>
              cases hy
              refine .inr (.inr ⟨ρ, G, s, hR, Wp.ok q fun ρ' G' H' S R' v rv => ?_⟩)
              cases rv
              exact ⟨z, rfl, Wp.pur R' (w2 ρ' G' H' S R').2.2 _ iter_str⟩
            | _ => cases hy⟩
def rngL (lo : Int) (n : Nat) : List D := (List.range n).map fun (i : Nat) => D.int (lo + (i : Int))
def range1E (m : EM (List W)) : EM (List D) := bnd m fun ws => match ws with
  | [.d (.int j)] => if j < 1000000000 ∧ -1000000000 < j then pur (rngL 0 j.toNat) else non
  | _ => non
def range2E (m : EM (List W)) : EM (List D) := bnd m fun ws => match ws with
  | [.d (.int i), .d (.int j)] => if (j < 1000000000 ∧ -1000000000 < j) ∧ i < 1000000000 ∧ -1000000000 < i then pur (rngL i (j - i).toNat) else non
  | _ => non
theorem ei_range1 (hg : Gl X "range") (hm : X.mg "range" = none) (ha : EA c X U [a] m) (hs : starEach [a] X.env = [(false, eval a X.env)] := by rfl) : EI c X U tg (.Call (.Name "range" p) [a] [] pos) (range1E m) :=
  ⟨ha.K, PI.imp (pi_range1 hg hm ha.pa hs) fun σ H Rk ⟨ρ, G, s, hR, w⟩ => ⟨ρ, G, s, hR, (Wp.bnd hR w).imp fun ws ρ1 G1 H1 s1 ⟨S1, R1, w1⟩ vs rvs => by
    split at w1
    · rename_i j _
      split at w1
      · rename_i hj
        obtain ⟨v, rfl, rv⟩ := one_rep rvs
        cases rv
        exact ⟨j, rfl, by omega, by omega, Wp.pur R1 w1 _ iter_range⟩
      · exact w1.none rfl
    · exact w1.none rfl⟩⟩
theorem ei_range2 (hg : Gl X "range") (hm : X.mg "range" = none) (ha : EA c X U [a, b] m) (hs : starEach [a, b] X.env = [(false, eval a X.env), (false, eval b X.env)] := by rfl) (hs2 : starEach [b] X.env = [(false, eval b X.env)] := by rfl) : EI c X U tg (.Call (.Name "range" p) [a, b] [] pos) (range2E m) :=
  ⟨ha.K, PI.imp (pi_range2 hg hm ha.pa hs hs2) fun σ H Rk ⟨ρ, G, s, hR, w⟩ => ⟨ρ, G, s, hR, (Wp.bnd hR w).imp fun ws ρ1 G1 H1 s1 ⟨S1, R1, w1⟩ vs rvs => by
    split at w1
    · rename_i i j _
      split at w1
      · rename_i hj
        obtain ⟨v, v', rfl, rv, rv'⟩ := two_rep rvs
        cases rv
        cases rv'
        exact ⟨i, j, rfl, by omega, Wp.pur R1 w1 _ iter_range⟩
      · exact w1.none rfl
    · exact w1.none rfl⟩⟩
/-! zip, enumerate, reversed: of lists -/
def listD : D → Option (List D)
  | .lst ds => some ds
  | .fls ds => some ds
  | _ => none
theorem listD_ok {G : Hp} {d : D} {ds : List D} {v : V} (e : listD d = some ds) (r : RepD c G d v) : ∃ a vs, v = .ref a ∧ SqL c.K G a vs ∧ RepDs c G ds vs := by
  cases r <;> cases e
  · rename_i h r; exact ⟨_, _, rfl, SqL.of h, r⟩
  · rename_i h r; exact ⟨_, _, rfl, h, r⟩
def zipD : List D → List D → List D
  | x :: xs, y :: ys => .tup [x, y] :: zipD xs ys
  | _, _ => []
theorem zipD_len : ∀ (xs ys : List D), (zipD xs ys).length = min xs.length ys.length
  | [], _ => by simp [zipD]
  | _ :: _, [] => by simp [zipD]
  | x :: xs, y :: ys => by simp [zipD, zipD_len xs ys]
theorem zipD_get : ∀ {xs ys : List D} {i : Nat} {d : D}, (zipD xs ys)[i]? = some d → ∃ x y, xs[i]? = some x ∧ ys[i]? = some y ∧ d = .tup [x, y]
  | [], _, _, _, h => by simp [zipD] at h
  | _ :: _, [], _, _, h => by simp [zipD] at h
  | x :: xs, y :: ys, 0, d, h => ⟨x, y, rfl, rfl, by simpa [zipD] using h.symm⟩
  | x :: xs, y :: ys, i + 1, d, h => by
    obtain ⟨x', y', h1, h2, h3⟩ := zipD_get (xs := xs) (ys := ys) (i := i) (d := d) (by simpa [zipD] using h)
    exact ⟨x', y', by simpa using h1, by simpa using h2, h3⟩
theorem iter_zip {G : Hp} {a b : Addr} {xs ys : List D} {vs us : List V} (h : SqL c.K G a vs) (r : RepDs c G xs vs) (h' : SqL c.K G b us) (r' : RepDs c G ys us) : Iter c G (Itz c.K a b) (zipD xs ys) where
  go := fun i H s hi => by
    rw [zipD_len] at hi
    obtain ⟨v, h1, _⟩ := r.get (List.getElem?_eq_getElem (show i < xs.length by omega))
    obtain ⟨u, h2, _⟩ := r'.get (List.getElem?_eq_getElem (show i < ys.length by omega))
    exact ⟨vs, us, v, u, s.seq h, s.seq h', h1, h2⟩
  stop := fun H s => ⟨vs, us, s.seq h, s.seq h', by rw [zipD_len, r.len, r'.len]; omega⟩
  yld := fun i H x H' d s hd hy ρ G1 st sG rs => by
    obtain ⟨T, x', y', rfl, hT, rfl, e1, e2⟩ := hy
    obtain ⟨dx, dy, g1, g2, rfl⟩ := zipD_get hd
    obtain ⟨v, h1, k1⟩ := r.get g1
    obtain ⟨u, h2, k2⟩ := r'.get g2
    have z1 := e1 vs (s.seq h)
    have z2 := e2 us (s.seq h')
    rw [h1] at z1
    rw [h2] at z2
    have z1 := Option.some.inj z1
    have z2 := Option.some.inj z2
    rw [z1] at k1
    rw [z2] at k2
    obtain ⟨S, r2⟩ := new_frozen (o := .tup [x', y']) rs hT
    exact ⟨_, S, r2, .tup (SqT.of upd_same) (.cons ((k1.mono sG).mono S.same) (.cons ((k2.mono sG).mono S.same) .nil))⟩
def enumD (n : Nat) : List D → List D
  | [] => []
  | x :: xs => .tup [.int n, x] :: enumD (n + 1) xs
theorem enumD_len : ∀ (n : Nat) (xs : List D), (enumD n xs).length = xs.length
  | _, [] => rfl
  | n, x :: xs => by simp [enumD, enumD_len (n + 1) xs]
theorem enumD_get : ∀ {n : Nat} {xs : List D} {i : Nat} {d : D}, (enumD n xs)[i]? = some d → ∃ x, xs[i]? = some x ∧ d = .tup [.int (n + i : Nat), x]
  | _, [], _, _, h => by simp [enumD] at h
  | n, x :: xs, 0, d, h => ⟨x, rfl, by simpa [enumD] using h.symm⟩
  | n, x :: xs, i + 1, d, h => by
    obtain ⟨x', h1, h2⟩ := enumD_get (n := n + 1) (xs := xs) (i := i) (d := d) (by simpa [enumD] using h)
    refine ⟨x', by simpa using h1, ?_⟩
    rw [h2]
    have : n + 1 + i = n + (i + 1) := by omega
    rw [this]
theorem iter_enum {G : Hp} {a : Addr} {xs : List D} {vs : List V} (h : SqL c.K G a vs) (r : RepDs c G xs vs) : Iter c G (Ite c.K a) (enumD 0 xs) where
  go := fun i H s hi => by
    rw [enumD_len] at hi
    obtain ⟨v, h1, _⟩ := r.get (List.getElem?_eq_getElem hi)
    exact ⟨vs, v, s.seq h, h1⟩
  stop := fun H s => ⟨vs, s.seq h, by rw [enumD_len, r.len]; exact Nat.le_refl _⟩
  yld := fun i H x H' d s hd hy ρ G1 st sG rs => by
    obtain ⟨T, x', rfl, hT, rfl, e1⟩ := hy
    obtain ⟨dx, g1, rfl⟩ := enumD_get hd
    obtain ⟨v, h1, k1⟩ := r.get g1
    have z1 := e1 vs (s.seq h)
    rw [h1] at z1
    have z1 := Option.some.inj z1
    rw [z1] at k1
    obtain ⟨S, r2⟩ := new_frozen (o := .tup [V.int i, x']) rs hT
    refine ⟨_, S, r2, .tup (SqT.of upd_same) (.cons ?_ (.cons ((k1.mono sG).mono S.same) .nil))⟩
    rw [Nat.zero_add]
    exact .int _
theorem iter_rev {G : Hp} {a : Addr} {xs : List D} {vs : List V} (h : SqL c.K G a vs) (r : RepDs c G xs vs) : Iter c G (Itv c.K a vs.length) xs.reverse where
  go := fun i H s hi => by
    rw [List.length_reverse] at hi
    obtain ⟨v, h1, _⟩ := r.get (List.getElem?_eq_getElem (show xs.length - 1 - i < xs.length by omega))
    exact ⟨by rw [r.len]; exact hi, vs, v, s.seq h, by rw [r.len]; exact h1⟩
  stop := fun H s => by
    show vs.length ≤ _
    rw [List.length_reverse, r.len]
    exact Nat.le_refl _
  yld := fun i H x H' d s hd hy ρ G1 st sG rs => by
    obtain ⟨e, hy⟩ := hy
    subst e
    have hi : i < xs.length := by
      have := (List.getElem?_eq_some_iff.mp hd).1
      simpa using this
    rw [List.getElem?_reverse hi] at hd
    obtain ⟨v, h1, h2⟩ := r.get hd
    have := hy vs (s.seq h)
    rw [r.len, h1] at this
    cases this
    exact ⟨G1, Stp.refl, rs, h2.mono sG⟩
def zipE (m : EM (List W)) : EM (List D) := bnd (treesE m) fun ds => match ds with
  | [x, y] => match listD x, listD y with
    | some xs, some ys => pur (zipD xs ys)
    | _, _ => non
  | _ => non
def enumE (m : EM (List W)) : EM (List D) := bnd (treesE m) fun ds => match ds with
  | [x] => match listD x with
    | some xs => pur (enumD 0 xs)
    | none => non
  | _ => non
def revE (m : EM (List W)) : EM (List D) := bnd (treesE m) fun ds => match ds with
  | [x] => match listD x with
    | some xs => pur xs.reverse
    | none => non
  | _ => non
theorem ei_zip {elts : List Expr} {kk : Nat} (hg : Gl X "zip") (hm : X.mg "zip" = none) (ha : EA c X U [a, b] m) (hs : starEach [a, b] X.env = (false, eval a X.env) :: starEach [b] X.env := by rfl) (hpl : (backTo pos (starEach [b] X.env)).any (fun x => x.1) = false := by rfl) :
    EI c X U (.Tuple elts kk tpos) (.Call (.Name "zip" p) [a, b] [] pos) (zipE m) :=
  ⟨ha.K, PI.imp (pi_zip hg hm ha.pa hs hpl) fun σ H Rk ⟨ρ, G, s, hR, w⟩ => ⟨ρ, G, s, hR, (wp_trees hR w).imp fun ws ρ1 G1 H1 s1 ⟨ds, ew, S1, R1, w1⟩ vs rvs => by
    subst ew
    split at w1
    · rename_i x y
      split at w1
      · rename_i xs ys hx hy
        obtain ⟨v, v', rfl, rv, rv'⟩ := two_rep rvs
        obtain ⟨a1, u1, rfl, g1, r1⟩ := listD_ok hx rv
        obtain ⟨a2, u2, rfl, g2, r2⟩ := listD_ok hy rv'
        rw [ha.K]
        exact ⟨a1, a2, u1, u2, rfl, R1.rs.sub.seq g1, R1.rs.sub.seq g2, Wp.pur R1 w1 _ (iter_zip g1 r1 g2 r2)⟩
      · exact w1.none rfl
    · exact w1.none rfl⟩⟩
theorem ei_enum {elts : List Expr} {kk : Nat} (hg : Gl X "enumerate") (hm : X.mg "enumerate" = none) (ha : EA c X U [a] m) (hs : starEach [a] X.env = [(false, eval a X.env)] := by rfl) :
    EI c X U (.Tuple elts kk tpos) (.Call (.Name "enumerate" p) [a] [] pos) (enumE m) :=
  ⟨ha.K, PI.imp (pi_enum hg hm ha.pa hs) fun σ H Rk ⟨ρ, G, s, hR, w⟩ => ⟨ρ, G, s, hR, (wp_trees hR w).imp fun ws ρ1 G1 H1 s1 ⟨ds, ew, S1, R1, w1⟩ vs rvs => by
    subst ew
    split at w1
    · rename_i x
      split at w1
      · rename_i xs hx
        obtain ⟨v, rfl, rv⟩ := one_rep rvs
        obtain ⟨a1, u1, rfl, g1, r1⟩ := listD_ok hx rv
        rw [ha.K]
        exact ⟨a1, u1, rfl, R1.rs.sub.seq g1, Wp.pur R1 w1 _ (iter_enum g1 r1)⟩
      · exact w1.none rfl
    · exact w1.none rfl⟩⟩
theorem ei_rev (hg : Gl X "reversed") (hm : X.mg "reversed" = none) (ha : EA c X U [a] m) (hs : starEach [a] X.env = [(false, eval a X.env)] := by rfl) : EI c X U tg (.Call (.Name "reversed" p) [a] [] pos) (revE m) :=
  ⟨ha.K, PI.imp (pi_reversed hg hm ha.pa hs) fun σ H Rk ⟨ρ, G, s, hR, w⟩ => ⟨ρ, G, s, hR, (wp_trees hR w).imp fun ws ρ1 G1 H1 s1 ⟨ds, ew, S1, R1, w1⟩ vs rvs => by
    subst ew
    split at w1
    · rename_i x
      split at w1
      · rename_i xs hx
        obtain ⟨v, rfl, rv⟩ := one_rep rvs
        obtain ⟨a1, u1, rfl, g1, r1⟩ := listD_ok hx rv
        rw [ha.K]
        exact ⟨a1, u1, rfl, R1.rs.sub.seq g1, Wp.pur R1 w1 _ (iter_rev g1 r1)⟩
      · exact w1.none rfl
    · exact w1.none rfl⟩⟩
end
end EV
/-! EV12: list comprehensions. -/
namespace EV
open PySem PySem.Spec PyProof.Rows L2
def wipeO (env : List (Option W)) : List Nat → List (Option W)
  | [] => env
  | v :: vs => (wipeO env vs).set v none
theorem wipeO_len (env : List (Option W)) : ∀ vs : List Nat, (wipeO env vs).length = env.length
  | [] => rfl
  | v :: vs => by
    unfold wipeO
    rw [List.length_set]
    exact wipeO_len env vs
def wipS (own : List Nat) : EM Unit := fun s => some (.ok (), ⟨wipeO s.env own, s.st⟩)
def compL (own : List Nat) (t : Tg) (tt : EM Bool) (el : EM W) : List D → List W → EM (List W)
  | [], acc => pur acc
  | d :: ds, acc => bnd (bnd (wipS own) fun _ => asg t (.d d)) fun _ => bnd tt fun b => if b then bnd el fun w => (if acc.length < 16777216 then compL own t tt el ds (acc ++ [w]) else non) else compL own t tt el ds acc
/-- [elt for t in .. if tt] -/
def compE (own : List Nat) (mi : EM (List D)) (t : Tg) (tt : EM Bool) (el : EM W) (ownr : Bool) : EM W := bnd mi fun ds => fun s => match compL own t tt el ds [] s with
  | some (.ok ws, s3) => match newL ownr ws s3.st with
    | some (w, st) => some (.ok w, ⟨wipeO s3.env own, st⟩)
    | none => none
  | _ => none
def hid (D : Addr) (H : Hp) : Hp := fun a => if a = D then none else H a
theorem hid_ne {D a : Addr} {H : Hp} (h : a ≠ D) : hid D H a = H a := if_neg h
theorem hid_same {D : Addr} {H : Hp} : hid D H D = none := if_pos rfl
theorem hid_some {D a : Addr} {H : Hp} {u : HO} (h : hid D H a = some u) : a ≠ D ∧ H a = some u := by
  by_cases e : a = D
  · subst e; rw [hid_same] at h; cases h
  · rw [hid_ne e] at h; exact ⟨e, h⟩
theorem hid_none {D a : Addr} {H : Hp} (h : H a = none) : hid D H a = none := by
  by_cases e : a = D
  · subst e; exact hid_same
  · rw [hid_ne e]; exact h
theorem hid_upd {D : Addr} {H : Hp} {u : HO} : hid D (upd H D u) = hid D H := by
  funext a
  by_cases e : a = D
  · subst e; rw [hid_same, hid_same]
  · rw [hid_ne e, hid_ne e, upd_ne e]
theorem upd_hid {D : Addr} {H : Hp} {u : HO} (h : H D = some u) : upd (hid D H) D u = H := by
  funext a
  by_cases e : a = D
  · subst e; rw [upd_same, h]
  · rw [upd_ne e, hid_ne e]
def NotOwn (D : Addr) (ρ : Rho) (st : Store) : Prop := ∀ (n : Nat) (p : Addr × Addr) (o : OO), ρ[n]? = some p → st[n]? = some (some o) → p.1 ≠ D ∧ p.2 ≠ D
section
variable {c : Kx} {ρ ρ' : Rho} {G H G' H' : Hp} {st st' : Store} {D : Addr} {u : HO}
theorem Stp.hid (S : Stp ρ G H st ρ' G' H' st') : Stp ρ G (hid D H) st ρ' G' (EV.hid D H') st' where
  same := S.same
  rho := S.rho
  live := S.live
  keep := fun a u h hn => by
    obtain ⟨e, h⟩ := hid_some h
    rw [hid_ne e]
    exact S.keep a u h hn
  there := fun a u h => by
    obtain ⟨e, h⟩ := hid_some h
    rw [hid_ne e]
    exact S.there a u h
  fresh := fun a u h h' => (S.fresh a u h h').imp (fun z => hid_none z) (fun z => z)
  new := fun n p hn hp => ⟨hid_none (S.new n p hn hp).1, hid_none (S.new n p hn hp).2⟩
theorem NotOwn.step (S : Stp ρ G H st ρ' G' H' st') (hD : H D = some u) (nD : NotOwn D ρ st) : NotOwn D ρ' st' := fun n p o hp ho => by
  by_cases hn : n < ρ.length
  · obtain ⟨o', e⟩ := S.live n o hn ho
    have e2 := S.rho n _ (List.getElem?_eq_getElem hn)
    rw [hp] at e2
    exact nD n p o' (by rw [List.getElem?_eq_getElem hn]; exact e2.symm) e
  · obtain ⟨e1, e2⟩ := S.new n p (by omega) hp
    exact ⟨fun e => (by rw [e, hD] at e1; cases e1), fun e => (by rw [e, hD] at e2; cases e2)⟩
theorem NotOwn.gn (S : Stp ρ G H st ρ' G' H' st') (hD : H D = some u) (nD : NotOwn D ρ st) (g : G D = none) : G' D = none := by
  cases q : G' D with
  | none => rfl
  | some w =>
    rcases S.fresh D w g q with z | ⟨n, p, o, h1, h2, h3⟩
    · rw [hD] at z; cases z
    · obtain ⟨a1, a2⟩ := nD n p o h1 h2
      rcases h3 with h3 | h3
      · exact absurd h3.symm a1
      · exact absurd h3.symm a2
theorem NotOwn.keep (S : Stp ρ G H st ρ' G' H' st') (hD : H D = some u) (nD : NotOwn D ρ st) : H' D = some u := S.keep D u hD fun n p o h1 h2 => nD n p o h1 h2
theorem RS.hid (r : RS c ρ G H st) (g : G D = none) (nD : NotOwn D ρ st) : RS c ρ G (EV.hid D H) st where
  sub := fun a u h => by
    have e : a ≠ D := fun e => by rw [e, g] at h; cases h
    rw [hid_ne e]
    exact r.sub a u h
  len := r.len
  own := fun n p o hp ho => by
    obtain ⟨b1, b2, b3⟩ := r.own n p o hp ho
    obtain ⟨a1, a2⟩ := nD n p o hp ho
    exact ⟨b1, b2, b3.mono (Rle.refl _) (Same.refl _) (fun o e => by rw [hid_ne a1]; exact e) (fun o e => by rw [hid_ne a2]; exact e)⟩
  inj := r.inj
theorem RS.upd (r : RS c ρ G H st) (g : G D = none) (nD : NotOwn D ρ st) : RS c ρ G (L2.upd H D u) st where
  sub := fun a w h => by
    rw [upd_ne (ne_of_none h g)]
    exact r.sub a w h
  len := r.len
  own := fun n p o hp ho => by
    obtain ⟨b1, b2, b3⟩ := r.own n p o hp ho
    obtain ⟨a1, a2⟩ := nD n p o hp ho
    exact ⟨b1, b2, b3.mono (Rle.refl _) (Same.refl _) (fun o e => by rw [upd_ne a1]; exact e) (fun o e => by rw [upd_ne a2]; exact e)⟩
  inj := r.inj
theorem EnvOk.wipe {env : List (Option W)} {σ : L2.St} (hl : env.length = σ.length) (h : EnvOk c ρ G env σ) : ∀ vs : List Nat, EnvOk c ρ G (wipeO env vs) (L2.wipe σ vs)
  | [] => h
  | v :: vs => fun i w e => by
    unfold wipeO at e
    unfold L2.wipe
    rcases get_set _ _ _ _ _ e with ⟨_, z, _⟩ | ⟨ne, z⟩
    · cases z
    · obtain ⟨u, h1, h2⟩ := EnvOk.wipe hl h vs i w z
      exact ⟨u, by rw [List.getElem?_set_ne (Ne.symm ne)]; exact h1, h2⟩
theorem wipe_set {σ : L2.St} {vs : List Nat} : ∀ (vs' : List Nat) (i : Nat) (x : Option V), i ∈ vs' → L2.wipe (σ.set i x) vs' = L2.wipe σ vs'
  | [], i, x, h => by cases h
  | v :: vs', i, x, h => by
    unfold L2.wipe
    by_cases hi : i ∈ vs'
    · rw [wipe_set (vs := vs) vs' i x hi]
    · have e : i = v := by
        rcases List.mem_cons.mp h with h | h
        · exact h
        · exact absurd h hi
      subst e
      have key : ∀ (vs' : List Nat) (σ : L2.St), i ∉ vs' → L2.wipe (σ.set i x) vs' = (L2.wipe σ vs').set i x := by
        intro vs'
        induction vs' with
        | nil => intro σ _; rfl
        | cons w ws ih =>
          intro σ hn
          unfold L2.wipe
          rw [ih σ fun h => hn (List.mem_cons_of_mem _ h)]
          rw [List.set_comm]
          exact fun e => hn (by rw [e]; exact List.mem_cons_self)
      rw [key vs' σ hi]
      simp
theorem wipe_all {vs : List Nat} : ∀ (is : List Nat) (ws : List V) (σ : L2.St), (∀ i ∈ is, i ∈ vs) → L2.wipe (setAll is ws σ) vs = L2.wipe σ vs
  | [], _, _, _ => rfl
  | _ :: _, [], _, _ => rfl
  | i :: is, w :: ws, σ, h => by
    unfold setAll
    rw [wipe_all is ws _ fun j hj => h j (List.mem_cons_of_mem _ hj)]
    exact wipe_set (σ := σ) (vs := vs) vs i (some w) (h i List.mem_cons_self)
theorem wipe_wipe {σ : L2.St} : ∀ (vs ws : List Nat), (∀ v ∈ vs, v ∈ ws) → L2.wipe (L2.wipe σ vs) ws = L2.wipe σ ws
  | [], _, _ => rfl
  | v :: vs, ws, h => by
    rw [show L2.wipe σ (v :: vs) = (L2.wipe σ vs).set v none from rfl]
    rw [wipe_set (vs := ws) ws v none (h v List.mem_cons_self)]
    exact wipe_wipe vs ws fun x hx => h x (List.mem_cons_of_mem _ hx)
end
abbrev U0 : WX := fun _ _ _ _ => False
/-- a clause's tests -/
structure ETs (c : Kx) (X : Cx) (ifs : List Expr) (m : EM Bool) : Prop where
  pt : PTs X ifs (tT c U0 m)
section
variable {c : Kx} {X : Cx} {U : WX} {tg iter elt t1 : Expr} {ifs : List Expr} {scope : Scope} {own : List (Str × Nat)} {pos : Pos} {mi : EM (List D)} {t : Tg} {tt : EM Bool} {el : EM W} {ownr : Bool}
theorem PTs.imp {ta tb : TT} (h : PTs X ifs ta) (q : ∀ σ H Q, tb σ H Q → ta σ H Q) : PTs X ifs tb := ⟨fun pins s σ H Q I x => h.run pins s σ H Q I (q σ H Q x)⟩
theorem ets_nil : ETs c X [] (pur true) := ⟨PTs.imp pts_nil fun σ H Q ⟨ρ, G, s, hR, w⟩ => Wp.pur hR w⟩
theorem ets_one {m : EM Bool} (h : ET c X U0 t1 m) : ETs c X [t1] m := ⟨pts_one h.pt⟩
theorem bnd_some {α β : Type} {m : EM α} {k : α → EM β} {s : SS} {b : β} {s2 : SS} (h : bnd m k s = some (.ok b, s2)) : ∃ a s1, m s = some (.ok a, s1) ∧ k a s1 = some (.ok b, s2) := by
  unfold bnd at h
  cases e : m s with
  | none => rw [e] at h; cases h
  | some p =>
    obtain ⟨o, s1⟩ := p
    rw [e] at h
    cases o with
    | ok a => exact ⟨a, s1, rfl, h⟩
    | ex _ _ _ => cases h
theorem wp_lc {ρ : Rho} {G H : Hp} {σ : L2.St} {s : SS} {Q : VK} (hsub : ∀ i ∈ t.is, i ∈ own.map (·.2)) (hR : R c ρ G σ H s) (w : Wp c U (compE (own.map (·.2)) mi t tt el ownr) ρ G σ H s (fun w ρ' G' H' _ => ∀ v, RepW c ρ' G' w v → Q v H')) :
    tLc (tI c U mi) (gOf c.K t) (tT c U0 tt) (tE c U0 el) (own.map (·.2)) σ H Q :=
  ⟨ρ, G, s, hR, (Wp.bnd hR w).imp fun ds ρ1 G1 H1 s1 ⟨S1, R1, w1⟩ J it D hD => by
    generalize hvs : own.map (·.2) = vsl at *
    -- the whole run
    unfold Wp at w1
    dsimp only at w1
    cases hrun : compL vsl t tt el ds [] s1 with
    | none => simp only [hrun] at w1
    | some p =>
    obtain ⟨o, s3⟩ := p
    cases o with
    | ex _ _ _ => simp only [hrun] at w1
    | ok ws =>
    simp only [hrun] at w1
    cases hnew : newL ownr ws s3.st with
    | none => simp only [hnew] at w1
    | some q =>
    obtain ⟨wres, stres⟩ := q
    simp only [hnew] at w1
    have gD : G1 D = none := R1.rs.sub.free hD
    have nD0 : NotOwn D ρ1 s1.st := fun n p o hp ho => by
      obtain ⟨⟨u1, t1⟩, ⟨u2, t2⟩⟩ := (R1.rs.own n p o hp ho).2.2.there
      exact ⟨fun e => (by rw [e, hD] at t1; cases t1), fun e => (by rw [e, hD] at t2; cases t2)⟩
    have hidH1 : hid D H1 = H1 := by
      funext a
      by_cases e : a = D
      · subst e; rw [hid_same, hD]
      · rw [hid_ne e]
    let Inv (i : Nat) (H : Hp) : Prop := i ≤ ds.length ∧ ∃ ρ2 G2 s2 acc vs, Stp ρ1 G1 H1 s1.st ρ2 G2 (hid D H) s2.st ∧ RS c ρ2 G2 H s2.st ∧ EnvOk c ρ2 G2 (wipeO s2.env vsl) (L2.wipe σ vsl) ∧ s2.env.length = σ.length ∧ H D = some (.lst vs) ∧ RepWs c ρ2 G2 acc vs ∧ NotOwn D ρ2 s2.st ∧ G2 D = none ∧ compL vsl t tt el (ds.drop i) acc s2 = some (.ok ws, s3)
    refine ⟨fun i m H => m = ds.length - i ∧ Inv i H, ⟨ds.length, by simp, Nat.zero_le _, ρ1, G1, s1, [], [], ?_, R1.rs.upd gD nD0, R1.env.wipe R1.len vsl, R1.len, upd_same, rfl, nD0, gD, by simpa using hrun⟩, ?_⟩
    · rw [hid_upd, hidH1]
      exact Stp.refl
    rintro i mm H2 ⟨rfl, hi2, ρ2, G2, s2, acc, vs, S2, r2, e2, l2, hD2, rv2, nD2, gD2, run2⟩
    have sG : Same G1 H2 := S2.same.trans r2.sub
    by_cases hlt : i < ds.length
    · refine .inr ⟨it.go i H2 sG hlt, Inv (i + 1), fun H' h' => ⟨ds.length - (i + 1), by omega, rfl, h'⟩, fun x H' hy => ?_⟩
      have ed : ds.drop i = ds[i] :: ds.drop (i + 1) := List.drop_eq_getElem_cons hlt
      rw [ed] at run2
      unfold compL at run2
      obtain ⟨_, s4, run3, run4⟩ := bnd_some run2
      obtain ⟨_, s2', run5, run6⟩ := bnd_some run3
      unfold wipS at run5
      cases run5
      obtain ⟨b, s5, run7, run8⟩ := bnd_some run4
      obtain ⟨G3, S3, r3, rx⟩ := it.yld i H2 x H' ds[i] sG (List.getElem?_eq_getElem hlt) hy ρ2 G2 s2.st S2.same r2
      have hD3 := nD2.keep S3 hD2
      have nD3 := nD2.step S3 hD2
      have gD3 := nD2.gn S3 hD2 gD2
      have R3 : R c ρ2 G3 (L2.wipe σ vsl) H' ⟨wipeO s2.env vsl, s2.st⟩ := ⟨r3, e2.mono S3.rho S3.same, by show (wipeO _ _).length = _; rw [wipeO_len, wipe_length, l2]⟩
      refine asg_ok R3 (w := .d ds[i]) rx run6 fun σ4 R4 hst _ ⟨vw, hσ⟩ => ?_
      have hw4 : L2.wipe σ4 vsl = L2.wipe σ vsl := by
        rw [hσ, wipe_all t.is vw _ hsub]
        exact wipe_wipe vsl vsl fun v h => h
      refine ⟨hw4, ρ2, G3, s4, R4, Wp.ok run7 fun ρ5 G5 H5 S5 R5 => ?_⟩
      rw [hst] at S5
      have S35 := S3.trans r2.len S5
      have hD5 := nD3.keep S5 hD3
      have nD5 := nD3.step S5 hD3
      have gD5 := nD3.gn S5 hD3 gD3
      have T5 := S2.trans R1.rs.len S35.hid
      cases b with
      | false =>
        refine iteF ⟨hlt, ρ5, G5, s5, acc, vs, T5, R5.rs, ?_, ?_, hD5, rv2.mono S35.rho S35.same, nD5, gD5, run8⟩
        · rw [← hw4]
          exact R5.env.wipe R5.len vsl
        · rw [R5.len, hσ, setAll_len, wipe_length]
      | true =>
        refine iteT ?_
        simp only [if_true] at run8
        obtain ⟨y, s6, run9, run10⟩ := bnd_some run8
        refine ⟨ρ5, G5, s5, R5, Wp.ok run9 fun ρ6 G6 H6 S6 R6 v rv => ?_⟩
        have hD6 := nD5.keep S6 hD5
        have nD6 := nD5.step S6 hD5
        have gD6 := nD5.gn S6 hD5 gD5
        have S36 := S35.trans r2.len S6
        by_cases hl : acc.length < 16777216
        · rw [if_pos hl] at run10
          refine ⟨vs, hD6, by rw [rv2.len, sizeLine_eq]; exact hl, hlt, ρ6, G6, s6, acc ++ [y], vs ++ [v], ?_, R6.rs.upd gD6 nD6, ?_, ?_, upd_same, (rv2.mono S36.rho S36.same).app ⟨v, [], rfl, rv, rfl⟩, nD6, gD6, run10⟩
          · rw [hid_upd]
            exact S2.trans R1.rs.len S36.hid
          · rw [← hw4]
            exact R6.env.wipe R6.len vsl
          · rw [R6.len, hσ, setAll_len, wipe_length]
        · rw [if_neg hl] at run10
          cases run10
    · have e : i = ds.length := by omega
      subst e
      rw [List.drop_length] at run2
      have run2 : pur acc s2 = some (.ok ws, s3) := run2
      cases run2
      refine .inl ⟨it.stop H2 sG, ?_⟩
      have rh := r2.hid gD2 nD2
      obtain ⟨ρ', G', S', r', rw'⟩ := newL_ok rh rv2 hnew hid_same
      rw [upd_hid hD2] at S' r'
      have T := S2.trans R1.rs.len S'
      refine w1 ρ' G' H2 T ⟨r', fun j z hz => ?_, ?_⟩ _ rw'
      · obtain ⟨u, h1, h2⟩ := e2 j z hz
        exact ⟨u, (wipe_some h1).1, h2.mono S'.rho S'.same⟩
      · show (wipeO _ _).length = _
        rw [wipeO_len, l2]⟩
section
variable (hc : X.calm = true) (hN : X.N.Nodup) (hi : EI c X U tg iter mi) (ok : BlkOk X.N X.env.scope scope own) (hsub : ∀ i ∈ t.is, i ∈ own.map (·.2))
    (hg : ∀ (s : Shared) (H : Hp) (C : Addr) (cl : List (Str × Addr)) (fp : List Addr), EG c (X.blk s H scope (compEnvC scope cl C X.env) fp) tg t) (ht : ∀ (s : Shared) (H : Hp) (C : Addr) (cl : List (Str × Addr)) (fp : List Addr), ETs c (X.blk s H scope (compEnvC scope cl C X.env) fp) ifs tt)
    (he : ∀ (s : Shared) (H : Hp) (C : Addr) (cl : List (Str × Addr)) (fp : List Addr), EE c (X.blk s H scope (compEnvC scope cl C X.env) fp) U0 elt el)
include hc hN hi ok hsub hg ht he
theorem ee_lc (hs : ∀ x, foldedSetIterable iter X.env x = pure x := by intro _; rfl) : EE c X U (.ListComp elt [⟨tg, iter, ifs, 0⟩] scope pos) (compE (own.map (·.2)) mi t tt el ownr) :=
  EE.mk1 hi.K (pe_lc hc hN hi.pi ok (fun s H C cl fp => (hg s H C cl fp).pg) (fun s H C cl fp => (ht s H C cl fp).pt) (fun s H C cl fp => (he s H C cl fp).pe) hs) fun ρ G s σ H Q hR w => wp_lc hsub hR w
/-- y = [..], y a local that nothing captures -/
theorem es_lc {i : Nat} {y : Str} {py spos : Pos} (hy : X.N[i]? = some y) (hyl : X.env.scope.names.lookup y = some .local) (hsw : swapsWith (.ListComp elt [⟨tg, iter, ifs, 0⟩] scope pos) (some (.Name y py)) spos.line X.env = pure true)
    (hs : ∀ x, foldedSetIterable iter X.env x = pure x := by intro _; rfl) : ES c X U (.Assign [.Name y py] (.ListComp elt [⟨tg, iter, ifs, 0⟩] scope pos) spos) (asgS (.name i) (compE (own.map (·.2)) mi t tt el ownr)) :=
  ⟨hi.K, PS.imp (ps_setLc hc hN hy hyl hsw hi.pi ok (fun s H C cl fp => (hg s H C cl fp).pg) (fun s H C cl fp => (ht s H C cl fp).pt) (fun s H C cl fp => (he s H C cl fp).pe) hs) fun D σ H ⟨ρ, G, s, hR, w⟩ =>
    wp_lc (Q := fun x H1 => gName i x σ H1 D.nx) hsub hR ((Ws.bndE hR w).imp fun x ρ1 G1 H1 s1 ⟨S1, R1, w1⟩ v rv => ws_asg (t := .name i) R1 rv w1 fun σ' s' R' _ _ w' => Ws.pur R' w')⟩
end
end
end EV
/-! EV13: a def as it stands behind the top; the law's end. -/
namespace EV
open PySem PySem.Spec PyProof.Rows L2
/-- a def of the text and how its arguments bind -/
structure DefAt (K : PySem.W.Frag) (x qual : Str) (st : Stmt) (f : Addr) (ps : List Str) : Prop where
  ex : ∃ fd : FuncData, Fun K x qual st f fd ∧ Binds K fd ps []
theorem FnS.of {P : Program} {w : World} {mg : Str → Option Value} {base : Heap} {c : Kx} {x qual : Str} {sd : Stmt} {f : Addr} {N ps : List Str} {k : Nat} {m : EM Fl} (D : DefAt c.K x qual sd f ps) (S : FnScope N ps (defScope sd)) (hn : ps.length ≤ N.length)
    (hb : ∀ (cdv : Value) (A : Around) (outer : List Env) (s : Shared) (H : Hp) (E : XK), Room k (A.deeper (envOfC qual (defScope sd) s.heap.objs.size f cdv)) → ESs c (cxE P w c mg base N qual sd f cdv A outer s H E) (wx E) (defBody sd) m) :
    FnS P w c.K mg base (k + 1) f (spF c ps.length (bodyF N.length m)) [] := by
  obtain ⟨fd, F, b⟩ := D.ex
  exact ⟨fd, ps, [], fn_full F S hn hb, F.kp, b, .nil⟩
theorem FnS.P {P : Program} {w : World} {mg : Str → Option Value} {base : Heap} {c : Kx} {k : Nat} {f : Addr} {np : Nat} {F : FF} (h : FnS P w c.K mg base k f (spF c np F) []) : FnS P w c.K mg base k f (spP c np (pureP F)) [] := h.imp fun _ _ _ _ q => spP_of q
theorem FnS.O {P : Program} {w : World} {mg : Str → Option Value} {base : Heap} {c : Kx} {k : Nat} {f : Addr} {np : Nat} {F : FF} (h : FnS P w c.K mg base k f (spF c np F) []) : FnS P w c.K mg base k f (spO c np (pureO F)) [] := h.imp fun _ _ _ _ q => spO_of q
theorem room65 {k : Nat} {A : Around} (r : Room k A) : A.units + 65 < cLine := by
  have := r.un
  omega
/-- another body, equal to the first -/
theorem RepDs.ints {c : Kx} {G : Hp} : ∀ ns : List Int, RepDs c G (ns.map .int) (ns.map V.int)
  | [] => .nil
  | n :: ns => .cons (.int n) (RepDs.ints ns)
/-- the law's end -/
def spLaw (c : Kx) (F : FP) : Sp := spP c 1 F
theorem law_good {c : Kx} {F : FP} (hF : ∀ ns : List Int, ns.length ≤ 63 → F [.fls (ns.map .int)] = some (.ok (.bl true))) (H : Hp) (a : Addr) (ns : List Int) (hl : ns.length ≤ 63) (hS : SqL c.K H a (ns.map V.int)) :
    spLaw c F [V.ref a] H (fun v _ => v = V.bl true) (fun _ _ _ => False) := by
  refine ⟨H, [.fls (ns.map .int)], Same.refl _, .cons (.fls hS (RepDs.ints ns)) .nil, rfl, ?_⟩
  rw [hF ns hl]
  intro v G' H' g r
  cases r
  rfl
theorem cx_none {P : Program} {w : World} {H : Hp} {s : Shared} {e : Value} {s' : Shared} (h : L2N.CX P w [] H s (fun _ _ _ => False) e s') : False := by
  obtain ⟨_, _, _, _, _, _, _, _, _, _, _, _, z⟩ := h
  exact z
end EV
/-! EV14: what the printed derivations use besides. -/
namespace EV
open PySem PySem.Spec PyProof.Rows L2
/-- a name of the module that stands for a tree -/
def GlobD (c : Kx) (mg : Str → Option Value) (x : Str) (d : D) : Prop := ∃ v u, mg x = some u ∧ RelV v u ∧ ∀ G, RepD c G d v
section
variable {c : Kx} {X : Cx} {U : WX} {e a b d : Expr} {es : List Expr} {x : Str} {p pos : Pos} {ma mb mc me : EM W} {m : EM (List W)}
theorem ee_globD {z : D} (hK : X.K = c.K) (hg : Gl X x) (h : GlobD c X.mg x z) (hdb : (x == ("__debug__" : Str)) = false := by decide) : EE c X U (.Name x pos) (cst z) := by
  obtain ⟨v, u, hm, r, hd⟩ := h
  exact ee_glob hK hg hm r hd hdb
theorem GlobD.str {mg : Str → Option Value} {z : Str} {t : Tok} (h : mg x = some (.str z t)) : GlobD c mg x (.str z) := ⟨.str z, _, h, ⟨t, rfl⟩, fun _ => .str z⟩
theorem GlobD.int {mg : Str → Option Value} {i : Int} {t : Tok} (h : mg x = some (.int i t)) : GlobD c mg x (.int i) := ⟨.int i, _, h, ⟨t, rfl⟩, fun _ => .int i⟩
/-- the items of a written tuple of texts, ints -/
def atomV : Value → Option D
  | .str z _ => some (.str z)
  | .int i _ => some (.int i)
  | _ => none
def atomsV : List Value → Option (List D)
  | [] => some []
  | v :: r => match atomV v, atomsV r with
    | some d, some ds => some (d :: ds)
    | _, _ => none
theorem atoms_ok : ∀ {us : List Value} {ds : List D}, atomsV us = some ds → ∃ vs, Vals vs us ∧ ∀ G, RepDs c G ds vs
  | [], ds, e => by cases e; exact ⟨[], .nil, fun _ => .nil⟩
  | u :: us, ds, e => by
    unfold atomsV at e
    cases h1 : atomV u with
    | none => simp only [h1] at e; cases e
    | some d =>
      cases h2 : atomsV us with
      | none => simp only [h1, h2] at e; cases e
      | some ds' =>
        simp only [h1, h2] at e
        cases e
        obtain ⟨vs, r1, r2⟩ := atoms_ok h2
        cases u with
        | str z t => cases h1; exact ⟨.str z :: vs, .cons ⟨t, rfl⟩ r1, fun G => .cons (.str z) (r2 G)⟩
        | int i t => cases h1; exact ⟨.int i :: vs, .cons ⟨t, rfl⟩ r1, fun G => .cons (.int i) (r2 G)⟩
        | _ => cases h1
theorem GlobD.tup {mg : Str → Option Value} {A : Addr} {od : Option Addr} {its : Array Value} {n : Nat} {sl : Array (Option Value)} {ds : List D} (h : mg x = some (.ref A)) (l : c.K.lookup A = some ⟨.type "tuple", od, .seq its n, sl⟩) (hi : atomsV its.toList = some ds) (hz : ds.length ≤ 1000) : GlobD c mg x (.tup ds) := by
  obtain ⟨vs, r1, r2⟩ := atoms_ok (c := c) hi
  refine ⟨.ref A, _, h, rfl, fun G => .tup (.inr ⟨_, its, n, l, rfl, rfl, ?_, r1⟩) (r2 G)⟩
  have h1 := r1.length
  have h2 := (r2 G).len
  have h3 := sizeLine_eq
  rw [← Array.length_toList]
  omega
/-- a built-in's name as a value -/
theorem ee_bltn {z : D} {v : V} {u : Value} (hK : X.K = c.K) (hg : Gl X x) (hm : X.mg x = none) (hv : bootBuiltins x = some u) (r : RelV v u) (hd : ∀ G, RepD c G z v) (hn : x ≠ "__name__" := by decide) (hdb : (x == ("__debug__" : Str)) = false := by decide) : EE c X U (.Name x pos) (cst z) :=
  EE.mk1 hK (pe_bltn hg hm hv r hn hdb) fun _ G _ _ _ _ r w => Wp.pur r w _ (hd G)
theorem ty_only {n : String} (G : Hp) (z : V) (h : RepD c G (.ty n) z) : z = .ty n := by cases h; rfl
theorem ref_only {A : Addr} (G : Hp) (z : V) (h : RepD c G (.ref A) z) : z = .ref A := by cases h; rfl
/-- -e -/
def negA (st : Store) : W → Option (W × Store)
  | .d (.int i) => some (.d (.int (-i)), st)
  | _ => none
def op1 (f : Store → W → Option (W × Store)) (m : EM W) : EM W := bnd m fun x => lft fun st => f st x
theorem ee_neg (h : EE c X U e me) : EE c X U (.UnaryOp .USub e pos) (op1 negA me) :=
  EE.mk1 h.K (pe_un un_neg h.pe) fun ρ G s σ H Q hR w => ⟨ρ, G, s, hR, (Wp.bnd hR w).imp fun z ρ1 G1 H1 s1 ⟨S1, R1, w1⟩ v rv => by
    obtain ⟨w, st', e, q⟩ := Wp.lft w1
    unfold negA at e
    split at e
    · cases e
      cases rv
      exact ⟨_, rfl, q ρ1 G1 H1 Stp.refl R1 _ (.int _)⟩
    · cases e⟩
/-- a < b < c -/
def chainE (f g : Store → W → W → Option (W × Store)) (ma mb mc : EM W) : EM W := bnd ma fun x => bnd mb fun y => bnd (lft fun st => f st x y) fun z => match z with
  | .d (.bl true) => bnd mc fun w => lft fun st => g st y w
  | .d (.bl false) => pur (.d (.bl false))
  | _ => non
theorem wp_chain {r r' : R2} {f g : Store → W → W → Option (W × Store)} (hs : S2 c r f) (hs' : S2 c r' g) {ρ : Rho} {G H : Hp} {σ : L2.St} {s : SS} {Q : VK} (hR : R c ρ G σ H s) (w : Wp c U (chainE f g ma mb mc) ρ G σ H s (fun w ρ' G' H' _ => ∀ v, RepW c ρ' G' w v → Q v H')) :
    tChain r r' (tE c U ma) (tE c U mb) (tE c U mc) σ H Q := by
  refine ⟨ρ, G, s, hR, (Wp.bnd hR w).imp fun x ρ1 G1 H1 s1 ⟨S1, R1, w1⟩ v rv => ?_⟩
  refine ⟨ρ1, G1, s1, R1, (Wp.bnd R1 w1).imp fun y ρ2 G2 H2 s2 ⟨S2, R2, w2⟩ u ru => ?_⟩
  obtain ⟨z, st', e, q⟩ := Wp.lft (Wp.bnd R2 w2)
  refine hs ρ2 G2 H2 s2.st x y z st' v u _ R2.rs (rv.mono S2.rho S2.same) ru e fun v' ρ3 G3 H3 S3 R3 r3 => ?_
  obtain ⟨S4, R4, w4⟩ := q ρ3 G3 H3 S3 ⟨R3, R2.env.mono S3.rho S3.same, R2.len⟩
  cases z with
  | loc _ => exact w4.none rfl
  | d z =>
    cases z with
    | bl k =>
      cases r3
      refine ⟨k, rfl, ?_⟩
      cases k with
      | false => exact iteF (Wp.pur R4 w4 _ (.bl false))
      | true =>
        refine iteT ⟨ρ3, G3, _, R4, (Wp.bnd R4 w4).imp fun w ρ5 G5 H5 s5 ⟨S5, R5, w5⟩ t rt => ?_⟩
        obtain ⟨z, st'', e5, q5⟩ := Wp.lft w5
        exact hs' ρ5 G5 H5 s5.st y w z st'' u t _ R5.rs ((ru.mono S3.rho S3.same).mono S5.rho S5.same) rt e5 fun v'' ρ6 G6 H6 S6 R6 r6 => q5 ρ6 G6 H6 S6 ⟨R6, R5.env.mono S6.rho S6.same, R5.len⟩ v'' r6
    | _ => exact w4.none rfl
end
end EV
namespace EV
open PySem PySem.Spec PyProof.Rows L2
section
variable {c : Kx} {X : Cx} {U : WX} {a b d : Expr} {pos : Pos} {ma mb mc : EM W}
theorem ee_chain {o1 o2 : CmpOp} {r r' : R2} {f g : Store → W → W → Option (W × Store)} (h1 : OpR X (compareOp o1) r) (h2 : OpR X (compareOp o2) r') (hs : S2 c r f) (hs' : S2 c r' g) (ha : EE c X U a ma) (hb : EE c X U b mb) (hd : EE c X U d mc)
    (hm : lastMarks [o1, o2] [b, d] = false := by with_unfolding_all rfl) : EE c X U (.Compare a [o1, o2] [b, d] pos) (chainE f g ma mb mc) :=
  EE.mk1 ha.K (pe_chain h1 h2 ha.pe hb.pe hd.pe hm) fun ρ G s σ H Q hR w => wp_chain hs hs' hR w
theorem et_chain {o1 o2 : CmpOp} {r r' : R2} {f g : Store → W → W → Option (W × Store)} (h1 : OpR X (compareOp o1) r) (h2 : OpR X (compareOp o2) r') (hs : S2 c r f) (hs' : S2 c r' g) (ha : EE c X U a ma) (hb : EE c X U b mb) (hd : EE c X U d mc)
    (hm : lastMarks [o1, o2] [b, d] = false := by with_unfolding_all rfl) : ET c X U (.Compare a [o1, o2] [b, d] pos) (toB (chainE f g ma mb mc)) :=
  ⟨ha.K, PT.imp (pt_chain h1 h2 ha.pe hb.pe hd.pe hm) fun σ H Q ⟨ρ, G, s, hR, w⟩ => wp_chain hs hs' hR (wp_toB hR w)⟩
end
end EV
namespace EV
open PySem PySem.Spec PyProof.Rows L2
def tyOkB (T : String) (p : Ty × Bool) : Bool := match p.1 with
  | .bi n => decide (kitB n T = some p.2)
  | .cl _ => false
  | .xc _ => false
theorem mem_of_look {α β : Type} [DecidableEq α] : ∀ {l : List (α × β)} {a : α} {b : β}, l.lookup a = some b → (a, b) ∈ l
  | [], _, _, h => by cases h
  | (x, y) :: l, a, b, h => by
    unfold List.lookup at h
    by_cases e : a = x
    · subst e
      simp at h
      subst h
      exact List.mem_cons_self
    · have : (a == x) = false := by simpa using e
      rw [this] at h
      exact List.mem_cons_of_mem _ (mem_of_look h)
theorem tyq {c : Kx} {q : List (Ty × Bool)} {T : String} (h : q.all (tyOkB T) = true) : ∀ t b, q.lookup t = some b → TyFact c (.type T) t b := fun t b e => by
  have h1 := List.all_eq_true.mp h _ (mem_of_look e)
  cases t with
  | bi n => exact kit_ty (of_decide_eq_true h1)
  | cl k => exact absurd h1 Bool.false_ne_true
  | xc k => exact absurd h1 Bool.false_ne_true
end EV
/-! EV15: running a function step by step. -/
namespace EV
open PySem L2
def chr1 (c : Nat) : Str := ⟨#[c]⟩
/-- m runs to an end that is wanted -/
def Run {α : Type} (m : EM α) (s : SS) (Q : Out α → SS → Prop) : Prop := ∃ o s', m s = some (o, s') ∧ Q o s'
/-! named parts of what stands behind -/
def toBK : W → EM Bool
  | .d (.bl b) => pur b
  | _ => non
def ite2 {α : Type} (b : Bool) (x y : EM α) : EM α := if b then x else y
def sqK (r : EM Fl) : Fl → EM Fl
  | .nx => r
  | .ret w => pur (.ret w)
  | .brk => pur .brk
  | .cnt => pur .cnt
def chK (g : Store → W → W → Option (W × Store)) (mc : EM W) (y : W) : W → EM W
  | .d (.bl true) => bnd mc fun w => lft fun st => g st y w
  | .d (.bl false) => pur (.d (.bl false))
  | _ => non
def itK : W → EM (List D)
  | .d x => match itemsD x with
    | some ds => pur ds
    | none => non
  | .loc _ => non
def rg1K : List W → EM (List D)
  | [.d (.int j)] => if j < 1000000000 ∧ -1000000000 < j then pur (rngL 0 j.toNat) else non
  | _ => non
def rg2K : List W → EM (List D)
  | [.d (.int i), .d (.int j)] => if (j < 1000000000 ∧ -1000000000 < j) ∧ i < 1000000000 ∧ -1000000000 < i then pur (rngL i (j - i).toNat) else non
  | _ => non
def partK : W → EM (Option Int)
  | .d (.int i) => pur (some i)
  | _ => non
def lstK (own : Bool) (ws : List W) : EM W := if ws.length ≤ 16777216 then lft (newL own ws) else non
def tupK (ds : List D) : EM W := if ds.length ≤ 16777216 then pur (.d (.tup ds)) else non
def treesK (ws : List W) : EM (List D) := match allD ws with
  | some ds => pur ds
  | none => non
def bmK (T : String) (f : Store → W → List W → Option (W × Store)) (m : EM (List W)) (o : W) : EM W := fun s => if tyIs T s.st o then bnd m (fun ws => lft fun st => f st o ws) s else none
def frzK : W → EM W
  | .d x => pur (.d x)
  | .loc n => fun s => match fz 20 (.loc n) s.st with
    | some (d, st) => some (.ok (.d d), ⟨s.env.map (rpl n d), st⟩)
    | none => none
def fldK (i : Nat) (w : W) : EM W := fun s => match insW s.st w with
  | some (_, ks, ws) => match fget ks ws i with
    | some y => some (.ok y, s)
    | none => none
  | none => none
def methK (tbl : List (Nat × (List W → EM W))) (m : EM (List W)) (o : W) : EM W := fun s => match clsOf s.st o with
  | none => none
  | some k => match tbl.lookup k with
    | none => none
    | some g => bnd m (fun ws => g (o :: ws)) s
section
variable {α β : Type} {m : EM α} {k : α → EM β} {s s1 : SS} {Q : Out β → SS → Prop} {Qa : Out α → SS → Prop}
theorem run_pur {a : α} (h : Qa (.ok a) s) : Run (pur a) s Qa := ⟨_, _, rfl, h⟩
theorem run_eq {o : Out α} (e : m s = some (o, s1)) (h : Qa o s1) : Run m s Qa := ⟨o, s1, e, h⟩
theorem Run.imp {Q' : Out α → SS → Prop} (h : Run m s Qa) (q : ∀ o s', Qa o s' → Q' o s') : Run m s Q' := let ⟨o, s', e, h⟩ := h; ⟨o, s', e, q o s' h⟩
/-- a first part -/
def Nx (k : α → EM β) (Q : Out β → SS → Prop) : Out α → SS → Prop := fun o s' => match o with
  | .ok a => Run (k a) s' Q
  | .ex c ks vs => Q (.ex c ks vs) s'
theorem rb_run (h : Run m s (Nx k Q)) : Run (bnd m k) s Q := by
  obtain ⟨o, s', e, h⟩ := h
  cases o with
  | ok a =>
    obtain ⟨o2, s2, e2, h2⟩ := h
    exact ⟨o2, s2, by rw [bnd_ok e]; exact e2, h2⟩
  | ex c ks vs => exact ⟨_, s', bnd_ex e, h⟩
theorem rb_eq {a : α} (e : m s = some (.ok a, s1)) (h : Run (k a) s1 Q) : Run (bnd m k) s Q := by
  obtain ⟨o2, s2, e2, h2⟩ := h
  exact ⟨o2, s2, by rw [bnd_ok e]; exact e2, h2⟩
theorem rb_bnd {γ : Type} {m : EM γ} {f : γ → EM α} (h : Run (bnd m fun a => bnd (f a) k) s Q) : Run (bnd (bnd m f) k) s Q := by rw [bnd_assoc]; exact h
theorem rb_bnd2 {γ δ : Type} {m : EM γ} {n : EM δ} {f : γ → δ → EM α} (h : Run (bnd m fun a => bnd n fun b => bnd (f a b) k) s Q) : Run (bnd (bnd m fun a => bnd n fun b => f a b) k) s Q := by
  rw [bnd_assoc]
  have e : (fun a => bnd (bnd n fun b => f a b) k) = fun a => bnd n fun b => bnd (f a b) k := by
    funext a
    rw [bnd_assoc]
  rw [e]
  exact h
theorem rb_bnd3 {γ δ ε : Type} {m : EM γ} {n : EM δ} {p : EM ε} {f : γ → δ → ε → EM α} (h : Run (bnd m fun a => bnd n fun b => bnd p fun c => bnd (f a b c) k) s Q) : Run (bnd (bnd m fun a => bnd n fun b => bnd p fun c => f a b c) k) s Q := by
  rw [bnd_assoc]
  have e : (fun a => bnd (bnd n fun b => bnd p fun c => f a b c) k) = fun a => bnd n fun b => bnd p fun c => bnd (f a b c) k := by
    funext a
    rw [bnd_assoc]
    congr 1
    funext b
    rw [bnd_assoc]
  rw [e]
  exact h
theorem rb_pur {a : α} (h : Run (k a) s Q) : Run (bnd (pur a) k) s Q := h
theorem rb_thr {c : Nat} {ks : List Nat} {vs : List D} (h : Q (.ex c ks vs) s) : Run (bnd (thr c ks vs : EM α) k) s Q := ⟨_, s, rfl, h⟩
theorem rb_lft {f : Store → Option (α × Store)} {env : List (Option W)} {st st' : Store} {a : α} (e : f st = some (a, st')) (h : Run (k a) ⟨env, st'⟩ Q) : Run (bnd (lft f) k) ⟨env, st⟩ Q := rb_eq (by unfold lft; simp only [e]) h
theorem rb_iteT {m1 m2 : EM α} (h1 : Run (bnd m1 k) s Q) : Run (bnd (ite2 true m1 m2) k) s Q := h1
theorem rb_iteF {m1 m2 : EM α} (h1 : Run (bnd m2 k) s Q) : Run (bnd (ite2 false m1 m2) k) s Q := h1
theorem rb_iteNT {m1 m2 : EM α} (h1 : Run (bnd m2 k) s Q) : Run (bnd (ite2 (!true) m1 m2) k) s Q := h1
theorem rb_iteNF {m1 m2 : EM α} (h1 : Run (bnd m1 k) s Q) : Run (bnd (ite2 (!false) m1 m2) k) s Q := h1
theorem rb_iteP {b : Bool} {m1 m2 : EM α} (e : b = true) (h1 : Run (bnd m1 k) s Q) : Run (bnd (ite2 b m1 m2) k) s Q := by subst e; exact h1
theorem rb_iteN {b : Bool} {m1 m2 : EM α} (e : b = false) (h1 : Run (bnd m2 k) s Q) : Run (bnd (ite2 b m1 m2) k) s Q := by subst e; exact h1
theorem rb_ite {b : Bool} {m1 m2 : EM α} (h1 : b = true → Run (bnd m1 k) s Q) (h2 : b = false → Run (bnd m2 k) s Q) : Run (bnd (ite2 b m1 m2) k) s Q := by
  cases b with
  | true => exact h1 rfl
  | false => exact h2 rfl
theorem rb_iteD {p : Prop} [Decidable p] {m1 m2 : EM α} (h1 : p → Run (bnd m1 k) s Q) (h2 : ¬ p → Run (bnd m2 k) s Q) : Run (bnd (ite2 (decide p) m1 m2) k) s Q := rb_ite (fun e => h1 (of_decide_eq_true e)) fun e => h2 (of_decide_eq_false e)
theorem rb_iteDn {p : Prop} [Decidable p] {m1 m2 : EM α} (h1 : ¬ p → Run (bnd m1 k) s Q) (h2 : p → Run (bnd m2 k) s Q) : Run (bnd (ite2 (!decide p) m1 m2) k) s Q := rb_ite (fun e => h1 fun x => by simp [x] at e) fun e => h2 (by simpa using e)
/-- a bare computation, as one with an end behind it -/
theorem run_bnd (h : Run (bnd m pur) s Qa) : Run m s Qa := by
  obtain ⟨o, s', e, h⟩ := h
  cases q : m s with
  | none => rw [bnd_no q] at e; cases e
  | some p =>
    obtain ⟨o2, s2⟩ := p
    cases o2 with
    | ok a =>
      rw [bnd_ok q] at e
      cases e
      exact ⟨_, _, q, h⟩
    | ex _ _ _ =>
      rw [bnd_ex q] at e
      cases e
      exact ⟨_, _, q, h⟩
end
section
variable {β : Type} {env : List (Option W)} {st st' : Store} {s : SS} {Q : Out β → SS → Prop} {k : W → EM β}
theorem rb_cst {d : D} (h : Run (k (.d d)) s Q) : Run (bnd (cst d) k) s Q := h
theorem rb_var {i : Nat} {w : W} (e : env[i]? = some (some w)) (h : Run (k w) ⟨env, st⟩ Q) : Run (bnd (var i) k) ⟨env, st⟩ Q := rb_eq (by unfold var; simp only [e]) h
theorem rb_op2 {f : Store → W → W → Option (W × Store)} {ma mb : EM W} (h : Run (bnd ma fun x => bnd mb fun y => bnd (lft fun st => f st x y) k) s Q) : Run (bnd (op2 f ma mb) k) s Q := rb_bnd2 h
theorem rb_op1 {f : Store → W → Option (W × Store)} {ma : EM W} (h : Run (bnd ma fun x => bnd (lft fun st => f st x) k) s Q) : Run (bnd (op1 f ma) k) s Q := rb_bnd h
theorem rb_asg {k : Unit → EM β} {i : Nat} {w : W} {env' : List (Option W)} (e : env.set i (some w) = env') (h : Run (k ()) ⟨env', st⟩ Q) : Run (bnd (asg (.name i) w) k) ⟨env, st⟩ Q := by
  subst e
  exact rb_eq (a := ()) rfl h
theorem rb_asgT {k : Unit → EM β} {is : List Nat} {ds : List D} {env' : List (Option W)} (hl : ds.length = is.length) (e : setAll is (ds.map .d) env = env') (h : Run (k ()) ⟨env', st⟩ Q) : Run (bnd (asg (.tup is) (.d (.tup ds))) k) ⟨env, st⟩ Q := by
  subst e
  exact rb_eq (a := ()) (by unfold asg; simp only [hl, if_true]) h
theorem rb_acons {k : List W → EM β} {m : EM W} {r : EM (List W)} (h : Run (bnd m fun w => bnd r fun ws => k (w :: ws)) s Q) : Run (bnd (acons m r) k) s Q := rb_bnd2 h
theorem rb_anil {k : List W → EM β} (h : Run (k []) s Q) : Run (bnd anil k) s Q := h
theorem toB_eq (m : EM W) : toB m = bnd m toBK := rfl
theorem rb_toB {k : Bool → EM β} {m : EM W} (h : Run (bnd m fun w => bnd (toBK w) k) s Q) : Run (bnd (toB m) k) s Q := by rw [toB_eq]; exact rb_bnd h
theorem rb_toBK {k : Bool → EM β} {b : Bool} (h : Run (k b) s Q) : Run (bnd (toBK (.d (.bl b))) k) s Q := h
theorem rb_ntB {k : Bool → EM β} {m : EM Bool} (h : Run (bnd m fun b => k (!b)) s Q) : Run (bnd (ntB m) k) s Q := rb_bnd h
theorem rb_anB {k : Bool → EM β} {m r : EM Bool} (h : Run (bnd m fun b => bnd (ite2 b r (pur false)) k) s Q) : Run (bnd (anB m r) k) s Q := rb_bnd h
theorem rb_orB {k : Bool → EM β} {m r : EM Bool} (h : Run (bnd m fun b => bnd (ite2 b (pur true) r) k) s Q) : Run (bnd (orB m r) k) s Q := rb_bnd h
theorem rb_ifE {α : Type} {k : α → EM β} {t : EM Bool} {ma mb : EM α} (h : Run (bnd t fun b => bnd (ite2 b ma mb) k) s Q) : Run (bnd (ifE t ma mb) k) s Q := rb_bnd h
theorem rb_anV {m r : EM W} (h : Run (bnd (toB m) fun b => bnd (ite2 b r (pur (.d (.bl false)))) k) s Q) : Run (bnd (anV m r) k) s Q := rb_bnd h
theorem rb_orV {m r : EM W} (h : Run (bnd (toB m) fun b => bnd (ite2 b (pur (.d (.bl true))) r) k) s Q) : Run (bnd (orV m r) k) s Q := rb_bnd h
theorem rb_ntV {m : EM W} (h : Run (bnd (toB m) fun b => k (.d (.bl (!b)))) s Q) : Run (bnd (ntV m) k) s Q := rb_bnd h
theorem rb_ofB {m : EM Bool} (h : Run (bnd m fun b => k (.d (.bl b))) s Q) : Run (bnd (ofB m) k) s Q := rb_bnd h
theorem rb_callB {f : Store → List W → Option (W × Store)} {m : EM (List W)} (h : Run (bnd m fun ws => bnd (lft fun st => f st ws) k) s Q) : Run (bnd (callB f m) k) s Q := rb_bnd h
theorem rb_callE {g : List W → EM W} {dws : List W} {m : EM (List W)} (h : Run (bnd m fun ws => bnd (g (ws ++ dws)) k) s Q) : Run (bnd (callE g dws m) k) s Q := rb_bnd h
theorem rb_lst {own : Bool} {m : EM (List W)} (h : Run (bnd m fun ws => bnd (lstK own ws) k) s Q) : Run (bnd (lstE own m) k) s Q := rb_bnd h
theorem rb_tup {m : EM (List W)} (h : Run (bnd (treesE m) fun ds => bnd (tupK ds) k) s Q) : Run (bnd (tupE m) k) s Q := rb_bnd h
theorem treesE_eq (m : EM (List W)) : treesE m = bnd m treesK := rfl
theorem rb_trees {k : List D → EM β} {m : EM (List W)} (h : Run (bnd m fun ws => bnd (treesK ws) k) s Q) : Run (bnd (treesE m) k) s Q := by rw [treesE_eq]; exact rb_bnd h
theorem rb_treesK {k : List D → EM β} {ws : List W} {ds : List D} (e : allD ws = some ds) (h : Run (k ds) s Q) : Run (bnd (treesK ws) k) s Q := by unfold treesK; rw [e]; exact h
theorem rb_tupK {ds : List D} (hl : ds.length ≤ 16777216) (h : Run (k (.d (.tup ds))) s Q) : Run (bnd (tupK ds) k) s Q := by unfold tupK; rw [if_pos hl]; exact h
theorem rb_lstK {own : Bool} {ws : List W} (hl : ws.length ≤ 16777216) (h : Run (bnd (lft (newL own ws)) k) s Q) : Run (bnd (lstK own ws) k) s Q := by unfold lstK; rw [if_pos hl]; exact h
theorem rb_slE {own : Bool} {m : EM W} {ml mh : EM (Option Int)} (h : Run (bnd m fun x => bnd ml fun lo => bnd mh fun hi => bnd (lft fun st => sliceA own st x lo hi) k) s Q) : Run (bnd (slE own m ml mh) k) s Q := rb_bnd3 h
theorem rb_partN {k : Option Int → EM β} (h : Run (k none) s Q) : Run (bnd (partE none) k) s Q := h
theorem partE_eq (m : EM W) : partE (some m) = bnd m partK := rfl
theorem rb_partS {k : Option Int → EM β} {m : EM W} (h : Run (bnd m fun w => bnd (partK w) k) s Q) : Run (bnd (partE (some m)) k) s Q := by rw [partE_eq]; exact rb_bnd h
theorem rb_partK {k : Option Int → EM β} {i : Int} (h : Run (k (some i)) s Q) : Run (bnd (partK (.d (.int i))) k) s Q := h
theorem sq_eq (m r : EM Fl) : sq m r = bnd m (sqK r) := rfl
theorem rb_sq {k : Fl → EM β} {m r : EM Fl} (h : Run (bnd m fun f => bnd (sqK r f) k) s Q) : Run (bnd (sq m r) k) s Q := by rw [sq_eq]; exact rb_bnd h
theorem rb_sqN {k : Fl → EM β} {r : EM Fl} (h : Run (bnd r k) s Q) : Run (bnd (sqK r .nx) k) s Q := h
theorem rb_sqR {k : Fl → EM β} {r : EM Fl} {w : W} (h : Run (k (.ret w)) s Q) : Run (bnd (sqK r (.ret w)) k) s Q := h
theorem rb_sqB {k : Fl → EM β} {r : EM Fl} (h : Run (k .brk) s Q) : Run (bnd (sqK r .brk) k) s Q := h
theorem rb_sqC {k : Fl → EM β} {r : EM Fl} (h : Run (k .cnt) s Q) : Run (bnd (sqK r .cnt) k) s Q := h
theorem rb_asgS {k : Fl → EM β} {t : Tg} {m : EM W} (h : Run (bnd m fun w => bnd (asg t w) fun _ => k .nx) s Q) : Run (bnd (asgS t m) k) s Q := by
  unfold asgS
  rw [bnd_assoc]
  have e : (fun a => bnd (bnd (asg t a) fun _ => pur Fl.nx) k) = fun w => bnd (asg t w) fun _ => k .nx := by
    funext a
    rw [bnd_assoc]
    rfl
  rw [e]
  exact h
theorem rb_exprS {k : Fl → EM β} {m : EM W} (h : Run (bnd m fun _ => k .nx) s Q) : Run (bnd (exprS m) k) s Q := rb_bnd h
theorem rb_retS {k : Fl → EM β} {m : EM W} (h : Run (bnd m fun w => k (.ret w)) s Q) : Run (bnd (retS m) k) s Q := rb_bnd h
theorem rb_forS {k : Fl → EM β} {mi : EM (List D)} {t : Tg} {body : EM Fl} (h : Run (bnd mi fun ds => bnd (loopS t body ds) k) s Q) : Run (bnd (forS mi t body) k) s Q := rb_bnd h
theorem itemsE_eq (m : EM W) : itemsE m = bnd m itK := rfl
theorem rb_items {k : List D → EM β} {m : EM W} (h : Run (bnd m fun w => bnd (itK w) k) s Q) : Run (bnd (itemsE m) k) s Q := by rw [itemsE_eq]; exact rb_bnd h
theorem rb_itL {k : List D → EM β} {ds : List D} (h : Run (k ds) s Q) : Run (bnd (itK (.d (.lst ds))) k) s Q := h
theorem rb_itF {k : List D → EM β} {ds : List D} (h : Run (k ds) s Q) : Run (bnd (itK (.d (.fls ds))) k) s Q := h
theorem rb_itT {k : List D → EM β} {ds : List D} (h : Run (k ds) s Q) : Run (bnd (itK (.d (.tup ds))) k) s Q := h
theorem rb_itS {k : List D → EM β} {z : Str} (h : Run (k (z.cps.toList.map fun c => .str (chr1 c))) s Q) : Run (bnd (itK (.d (.str z))) k) s Q := h
theorem range1E_eq (m : EM (List W)) : range1E m = bnd m rg1K := rfl
theorem range2E_eq (m : EM (List W)) : range2E m = bnd m rg2K := rfl
theorem rb_range1 {k : List D → EM β} {m : EM (List W)} (h : Run (bnd m fun ws => bnd (rg1K ws) k) s Q) : Run (bnd (range1E m) k) s Q := by rw [range1E_eq]; exact rb_bnd h
theorem rb_range2 {k : List D → EM β} {m : EM (List W)} (h : Run (bnd m fun ws => bnd (rg2K ws) k) s Q) : Run (bnd (range2E m) k) s Q := by rw [range2E_eq]; exact rb_bnd h
theorem rb_rg1 {k : List D → EM β} {j : Int} (hj : j < 1000000000 ∧ -1000000000 < j) (h : Run (k (rngL 0 j.toNat)) s Q) : Run (bnd (rg1K [.d (.int j)]) k) s Q := by
  show Run (bnd (if j < 1000000000 ∧ -1000000000 < j then pur (rngL 0 j.toNat) else non) k) s Q
  rw [if_pos hj]; exact h
theorem rb_rg2 {k : List D → EM β} {i j : Int} (hj : (j < 1000000000 ∧ -1000000000 < j) ∧ i < 1000000000 ∧ -1000000000 < i) (h : Run (k (rngL i (j - i).toNat)) s Q) : Run (bnd (rg2K [.d (.int i), .d (.int j)]) k) s Q := by
  show Run (bnd (if (j < 1000000000 ∧ -1000000000 < j) ∧ i < 1000000000 ∧ -1000000000 < i then pur (rngL i (j - i).toNat) else non) k) s Q
  rw [if_pos hj]; exact h
theorem chainE_eq (f g : Store → W → W → Option (W × Store)) (ma mb mc : EM W) : chainE f g ma mb mc = bnd ma fun x => bnd mb fun y => bnd (lft fun st => f st x y) (chK g mc y) := rfl
theorem rb_chain {f g : Store → W → W → Option (W × Store)} {ma mb mc : EM W} (h : Run (bnd ma fun x => bnd mb fun y => bnd (lft fun st => f st x y) fun z => bnd (chK g mc y z) k) s Q) : Run (bnd (chainE f g ma mb mc) k) s Q := by
  rw [chainE_eq, bnd_assoc]
  have e : (fun a => bnd (bnd mb fun y => bnd (lft fun st => f st a y) (chK g mc y)) k) = fun x => bnd mb fun y => bnd (lft fun st => f st x y) fun z => bnd (chK g mc y z) k := by
    funext x
    rw [bnd_assoc]
    congr 1
    funext y
    rw [bnd_assoc]
  rw [e]
  exact h
/-- a test of a chain -/
theorem rb_chK {g : Store → W → W → Option (W × Store)} {y : W} {mc : EM W} {b : Bool} (h : Run (bnd (ite2 b (bnd mc fun w => lft fun st => g st y w) (pur (.d (.bl false)))) k) s Q) : Run (bnd (chK g mc y (.d (.bl b))) k) s Q := by
  cases b with
  | true => exact h
  | false => exact h
theorem bmE_eq (T : String) (f : Store → W → List W → Option (W × Store)) (mo : EM W) (m : EM (List W)) : bmE T f mo m = bnd mo (bmK T f m) := rfl
theorem rb_bm {T : String} {f : Store → W → List W → Option (W × Store)} {mo : EM W} {m : EM (List W)} (h : Run (bnd mo fun o => bnd (bmK T f m o) k) s Q) : Run (bnd (bmE T f mo m) k) s Q := by rw [bmE_eq]; exact rb_bnd h
theorem rb_bmK {T : String} {f : Store → W → List W → Option (W × Store)} {o : W} {m : EM (List W)} (ht : tyIs T st o = true) (h : Run (bnd m fun ws => bnd (lft fun st => f st o ws) k) ⟨env, st⟩ Q) : Run (bnd (bmK T f m o) k) ⟨env, st⟩ Q := by
  obtain ⟨o', s', e, q⟩ := rb_bnd h
  refine ⟨o', s', ?_, q⟩
  rw [← e]
  unfold bmK bnd
  simp only [ht, if_true]
theorem frz_eq (m : EM W) : frz m = bnd m frzK := rfl
theorem rb_frz {m : EM W} (h : Run (bnd m fun w => bnd (frzK w) k) s Q) : Run (bnd (frz m) k) s Q := by rw [frz_eq]; exact rb_bnd h
theorem rb_frzD {d : D} (h : Run (k (.d d)) s Q) : Run (bnd (frzK (.d d)) k) s Q := h
theorem rb_frzL {n : Nat} {d : D} {env' : List (Option W)} (e : fz 20 (.loc n) st = some (d, st')) (e2 : env.map (rpl n d) = env') (h : Run (k (.d d)) ⟨env', st'⟩ Q) : Run (bnd (frzK (.loc n)) k) ⟨env, st⟩ Q := by
  subst e2
  exact rb_eq (by unfold frzK; simp only [e]) h
theorem fz_lst {n : Nat} {ws : List W} {ds : List D} (h : st[n]? = some (some (.lst ws))) (e : allD ws = some ds) : fz 20 (.loc n) st = some (.lst ds, st.set n none) := by
  unfold fz
  rw [allD_eq e] at h
  simp only [h, fzL_d]
theorem fz_ins {n i : Nat} {ks : List Nat} {ws : List W} {ds : List D} (h : st[n]? = some (some (.ins i ks ws))) (e : allD ws = some ds) : fz 20 (.loc n) st = some (.ins i ks ds, st.set n none) := by
  unfold fz
  rw [allD_eq e] at h
  simp only [h, fzL_d]
theorem fldE_eq (i : Nat) (m : EM W) : fldE i m = bnd m (fldK i) := rfl
theorem rb_fld {i : Nat} {m : EM W} (h : Run (bnd m fun w => bnd (fldK i w) k) s Q) : Run (bnd (fldE i m) k) s Q := by rw [fldE_eq]; exact rb_bnd h
theorem rb_fldK {i j : Nat} {ks : List Nat} {ws : List W} {x y : W} (e1 : insW st x = some (j, ks, ws)) (e2 : fget ks ws i = some y) (h : Run (k y) ⟨env, st⟩ Q) : Run (bnd (fldK i x) k) ⟨env, st⟩ Q := rb_eq (by unfold fldK; simp only [e1, e2]) h
theorem rb_fldD {i j : Nat} {ks : List Nat} {ds : List D} {y : W} (e2 : fget ks (ds.map .d) i = some y) (h : Run (k y) ⟨env, st⟩ Q) : Run (bnd (fldK i (.d (.ins j ks ds))) k) ⟨env, st⟩ Q := rb_fldK (e1 := rfl) e2 h
theorem methE_eq (tbl : List (Nat × (List W → EM W))) (mo : EM W) (m : EM (List W)) : methE tbl mo m = bnd mo (methK tbl m) := rfl
theorem rb_meth {tbl : List (Nat × (List W → EM W))} {mo : EM W} {m : EM (List W)} (h : Run (bnd mo fun o => bnd (methK tbl m o) k) s Q) : Run (bnd (methE tbl mo m) k) s Q := by rw [methE_eq]; exact rb_bnd h
theorem rb_methK {tbl : List (Nat × (List W → EM W))} {m : EM (List W)} {o : W} {i : Nat} {g : List W → EM W} (e1 : clsOf st o = some i) (e2 : tbl.lookup i = some g) (h : Run (bnd m fun ws => bnd (g (o :: ws)) k) ⟨env, st⟩ Q) : Run (bnd (methK tbl m o) k) ⟨env, st⟩ Q := by
  obtain ⟨o', s', e, q⟩ := rb_bnd h
  refine ⟨o', s', ?_, q⟩
  rw [← e]
  unfold methK bnd
  simp only [e1, e2]
/-! operations on known values -/
theorem rl_int {f : Int → Int → Option D} {i j : Int} {d : D} (e : f i j = some d) (h : Run (k (.d d)) ⟨env, st⟩ Q) : Run (bnd (lft fun st => intF f st (.d (.int i)) (.d (.int j))) k) ⟨env, st⟩ Q := rb_lft (by unfold intF; simp only [e]) h
theorem rl_mod {i j : Int} (hj : 0 < j) (h : Run (k (.d (.int (i % j)))) ⟨env, st⟩ Q) : Run (bnd (lft fun st => intF modI st (.d (.int i)) (.d (.int j))) k) ⟨env, st⟩ Q := rl_int (by unfold modI; rw [if_pos hj]) h
theorem rl_div {i j : Int} (hj : 0 < j ∧ j < 1000000000000000000000000000000) (h : Run (k (.d (.int (i / j)))) ⟨env, st⟩ Q) : Run (bnd (lft fun st => intF divI st (.d (.int i)) (.d (.int j))) k) ⟨env, st⟩ Q := rl_int (by unfold divI; rw [if_pos hj]) h
theorem rl_pow {i j : Int} (hj : 0 ≤ j ∧ j ≤ 1000 ∧ 0 ≤ i ∧ i < 1000) (h : Run (k (.d (.int (i ^ j.toNat)))) ⟨env, st⟩ Q) : Run (bnd (lft fun st => intF powI st (.d (.int i)) (.d (.int j))) k) ⟨env, st⟩ Q := rl_int (by unfold powI; rw [if_pos hj]) h
theorem rl_addI {own : Bool} {i j : Int} (h : Run (k (.d (.int (i + j)))) ⟨env, st⟩ Q) : Run (bnd (lft fun st => addA own st (.d (.int i)) (.d (.int j))) k) ⟨env, st⟩ Q := rb_lft rfl h
theorem rl_addS {own : Bool} {i j : Str} (hl : i.length + j.length ≤ 16777216) (h : Run (k (.d (.str (i ++ j)))) ⟨env, st⟩ Q) : Run (bnd (lft fun st => addA own st (.d (.str i)) (.d (.str j))) k) ⟨env, st⟩ Q := rb_lft (by unfold addA; simp only [hl, if_true]) h
theorem rl_addL {ds es : List D} (hl : ds.length + es.length ≤ 16777216) (h : Run (k (.d (.lst (ds ++ es)))) ⟨env, st⟩ Q) : Run (bnd (lft fun st => addA false st (.d (.lst ds)) (.d (.lst es))) k) ⟨env, st⟩ Q :=
  rb_lft (by
    unfold addA
    simp only
    unfold catL lst1W
    simp only [List.length_map, hl, if_true]
    rw [← List.map_append]
    unfold newL
    rw [allD_map]
    rfl) h
theorem rl_sub {i j : Int} (h : Run (k (.d (.int (i - j)))) ⟨env, st⟩ Q) : Run (bnd (lft fun st => subA st (.d (.int i)) (.d (.int j))) k) ⟨env, st⟩ Q := rb_lft rfl h
theorem rl_neg {i : Int} (h : Run (k (.d (.int (-i)))) ⟨env, st⟩ Q) : Run (bnd (lft fun st => negA st (.d (.int i))) k) ⟨env, st⟩ Q := rb_lft rfl h
theorem rl_mulI {own : Bool} {i j : Int} (hs : (-18446744073709551616 < i ∧ i < 18446744073709551616) ∨ (-18446744073709551616 < j ∧ j < 18446744073709551616)) (h : Run (k (.d (.int (i * j)))) ⟨env, st⟩ Q) : Run (bnd (lft fun st => mulA own st (.d (.int i)) (.d (.int j))) k) ⟨env, st⟩ Q :=
  rb_lft (by
    have : (small i || small j) = true := by
      unfold small
      simp only [Bool.or_eq_true, Bool.and_eq_true, decide_eq_true_eq]
      exact hs
    unfold mulA
    simp only [this, if_true]) h
theorem rl_mulS {own : Bool} {z : Str} {n : Int} (hs : z.length ≤ 1000 ∧ n ≤ 1000 ∧ 0 ≤ n) (h : Run (k (.d (.str (Txt.mul z n)))) ⟨env, st⟩ Q) : Run (bnd (lft fun st => mulA own st (.d (.str z)) (.d (.int n))) k) ⟨env, st⟩ Q :=
  rb_lft (by
    unfold mulA
    simp only [hs, and_self, if_true]) h
theorem rl_lt {i j : Int} (h : Run (k (.d (.bl (decide (i < j))))) ⟨env, st⟩ Q) : Run (bnd (lft fun st => ltA st (.d (.int i)) (.d (.int j))) k) ⟨env, st⟩ Q := rb_lft rfl h
theorem rl_le {i j : Int} (h : Run (k (.d (.bl (decide (i ≤ j))))) ⟨env, st⟩ Q) : Run (bnd (lft fun st => leA st (.d (.int i)) (.d (.int j))) k) ⟨env, st⟩ Q := rb_lft rfl h
theorem rl_gt {i j : Int} (h : Run (k (.d (.bl (decide (j < i))))) ⟨env, st⟩ Q) : Run (bnd (lft fun st => gtA st (.d (.int i)) (.d (.int j))) k) ⟨env, st⟩ Q := rb_lft rfl h
theorem rl_ge {i j : Int} (h : Run (k (.d (.bl (decide (j ≤ i))))) ⟨env, st⟩ Q) : Run (bnd (lft fun st => geA st (.d (.int i)) (.d (.int j))) k) ⟨env, st⟩ Q := rb_lft rfl h
theorem rl_eqI {i j : Int} (h : Run (k (.d (.bl (decide (i = j))))) ⟨env, st⟩ Q) : Run (bnd (lft fun st => eqA st (.d (.int i)) (.d (.int j))) k) ⟨env, st⟩ Q := rb_lft rfl h
theorem rl_eqS {i j : Str} (h : Run (k (.d (.bl (decide (i = j))))) ⟨env, st⟩ Q) : Run (bnd (lft fun st => eqA st (.d (.str i)) (.d (.str j))) k) ⟨env, st⟩ Q := rb_lft rfl h
theorem rl_neI {i j : Int} (h : Run (k (.d (.bl (!decide (i = j))))) ⟨env, st⟩ Q) : Run (bnd (lft fun st => neA st (.d (.int i)) (.d (.int j))) k) ⟨env, st⟩ Q := rb_lft rfl h
theorem rl_neS {i j : Str} (h : Run (k (.d (.bl (!decide (i = j))))) ⟨env, st⟩ Q) : Run (bnd (lft fun st => neA st (.d (.str i)) (.d (.str j))) k) ⟨env, st⟩ Q := rb_lft rfl h
theorem rl_eqB {x y : W} {b : Bool} (e : eqB st x y = some b) (h : Run (k (.d (.bl b))) ⟨env, st⟩ Q) : Run (bnd (lft fun st => eqA st x y) k) ⟨env, st⟩ Q := rb_lft (by unfold eqA; simp only [e]) h
theorem rl_neB {x y : W} {b : Bool} (e : eqB st x y = some b) (h : Run (k (.d (.bl (!b)))) ⟨env, st⟩ Q) : Run (bnd (lft fun st => neA st x y) k) ⟨env, st⟩ Q := rb_lft (by unfold neA; simp only [e]) h
theorem rl_in {x y : W} {b : Bool} (e : inB st x y = some b) (h : Run (k (.d (.bl b))) ⟨env, st⟩ Q) : Run (bnd (lft fun st => inA st x y) k) ⟨env, st⟩ Q := rb_lft (by unfold inA; simp only [e]) h
theorem rl_nin {x y : W} {b : Bool} (e : inB st x y = some b) (h : Run (k (.d (.bl (!b)))) ⟨env, st⟩ Q) : Run (bnd (lft fun st => ninA st x y) k) ⟨env, st⟩ Q := rb_lft (by unfold ninA; simp only [e]) h
theorem rl_inC {c : Nat} {z : Str} (h : Run (k (.d (.bl (decide (c ∈ z.cps.toList))))) ⟨env, st⟩ Q) : Run (bnd (lft fun st => inA st (.d (.str (chr1 c))) (.d (.str z))) k) ⟨env, st⟩ Q := rb_lft rfl h
theorem rl_ninC {c : Nat} {z : Str} (h : Run (k (.d (.bl (!decide (c ∈ z.cps.toList))))) ⟨env, st⟩ Q) : Run (bnd (lft fun st => ninA st (.d (.str (chr1 c))) (.d (.str z))) k) ⟨env, st⟩ Q := rb_lft rfl h
theorem rl_isN {x : W} (h : Run (k (.d (.bl (isNonB x)))) ⟨env, st⟩ Q) : Run (bnd (lft fun st => isN st x (.d .non)) k) ⟨env, st⟩ Q := rb_lft rfl h
theorem rl_isnN {x : W} (h : Run (k (.d (.bl (!isNonB x)))) ⟨env, st⟩ Q) : Run (bnd (lft fun st => isnN st x (.d .non)) k) ⟨env, st⟩ Q := rb_lft rfl h
theorem rl_isBl {a b : Bool} (h : Run (k (.d (.bl (decide (a = b))))) ⟨env, st⟩ Q) : Run (bnd (lft fun st => isBl st (.d (.bl a)) (.d (.bl b))) k) ⟨env, st⟩ Q := rb_lft rfl h
theorem rl_isnBl {a b : Bool} (h : Run (k (.d (.bl (!decide (a = b))))) ⟨env, st⟩ Q) : Run (bnd (lft fun st => isnBl st (.d (.bl a)) (.d (.bl b))) k) ⟨env, st⟩ Q := rb_lft rfl h
theorem rl_lenS {z : Str} (hl : z.length ≤ 16777216) (h : Run (k (.d (.int z.length))) ⟨env, st⟩ Q) : Run (bnd (lft fun st => lenW st [.d (.str z)]) k) ⟨env, st⟩ Q := rb_lft (by unfold lenW; simp only [hl, if_true]) h
theorem rl_lenL {ds : List D} (h : Run (k (.d (.int ds.length))) ⟨env, st⟩ Q) : Run (bnd (lft fun st => lenW st [.d (.lst ds)]) k) ⟨env, st⟩ Q := rb_lft (by show some _ = _; rw [List.length_map]) h
theorem rl_lenF {ds : List D} (h : Run (k (.d (.int ds.length))) ⟨env, st⟩ Q) : Run (bnd (lft fun st => lenW st [.d (.fls ds)]) k) ⟨env, st⟩ Q := rb_lft (by show some _ = _; rw [List.length_map]) h
theorem rl_lenT {ds : List D} (h : Run (k (.d (.int ds.length))) ⟨env, st⟩ Q) : Run (bnd (lft fun st => lenW st [.d (.tup ds)]) k) ⟨env, st⟩ Q := rb_lft (by show some _ = _; rw [List.length_map]) h
theorem rl_lenO {n : Nat} {ws : List W} (e : st[n]? = some (some (.lst ws))) (h : Run (k (.d (.int ws.length))) ⟨env, st⟩ Q) : Run (bnd (lft fun st => lenW st [.loc n]) k) ⟨env, st⟩ Q := rb_lft (by unfold lenW listW; simp only [e]) h
theorem rl_intB {b : Bool} (h : Run (k (.d (.int (if b then 1 else 0)))) ⟨env, st⟩ Q) : Run (bnd (lft fun st => intW st [.d (.bl b)]) k) ⟨env, st⟩ Q := rb_lft rfl h
theorem rl_str {i : Int} (hi : 0 ≤ i ∧ i < 10 ^ 200) (h : Run (k (.d (.str (Str.ofString (toString i))))) ⟨env, st⟩ Q) : Run (bnd (lft fun st => strW st [.d (.int i)]) k) ⟨env, st⟩ Q := rb_lft (by unfold strW; simp only [hi, and_self, if_true]) h
theorem rl_isi {q : List (Ty × Bool)} {w x : W} {b : Bool} (e : (match tyW st w with | some t => q.lookup t | none => none) = some b) (h : Run (k (.d (.bl b))) ⟨env, st⟩ Q) : Run (bnd (lft fun st => isiW q st [w, x]) k) ⟨env, st⟩ Q := by
  refine rb_lft ?_ h
  unfold isiW
  cases et : tyW st w with
  | none => simp only [et] at e; cases e
  | some t => simp only [et] at e ⊢; simp only [e]
/-! items -/
theorem atI_map {α β : Type} {f : α → β} {xs : List α} {i : Int} : atI (xs.map f) i = (atI xs i).map f := by
  unfold atI
  rw [List.length_map]
  cases ixN xs.length i with
  | none => rfl
  | some j => simp
theorem atI_nat {α : Type} {xs : List α} {i : Int} {n : Nat} (e : i = n) (h : n < xs.length) : atI xs i = some xs[n] := by
  subst e
  have h1 : ixN xs.length (n : Int) = some n := by
    unfold ixN
    rw [if_pos (by omega), if_pos (by omega)]
    rfl
  unfold atI
  rw [h1]
  exact List.getElem?_eq_getElem h
theorem atI_get {α : Type} {xs : List α} {i : Int} {d : α} (h : 0 ≤ i ∧ i < xs.length) : atI xs i = some (xs.getD i.toNat d) := by
  rw [atI_nat (n := i.toNat) (by omega) (by omega)]
  rw [List.getD_eq_getElem?_getD, List.getElem?_eq_getElem (by omega)]
  rfl
theorem rl_ixL {ds : List D} {i : Int} {d : D} (e : atI ds i = some d) (h : Run (k (.d d)) ⟨env, st⟩ Q) : Run (bnd (lft fun st => ixA st (.d (.lst ds)) (.d (.int i))) k) ⟨env, st⟩ Q := rb_lft (by show (match atI ds i with | some d => some (W.d d, st) | none => none) = _; rw [e]) h
theorem rl_ixF {ds : List D} {i : Int} {d : D} (e : atI ds i = some d) (h : Run (k (.d d)) ⟨env, st⟩ Q) : Run (bnd (lft fun st => ixA st (.d (.fls ds)) (.d (.int i))) k) ⟨env, st⟩ Q := rb_lft (by show (match atI ds i with | some d => some (W.d d, st) | none => none) = _; rw [e]) h
theorem rl_ixT {ds : List D} {i : Int} {d : D} (e : atI ds i = some d) (h : Run (k (.d d)) ⟨env, st⟩ Q) : Run (bnd (lft fun st => ixA st (.d (.tup ds)) (.d (.int i))) k) ⟨env, st⟩ Q := rb_lft (by show (match atI ds i with | some d => some (W.d d, st) | none => none) = _; rw [e]) h
theorem rl_ixO {n : Nat} {ws : List W} {i : Int} {w : W} (e : st[n]? = some (some (.lst ws))) (e2 : atI ws i = some w) (h : Run (k w) ⟨env, st⟩ Q) : Run (bnd (lft fun st => ixA st (.loc n) (.d (.int i))) k) ⟨env, st⟩ Q := rb_lft (by unfold ixA ixI; simp only [e, e2]) h
/-- a list of whole numbers, of texts -/
def ints' (xs : List Int) : D := .lst (xs.map .int)
def strs' (xs : List Str) : D := .lst (xs.map .str)
theorem rl_ixI {xs : List Int} {i : Int} (hi : 0 ≤ i ∧ i < xs.length) (h : Run (k (.d (.int (xs.getD i.toNat 0)))) ⟨env, st⟩ Q) : Run (bnd (lft fun st => ixA st (.d (ints' xs)) (.d (.int i))) k) ⟨env, st⟩ Q := rl_ixL (by rw [atI_map, atI_get hi]; rfl) h
theorem rl_ixSs {xs : List Str} {i : Int} (hi : 0 ≤ i ∧ i < xs.length) (h : Run (k (.d (.str (xs.getD i.toNat "")))) ⟨env, st⟩ Q) : Run (bnd (lft fun st => ixA st (.d (strs' xs)) (.d (.int i))) k) ⟨env, st⟩ Q := rl_ixL (by rw [atI_map, atI_get hi]; rfl) h
theorem rl_ixS {z : Str} {i : Int} (hi : 0 ≤ i ∧ i < z.cps.toList.length) (hl : z.cps.toList.length ≤ 16777216) (h : Run (k (.d (.str (chr1 (z.cps.toList.getD i.toNat 0))))) ⟨env, st⟩ Q) : Run (bnd (lft fun st => ixA st (.d (.str z)) (.d (.int i))) k) ⟨env, st⟩ Q :=
  rb_lft (by
    show (match atI z.cps.toList i with | some ch => if z.length ≤ 16777216 then some (W.d (.str ⟨#[ch]⟩), st) else none | none => none) = _
    rw [atI_get hi]
    have hl : z.length ≤ 16777216 := hl
    simp only [hl, if_true]
    rfl) h
theorem rl_slS {own : Bool} {z : Str} {lo hi : Option Int} (hl : z.length ≤ 16777216) (h : Run (k (.d (.str (cutS z lo hi)))) ⟨env, st⟩ Q) : Run (bnd (lft fun st => sliceA own st (.d (.str z)) lo hi) k) ⟨env, st⟩ Q := rb_lft (by unfold sliceA; simp only [hl, if_true]) h
theorem rl_slL {ds : List D} {lo hi : Option Int} (h : Run (k (.d (.lst (cutW ds lo hi)))) ⟨env, st⟩ Q) : Run (bnd (lft fun st => sliceA false st (.d (.lst ds)) lo hi) k) ⟨env, st⟩ Q :=
  rb_lft (by
    show newL false (cutW (ds.map W.d) lo hi) st = _
    rw [cutW_D]
    unfold newL
    rw [allD_map]
    rfl) h
theorem rl_slF {ds : List D} {lo hi : Option Int} (h : Run (k (.d (.lst (cutW ds lo hi)))) ⟨env, st⟩ Q) : Run (bnd (lft fun st => sliceA false st (.d (.fls ds)) lo hi) k) ⟨env, st⟩ Q :=
  rb_lft (by
    show newL false (cutW (ds.map W.d) lo hi) st = _
    rw [cutW_D]
    unfold newL
    rw [allD_map]
    rfl) h
theorem cutW_map {α γ : Type} {f : α → γ} {xs : List α} {lo hi : Option Int} : cutW (xs.map f) lo hi = (cutW xs lo hi).map f := by
  unfold cutW
  rw [List.length_map, List.map_take, List.map_drop]
theorem rl_slI {xs : List Int} {lo hi : Option Int} (h : Run (k (.d (ints' (cutW xs lo hi)))) ⟨env, st⟩ Q) : Run (bnd (lft fun st => sliceA false st (.d (ints' xs)) lo hi) k) ⟨env, st⟩ Q := rl_slL (by rw [cutW_map]; exact h)
theorem rl_newF {ws : List W} {ds : List D} (e : allD ws = some ds) (h : Run (k (.d (.lst ds))) ⟨env, st⟩ Q) : Run (bnd (lft (newL false ws)) k) ⟨env, st⟩ Q := rb_lft (by unfold newL; simp only [Bool.false_eq_true, if_false, e]) h
theorem rl_newO {ws : List W} {n : Nat} {st' : Store} (e : st.length = n) (e2 : st ++ [some (.lst ws)] = st') (h : Run (k (.loc n)) ⟨env, st'⟩ Q) : Run (bnd (lft (newL true ws)) k) ⟨env, st⟩ Q := by
  subst e e2
  exact rb_lft rfl h
/-! own lists -/
theorem rl_append {n : Nat} {ws : List W} {w : W} {st' : Store} (e : st[n]? = some (some (.lst ws))) (hl : ws.length < 16777216) (e2 : st.set n (some (.lst (ws ++ [w]))) = st') (h : Run (k (.d .non)) ⟨env, st'⟩ Q) : Run (bnd (lft fun st => appendW st (.loc n) [w]) k) ⟨env, st⟩ Q := rb_lft (by unfold appendW wrL; simp only [e, hl, if_true]; rw [e2]) h
theorem rl_clear {n : Nat} {ws : List W} {st' : Store} (e : st[n]? = some (some (.lst ws))) (e2 : st.set n (some (.lst [])) = st') (h : Run (k (.d .non)) ⟨env, st'⟩ Q) : Run (bnd (lft fun st => clearW st (.loc n) []) k) ⟨env, st⟩ Q := rb_lft (by unfold clearW wrL; simp only [e]; rw [e2]) h
/-! calls -/
theorem rb_gP {np : Nat} {F : FP} {ws : List W} {ds : List D} {P : D → Prop} (e : allD ws = some ds) (hn : ds.length = np) (h : ∃ d, F ds = some (.ok d) ∧ P d) (hk : ∀ d, P d → Run (k (.d d)) s Q) : Run (bnd (gP np F (ws ++ [])) k) s Q := by
  obtain ⟨d, h1, h2⟩ := h
  refine rb_eq (a := .d d) (s1 := s) ?_ (hk d h2)
  have e := allD_eq e
  subst e
  unfold gP
  rw [List.append_nil, List.length_map, if_pos hn]
  unfold callP treesE
  rw [bnd_pur, allD_map]
  show outP (F ds) s = _
  rw [h1]
  rfl
theorem rb_gPe {np : Nat} {F : FP} {ws : List W} {ds : List D} {d : D} (e : allD ws = some ds) (hn : ds.length = np) (h : F ds = some (.ok d)) (hk : Run (k (.d d)) s Q) : Run (bnd (gP np F (ws ++ [])) k) s Q := rb_gP e hn (P := fun x => x = d) ⟨d, h, rfl⟩ fun _ e => by subst e; exact hk
theorem rb_gO {np : Nat} {F : FO} {ws : List W} {ds : List D} {o : OO} {st' : Store} (e : allD ws = some ds) (hn : ds.length = np) (h : F ds = some (.ok o)) {i : Nat} (e1 : st.length = i) (e2 : st ++ [some o] = st') (hk : Run (k (.loc i)) ⟨env, st'⟩ Q) : Run (bnd (gO np F (ws ++ [])) k) ⟨env, st⟩ Q := by
  subst e1 e2
  refine rb_eq (a := .loc st.length) (s1 := ⟨env, st ++ [some o]⟩) ?_ hk
  have e := allD_eq e
  subst e
  unfold gO callO treesE
  rw [List.append_nil, List.length_map, if_pos hn, bnd_pur, allD_map]
  show outO (F ds) _ = _
  rw [h]
  rfl
/-! loops -/
def LoopQ (N : SS → Prop) (k : Fl → EM β) (Q : Out β → SS → Prop) : Out Fl → SS → Prop := fun o s => match o with
  | .ok .nx => N s
  | .ok .cnt => N s
  | .ok .brk => Run (k .nx) s Q
  | .ok (.ret w) => Run (k (.ret w)) s Q
  | .ex c ks vs => Q (.ex c ks vs) s
theorem lq_nx {N : SS → Prop} {k : Fl → EM β} (h : N s) : Run (pur .nx) s (LoopQ N k Q) := run_pur h
theorem lq_cnt {N : SS → Prop} {k : Fl → EM β} (h : N s) : Run (pur .cnt) s (LoopQ N k Q) := run_pur h
theorem lq_brk {N : SS → Prop} {k : Fl → EM β} (h : Run (k .nx) s Q) : Run (pur .brk) s (LoopQ N k Q) := run_pur h
theorem lq_ret {N : SS → Prop} {k : Fl → EM β} {w : W} (h : Run (k (.ret w)) s Q) : Run (pur (.ret w)) s (LoopQ N k Q) := run_pur h
theorem rb_loop {α : Type} {f : α → D} {t : Tg} {body : EM Fl} {k : Fl → EM β} {Q : Out β → SS → Prop} (P : List α → SS → Prop)
    (hs : ∀ (a : α) (l : List α) (s : SS), P (a :: l) s → Run (bnd (asg t (.d (f a))) fun _ => bnd body pur) s (LoopQ (P l) k Q)) (hd : ∀ s, P [] s → Run (k .nx) s Q) :
    ∀ (l : List α) (s : SS), P l s → Run (bnd (loopS t body (l.map f)) k) s Q
  | [], s, h => hd s h
  | a :: l, s, h => by
    have h1 := hs a l s h
    have e : (bnd (asg t (.d (f a))) fun _ => bnd body pur) = bnd (asg t (.d (f a))) fun _ => body := by
      congr 1
      funext _ s
      unfold bnd
      cases body s with
      | none => rfl
      | some p => obtain ⟨o, s'⟩ := p; cases o <;> rfl
    rw [e] at h1
    obtain ⟨o, s1, e1, h1⟩ := h1
    have ed : loopS t body ((a :: l).map f) = bnd (bnd (asg t (.d (f a))) fun _ => body) fun x => match x with
      | .nx => loopS t body (l.map f)
      | .cnt => loopS t body (l.map f)
      | .brk => pur .nx
      | .ret w => pur (.ret w) := rfl
    rw [ed]
    refine rb_bnd ?_
    cases o with
    | ok x =>
      refine rb_eq e1 ?_
      cases x with
      | nx => exact rb_loop P hs hd l s1 h1
      | cnt => exact rb_loop P hs hd l s1 h1
      | brk => exact h1
      | ret w => exact h1
    | ex c ks vs => exact ⟨_, s1, bnd_ex e1, h1⟩
theorem rb_loopI {t : Tg} {body : EM Fl} {k : Fl → EM β} {Q : Out β → SS → Prop} {l : List D} (P : List D → SS → Prop) (h : P l s)
    (hs : ∀ (a : D) (l : List D) (s : SS), P (a :: l) s → Run (bnd (asg t (.d a)) fun _ => bnd body pur) s (LoopQ (P l) k Q)) (hd : ∀ s, P [] s → Run (k .nx) s Q) :
    Run (bnd (loopS t body l) k) s Q := by
  have := rb_loop (f := fun x => x) P hs hd l s h
  rw [List.map_id'] at this
  exact this
def CompQ (N : SS → Prop) (Y : W → SS → Prop) : Out (Option W) → SS → Prop := fun o s => match o with
  | .ok none => N s
  | .ok (some w) => Y w s
  | .ex _ _ _ => False
theorem run_comp {α : Type} {f : α → D} {own : List Nat} {t : Tg} {tt : EM Bool} {el : EM W} (P : List α → List W → SS → Prop)
    (hs : ∀ (a : α) (l : List α) (acc : List W) (s : SS), P (a :: l) acc s → Run (bnd (wipS own) fun _ => bnd (asg t (.d (f a))) fun _ => bnd tt fun b => bnd (ite2 b (bnd el fun w => pur (some w)) (pur none)) pur) s (CompQ (P l acc) fun w s' => acc.length < 16777216 ∧ P l (acc ++ [w]) s')) :
    ∀ (l : List α) (acc : List W) (s : SS), P l acc s → ∃ ws s', compL own t tt el (l.map f) acc s = some (.ok ws, s') ∧ P [] ws s'
  | [], acc, s, h => ⟨acc, s, rfl, h⟩
  | a :: l, acc, s, h => by
    obtain ⟨o, s1, e1, h1⟩ := hs a l acc s h
    have ed : compL own t tt el ((a :: l).map f) acc = bnd (bnd (wipS own) fun _ => asg t (.d (f a))) fun _ => bnd tt fun b => if b then bnd el fun w => (if acc.length < 16777216 then compL own t tt el (l.map f) (acc ++ [w]) else non) else compL own t tt el (l.map f) acc := rfl
    rw [ed]
    have e2 : (bnd (wipS own) fun _ => bnd (asg t (.d (f a))) fun _ => bnd tt fun b => bnd (ite2 b (bnd el fun w => pur (some w)) (pur none)) pur) = bnd (bnd (bnd (wipS own) fun _ => asg t (.d (f a))) fun _ => bnd tt fun b => ite2 b (bnd el fun w => pur (some w)) (pur none)) pur := by
      rw [bnd_assoc, bnd_assoc]
      congr 1
      funext _
      congr 1
      funext _
      rw [bnd_assoc]
    have e3 : (bnd (bnd (wipS own) fun _ => asg t (.d (f a))) fun _ => bnd tt fun b => if b then bnd el fun w => (if acc.length < 16777216 then compL own t tt el (l.map f) (acc ++ [w]) else non) else compL own t tt el (l.map f) acc) =
        bnd (bnd (bnd (wipS own) fun _ => asg t (.d (f a))) fun _ => bnd tt fun b => ite2 b (bnd el fun w => pur (some w)) (pur none)) fun x => match x with
          | some w => (if acc.length < 16777216 then compL own t tt el (l.map f) (acc ++ [w]) else non)
          | none => compL own t tt el (l.map f) acc := by
      rw [bnd_assoc, bnd_assoc, bnd_assoc]
      congr 1
      funext _
      congr 1
      funext _
      rw [bnd_assoc]
      congr 1
      funext b
      cases b with
      | false => rfl
      | true =>
        show _ = bnd (bnd el fun w => pur (some w)) _
        rw [bnd_assoc]
        rfl
    rw [e3]
    rw [e2] at e1
    cases q : (bnd (bnd (wipS own) fun _ => asg t (.d (f a))) fun _ => bnd tt fun b => ite2 b (bnd el fun w => pur (some w)) (pur none)) s with
    | none => rw [bnd_no q] at e1; cases e1
    | some p =>
      obtain ⟨o2, s2⟩ := p
      cases o2 with
      | ex _ _ _ => rw [bnd_ex q] at e1; cases e1; exact h1.elim
      | ok x =>
        rw [bnd_ok q] at e1
        cases e1
        rw [bnd_ok q]
        cases x with
        | none => exact run_comp P hs l acc s1 h1
        | some w =>
          obtain ⟨h1, h2⟩ := h1
          obtain ⟨ws, s', e4, h4⟩ := run_comp P hs l (acc ++ [w]) s1 h2
          refine ⟨ws, s', ?_, h4⟩
          simp only [h1, if_true]
          exact e4
def compK (own : List Nat) (t : Tg) (tt : EM Bool) (el : EM W) (ownr : Bool) (ds : List D) : EM W := fun s => match compL own t tt el ds [] s with
  | some (.ok ws, s3) => match newL ownr ws s3.st with
    | some (w, st) => some (.ok w, ⟨wipeO s3.env own, st⟩)
    | none => none
  | _ => none
theorem rb_compE {own : List Nat} {mi : EM (List D)} {t : Tg} {tt : EM Bool} {el : EM W} {ownr : Bool} (h : Run (bnd mi fun ds => bnd (compK own t tt el ownr ds) k) s Q) : Run (bnd (compE own mi t tt el ownr) k) s Q := rb_bnd h
theorem rb_compK {α : Type} {f : α → D} {own : List Nat} {t : Tg} {tt : EM Bool} {el : EM W} {ownr : Bool} {l : List α} (P : List α → List W → SS → Prop) (h : P l [] s)
    (hs : ∀ (a : α) (l : List α) (acc : List W) (s : SS), P (a :: l) acc s → Run (bnd (wipS own) fun _ => bnd (asg t (.d (f a))) fun _ => bnd tt fun b => bnd (ite2 b (bnd el fun w => pur (some w)) (pur none)) pur) s (CompQ (P l acc) fun w s' => acc.length < 16777216 ∧ P l (acc ++ [w]) s'))
    (hd : ∀ ws env st, P [] ws ⟨env, st⟩ → Run (bnd (lft (newL ownr ws)) k) ⟨wipeO env own, st⟩ Q) : Run (bnd (compK own t tt el ownr (l.map f)) k) s Q := by
  obtain ⟨ws, s', e, h1⟩ := run_comp P hs l [] s h
  obtain ⟨env, st⟩ := s'
  have h2 := hd ws env st h1
  unfold Run at h2 ⊢
  obtain ⟨o, s2, e2, q⟩ := h2
  refine ⟨o, s2, ?_, q⟩
  rw [← e2]
  unfold bnd lft compK
  simp only [e]
  cases newL ownr ws st with
  | none => rfl
  | some p => rfl
theorem cq_no {N : SS → Prop} {Y : W → SS → Prop} (h : N s) : Run (pur none) s (CompQ N Y) := run_pur h
theorem cq_yes {N : SS → Prop} {Y : W → SS → Prop} {w : W} (h : Y w s) : Run (pur (some w)) s (CompQ N Y) := run_pur h
theorem rb_wip {own : List Nat} {k : Unit → EM β} {env' : List (Option W)} (e : wipeO env own = env') (h : Run (k ()) ⟨env', st⟩ Q) : Run (bnd (wipS own) k) ⟨env, st⟩ Q := by
  subst e
  exact rb_eq (a := ()) rfl h
/-! while -/
def whK (n : Nat) (t : EM Bool) (b : EM Fl) : Fl → EM Fl
  | .nx => whileS n t b
  | .cnt => whileS n t b
  | .brk => pur .nx
  | .ret w => pur (.ret w)
theorem rb_while {t : EM Bool} {b : EM Fl} {k : Fl → EM β} (P : Nat → SS → Prop)
    (hs : ∀ (n : Nat) (s : SS), P (n + 1) s → Run (bnd t fun x => bnd (ite2 x (bnd b fun f => pur (some f)) (pur none)) pur) s (fun o s' => match o with
      | .ok (some f) => LoopQ (P n) k Q (.ok f) s'
      | .ok none => Run (k .nx) s' Q
      | .ex c ks vs => Q (.ex c ks vs) s')) (h0 : ∀ s, P 0 s → False) : ∀ (n : Nat) (s : SS), P n s → Run (bnd (whileS n t b) k) s Q
  | 0, s, h => (h0 s h).elim
  | n + 1, s, h => by
    obtain ⟨o, s1, e1, h1⟩ := hs n s h
    have ed : whileS (n + 1) t b = bnd (bnd t fun x => bnd (ite2 x (bnd b fun f => pur (some f)) (pur none)) pur) fun y => match y with
        | some f => whK n t b f
        | none => pur .nx := by
      rw [bnd_assoc]
      show bnd t _ = _
      congr 1
      funext x
      cases x with
      | false => rfl
      | true =>
        show bnd b _ = bnd (bnd (bnd b fun f => pur (some f)) pur) _
        rw [bnd_assoc, bnd_assoc]
        rfl
    rw [ed]
    refine rb_bnd ?_
    cases o with
    | ex c ks vs => exact ⟨_, s1, bnd_ex e1, h1⟩
    | ok y =>
      refine rb_eq e1 ?_
      cases y with
      | none => exact h1
      | some f =>
        cases f with
        | nx => exact rb_while P hs h0 n s1 h1
        | cnt => exact rb_while P hs h0 n s1 h1
        | brk => exact h1
        | ret w => exact h1
/-! whole functions -/
def RetP (P : D → Prop) : Out Fl → SS → Prop := fun o s => match o with
  | .ok .nx => P .non
  | .ok (.ret (.d d)) => P d
  | .ok (.ret (.loc n)) => ∃ d st, fz 20 (.loc n) s.st = some (d, st) ∧ P d
  | _ => False
theorem rp_nx {P : D → Prop} (h : P .non) : Run (pur .nx) s (RetP P) := run_pur h
theorem rp_d {P : D → Prop} {d : D} (h : P d) : Run (pur (.ret (.d d))) s (RetP P) := run_pur h
theorem rp_lst {P : D → Prop} {n : Nat} {ws : List W} {ds : List D} (e : st[n]? = some (some (.lst ws))) (e2 : allD ws = some ds) (h : P (.lst ds)) : Run (pur (.ret (.loc n))) ⟨env, st⟩ (RetP P) := run_pur ⟨_, _, fz_lst e e2, h⟩
theorem fp_run {n : Nat} {b : EM Fl} {ds : List D} {P : D → Prop} (env : List (Option W)) (e : initS n (ds.map .d) [] = ⟨env, []⟩) (h : Run (bnd b pur) ⟨env, []⟩ (RetP P)) : ∃ d, pureP (bodyF n b) ds = some (.ok d) ∧ P d := by
  obtain ⟨o, s', e1, h⟩ := run_bnd h
  unfold pureP bodyF
  rw [e, e1]
  cases o with
  | ex _ _ _ => exact h.elim
  | ok f =>
    cases f with
    | nx => exact ⟨.non, rfl, h⟩
    | brk => exact h.elim
    | cnt => exact h.elim
    | ret w =>
      cases w with
      | d d => exact ⟨d, by simp only [fz_d], h⟩
      | loc n =>
        obtain ⟨d, st, h1, h2⟩ := h
        exact ⟨d, by simp only [h1], h2⟩
theorem fp_eq {n : Nat} {b : EM Fl} {ds : List D} {d : D} (env : List (Option W)) (e : initS n (ds.map .d) [] = ⟨env, []⟩) (h : Run (bnd b pur) ⟨env, []⟩ (RetP fun x => x = d)) : pureP (bodyF n b) ds = some (.ok d) := by
  obtain ⟨d', h1, rfl⟩ := fp_run env e h
  exact h1
def RetO (P : OO → Prop) : Out Fl → SS → Prop := fun o s => match o with
  | .ok (.ret (.loc n)) => ∃ o o', s.st[n]? = some (some o) ∧ o.fz (s.st.set n none) = some o' ∧ P o'
  | _ => False
theorem ro_lst {P : OO → Prop} {n : Nat} {ws : List W} {ds : List D} (e : st[n]? = some (some (.lst ws))) (e2 : allD ws = some ds) (h : P (.lst (ds.map .d))) : Run (pur (.ret (.loc n))) ⟨env, st⟩ (RetO P) := run_pur ⟨_, _, e, by
    unfold OO.fz
    rw [allD_eq e2]
    simp only [fzL_d], h⟩
theorem fo_eq {n : Nat} {b : EM Fl} {ds : List D} {o : OO} (env : List (Option W)) (e : initS n (ds.map .d) [] = ⟨env, []⟩) (h : Run (bnd b pur) ⟨env, []⟩ (RetO fun x => x = o)) : pureO (bodyF n b) ds = some (.ok o) := by
  obtain ⟨x, s', e1, h⟩ := run_bnd h
  unfold pureO bodyF
  rw [e, e1]
  cases x with
  | ex _ _ _ => exact h.elim
  | ok f =>
    cases f with
    | nx => exact h.elim
    | brk => exact h.elim
    | cnt => exact h.elim
    | ret w =>
      cases w with
      | d d => exact h.elim
      | loc n =>
        obtain ⟨o1, o2, h1, h2, h3⟩ := h
        subst h3
        simp only [h1, h2]
end
section
variable {β : Type} {s : SS} {Q : Out β → SS → Prop}
theorem rb_itI {k : List D → EM β} {xs : List Int} (h : Run (k (xs.map .int)) s Q) : Run (bnd (itK (.d (ints' xs))) k) s Q := h
theorem rb_itSs {k : List D → EM β} {xs : List Str} (h : Run (k (xs.map .str)) s Q) : Run (bnd (itK (.d (strs' xs))) k) s Q := h
end
/-! .. with what is asked behind -/
section
variable {β : Type} {env : List (Option W)} {st st' : Store} {s : SS} {Q : Out β → SS → Prop} {k : W → EM β}
theorem rl_append' {n : Nat} {ws : List W} {w : W} (e : st[n]? = some (some (.lst ws))) (e2 : st.set n (some (.lst (ws ++ [w]))) = st') (h : Run (k (.d .non)) ⟨env, st'⟩ Q) (hl : ws.length < 16777216) : Run (bnd (lft fun st => appendW st (.loc n) [w]) k) ⟨env, st⟩ Q := rl_append e hl e2 h
theorem rl_ixI' {xs : List Int} {i : Int} (h : Run (k (.d (.int (xs.getD i.toNat 0)))) ⟨env, st⟩ Q) (hi : 0 ≤ i ∧ i < xs.length) : Run (bnd (lft fun st => ixA st (.d (ints' xs)) (.d (.int i))) k) ⟨env, st⟩ Q := rl_ixI hi h
theorem rl_ixSs' {xs : List Str} {i : Int} (h : Run (k (.d (.str (xs.getD i.toNat "")))) ⟨env, st⟩ Q) (hi : 0 ≤ i ∧ i < xs.length) : Run (bnd (lft fun st => ixA st (.d (strs' xs)) (.d (.int i))) k) ⟨env, st⟩ Q := rl_ixSs hi h
theorem rl_ixS' {z : Str} {i : Int} (h : Run (k (.d (.str (chr1 (z.cps.toList.getD i.toNat 0))))) ⟨env, st⟩ Q) (hi : (0 ≤ i ∧ i < z.cps.toList.length) ∧ z.cps.toList.length ≤ 16777216) : Run (bnd (lft fun st => ixA st (.d (.str z)) (.d (.int i))) k) ⟨env, st⟩ Q := rl_ixS hi.1 hi.2 h
theorem rl_lenS' {z : Str} (h : Run (k (.d (.int z.length))) ⟨env, st⟩ Q) (hl : z.length ≤ 16777216) : Run (bnd (lft fun st => lenW st [.d (.str z)]) k) ⟨env, st⟩ Q := rl_lenS hl h
theorem rl_addS' {own : Bool} {i j : Str} (h : Run (k (.d (.str (i ++ j)))) ⟨env, st⟩ Q) (hl : i.length + j.length ≤ 16777216) : Run (bnd (lft fun st => addA own st (.d (.str i)) (.d (.str j))) k) ⟨env, st⟩ Q := rl_addS hl h
theorem rl_addL' {ds es : List D} (h : Run (k (.d (.lst (ds ++ es)))) ⟨env, st⟩ Q) (hl : ds.length + es.length ≤ 16777216) : Run (bnd (lft fun st => addA false st (.d (.lst ds)) (.d (.lst es))) k) ⟨env, st⟩ Q := rl_addL hl h
theorem rl_slS' {own : Bool} {z : Str} {lo hi : Option Int} (h : Run (k (.d (.str (cutS z lo hi)))) ⟨env, st⟩ Q) (hl : z.length ≤ 16777216) : Run (bnd (lft fun st => sliceA own st (.d (.str z)) lo hi) k) ⟨env, st⟩ Q := rl_slS hl h
theorem rl_mulS' {own : Bool} {z : Str} {n : Int} (h : Run (k (.d (.str (Txt.mul z n)))) ⟨env, st⟩ Q) (hs : z.length ≤ 1000 ∧ n ≤ 1000 ∧ 0 ≤ n) : Run (bnd (lft fun st => mulA own st (.d (.str z)) (.d (.int n))) k) ⟨env, st⟩ Q := rl_mulS hs h
theorem rl_mulI' {own : Bool} {i j : Int} (h : Run (k (.d (.int (i * j)))) ⟨env, st⟩ Q) (hs : (-18446744073709551616 < i ∧ i < 18446744073709551616) ∨ (-18446744073709551616 < j ∧ j < 18446744073709551616)) : Run (bnd (lft fun st => mulA own st (.d (.int i)) (.d (.int j))) k) ⟨env, st⟩ Q := rl_mulI hs h
theorem rl_mod' {i j : Int} (h : Run (k (.d (.int (i % j)))) ⟨env, st⟩ Q) (hj : 0 < j) : Run (bnd (lft fun st => intF modI st (.d (.int i)) (.d (.int j))) k) ⟨env, st⟩ Q := rl_mod hj h
theorem rl_div' {i j : Int} (h : Run (k (.d (.int (i / j)))) ⟨env, st⟩ Q) (hj : 0 < j ∧ j < 1000000000000000000000000000000) : Run (bnd (lft fun st => intF divI st (.d (.int i)) (.d (.int j))) k) ⟨env, st⟩ Q := rl_div hj h
theorem rb_rg1' {k : List D → EM β} {j : Int} (h : Run (k (rngL 0 j.toNat)) s Q) (hj : j < 1000000000 ∧ -1000000000 < j) : Run (bnd (rg1K [.d (.int j)]) k) s Q := rb_rg1 hj h
theorem rb_rg2' {k : List D → EM β} {i j : Int} (h : Run (k (rngL i (j - i).toNat)) s Q) (hj : (j < 1000000000 ∧ -1000000000 < j) ∧ i < 1000000000 ∧ -1000000000 < i) : Run (bnd (rg2K [.d (.int i), .d (.int j)]) k) s Q := rb_rg2 hj h
end
/-- own lists of whole numbers, of texts, of trees -/
def iw (xs : List Int) : List W := xs.map fun i => W.d (.int i)
def sw (xs : List Str) : List W := xs.map fun i => W.d (.str i)
theorem allD_iw (xs : List Int) : allD (iw xs) = some (xs.map D.int) := by
  have := allD_map (xs.map D.int)
  rw [List.map_map] at this
  exact this
theorem allD_sw (xs : List Str) : allD (sw xs) = some (xs.map D.str) := by
  have := allD_map (xs.map D.str)
  rw [List.map_map] at this
  exact this
theorem iw_snoc {xs : List Int} {v : Int} : iw xs ++ [W.d (.int v)] = iw (xs ++ [v]) := by unfold iw; simp
theorem sw_snoc {xs : List Str} {v : Str} : sw xs ++ [W.d (.str v)] = sw (xs ++ [v]) := by unfold sw; simp
theorem dw_snoc {xs : List D} {v : D} : xs.map W.d ++ [W.d v] = (xs ++ [v]).map W.d := by simp
theorem iw_len {xs : List Int} : (iw xs).length = xs.length := by unfold iw; simp
theorem sw_len {xs : List Str} : (sw xs).length = xs.length := by unfold sw; simp
/-! comprehensions that change nothing but their own name -/
inductive All2 {α γ : Type} (Y : α → γ → Prop) : List α → List γ → Prop where
  | nil : All2 Y [] []
  | cons {a : α} {b : γ} {l : List α} {r : List γ} (h : Y a b) (t : All2 Y l r) : All2 Y (a :: l) (b :: r)
theorem All2.len {α γ : Type} {Y : α → γ → Prop} {l : List α} {r : List γ} (h : All2 Y l r) : l.length = r.length := by
  induction h with
  | nil => rfl
  | cons _ _ ih => exact congrArg (· + 1) ih
def EvQ (s0 : SS) (Y : W → Prop) : Out W → SS → Prop := fun o s => s = s0 ∧ match o with
  | .ok w => Y w
  | .ex _ _ _ => False
theorem ev_ok {s : SS} {Y : W → Prop} {w : W} (h : Y w) : Run (pur w) s (EvQ s Y) := run_pur ⟨rfl, h⟩
section
variable {β : Type} {env : List (Option W)} {st : Store} {Q : Out β → SS → Prop} {k : W → EM β}
theorem compL_snd {α : Type} {f : α → D} {i : Nat} {tt : EM Bool} {el : EM W} (Y : α → W → Prop) (p : α → Bool)
    (ht : ∀ (a : α), tt ⟨env.set i (some (.d (f a))), st⟩ = some (.ok (p a), ⟨env.set i (some (.d (f a))), st⟩))
    (hs : ∀ (a : α), p a = true → ∃ w, el ⟨env.set i (some (.d (f a))), st⟩ = some (.ok w, ⟨env.set i (some (.d (f a))), st⟩) ∧ Y a w) : ∀ (l : List α) (acc : List W) (x : Option W), acc.length + l.length ≤ 16777216 →
      ∃ ws x', compL [i] (.name i) tt el (l.map f) acc ⟨env.set i x, st⟩ = some (.ok (acc ++ ws), ⟨env.set i x', st⟩) ∧ All2 Y (l.filter p) ws
  | [], acc, x, _ => ⟨[], x, by rw [List.append_nil]; rfl, .nil⟩
  | a :: l, acc, x, hl => by
    have hl : acc.length + (l.length + 1) ≤ 16777216 := hl
    have e0 : (bnd (wipS [i]) fun _ => asg (.name i) (.d (f a))) ⟨env.set i x, st⟩ = some (.ok (), ⟨env.set i (some (.d (f a))), st⟩) := by
      show some (Out.ok (), SS.mk (((env.set i x).set i none).set i (some (.d (f a)))) st) = _
      rw [List.set_set, List.set_set]
    have ed : compL [i] (.name i) tt el ((a :: l).map f) acc = bnd (bnd (wipS [i]) fun _ => asg (.name i) (.d (f a))) fun _ => bnd tt fun b => if b then bnd el fun w => (if acc.length < 16777216 then compL [i] (.name i) tt el (l.map f) (acc ++ [w]) else non) else compL [i] (.name i) tt el (l.map f) acc := rfl
    rw [ed, bnd_ok e0, bnd_ok (ht a)]
    cases hp : p a with
    | true =>
      obtain ⟨w, ew, hy⟩ := hs a hp
      rw [if_pos rfl, bnd_ok ew, if_pos (by omega)]
      obtain ⟨ws, x', h1, h2⟩ := compL_snd Y p ht hs l (acc ++ [w]) (some (.d (f a))) (by simp; omega)
      refine ⟨w :: ws, x', ?_, ?_⟩
      · rw [h1, List.append_assoc]
        rfl
      · rw [List.filter_cons_of_pos hp]
        exact .cons hy h2
    | false =>
      rw [if_neg Bool.false_ne_true]
      obtain ⟨ws, x', h1, h2⟩ := compL_snd Y p ht hs l acc (some (.d (f a))) (by omega)
      refine ⟨ws, x', h1, ?_⟩
      rw [List.filter_cons_of_neg (by rw [hp]; exact Bool.false_ne_true)]
      exact h2
theorem rb_compS {α : Type} {f : α → D} {i : Nat} {el : EM W} {ownr : Bool} {l : List α} {env' : List (Option W)} (Y : α → W → Prop) (he : env.set i none = env') (hl : l.length ≤ 16777216)
    (hs : ∀ (a : α), a ∈ l → ∀ env1, env.set i (some (.d (f a))) = env1 → Run (bnd el pur) ⟨env1, st⟩ (EvQ ⟨env1, st⟩ (Y a)))
    (hd : ∀ ws, All2 Y l ws → Run (bnd (lft (newL ownr ws)) k) ⟨env', st⟩ Q) : Run (bnd (compK [i] (.name i) (pur true) el ownr (l.map f)) k) ⟨env, st⟩ Q := by
  subst he
  have h1 : ∀ a : { a // a ∈ l }, (fun _ : { a // a ∈ l } => true) a = true → ∃ w, el ⟨env.set i (some (.d (f a.1))), st⟩ = some (.ok w, ⟨env.set i (some (.d (f a.1))), st⟩) ∧ Y a.1 w := fun a _ => by
    obtain ⟨o, s', e1, e2, h⟩ := run_bnd (hs a.1 a.2 _ rfl)
    subst e2
    cases o with
    | ok w => exact ⟨w, e1, h⟩
    | ex _ _ _ => exact h.elim
  obtain ⟨ws, x', h2, h3⟩ := compL_snd (env := env) (st := st) (f := fun a : { a // a ∈ l } => f a.1) (i := i) (tt := pur true) (el := el) (fun a => Y a.1) (fun _ => true) (fun _ => rfl) h1 l.attach [] env[i]?.join (by simpa using hl)
  have e0 : env.set i env[i]?.join = env := by
    apply List.ext_getElem?
    intro j
    by_cases hj : i = j
    · subst hj
      by_cases hlt : i < env.length
      · rw [List.getElem?_set_self hlt, List.getElem?_eq_getElem hlt]
        rfl
      · rw [List.set_eq_of_length_le (by omega)]
    · rw [List.getElem?_set_ne hj]
  rw [e0] at h2
  have e3 : l.attach.map (fun a : { a // a ∈ l } => f a.1) = l.map f := List.attach_map_val
  rw [e3, List.nil_append] at h2
  have h4 : All2 Y l ws := by
    have e5 : l.attach.filter (fun _ => true) = l.attach := by simp
    rw [e5] at h3
    have e6 : l = l.attach.map (fun a : { a // a ∈ l } => a.1) := by simp
    rw [e6]
    clear h2 h1 e3 e5 e6 e0 hs hd hl
    revert h3
    generalize l.attach = q
    intro h3
    induction h3 with
    | nil => exact .nil
    | cons h _ ih => exact .cons h ih
  obtain ⟨o, s2, e7, q⟩ := hd ws h4
  refine ⟨o, s2, ?_, q⟩
  rw [← e7]
  unfold bnd lft compK
  simp only [h2]
  cases newL ownr ws st with
  | none => rfl
  | some p =>
    show k p.1 ⟨(env.set i x').set i none, p.2⟩ = _
    rw [List.set_set]
end
theorem cut_le {z : Str} {lo hi : Option Int} {n : Nat} (h : z.length ≤ n) : (cutS z lo hi).length ≤ n := Nat.le_trans (cutS_length z lo hi) h
theorem app_le {a b : Str} {n m : Nat} (h1 : a.length ≤ n) (h2 : b.length ≤ m) : (a ++ b).length ≤ n + m := by
  rw [Str.length_append]
  exact Nat.add_le_add h1 h2
theorem chr1_len {c : Nat} : (chr1 c).length = 1 := rfl
theorem mul_len {x : Str} {n : Int} (h0 : 0 ≤ n) : (Txt.mul x n).length = x.length * n.toNat := by
  have h := PyProof.Rows.len_mul x n
  have e : decide (n < 0) = false := decide_eq_false (by omega)
  rw [e] at h
  simp only [Bool.false_eq_true, if_false] at h
  have e2 : ((x.length * n.toNat : Nat) : Int) = (x.length : Int) * n := by
    rw [Int.natCast_mul, Int.toNat_of_nonneg h0]
  omega
theorem eq_str (y z : Str) : D.eq (.str y) (.str z) = decide (y = z) := by
  unfold D.eq toPy PyData.eqv
  rw [Bool.eq_iff_iff]
  simp
theorem eq_int (y z : Int) : D.eq (.int y) (.int z) = decide (y = z) := by
  unfold D.eq toPy PyData.eqv
  rw [Bool.eq_iff_iff]
  simp
theorem any_str (z : Str) (zs : List Str) : ((zs.map D.str).any fun e => D.eq e (.str z)) = decide (z ∈ zs) := by
  rw [List.any_map]
  rw [Bool.eq_iff_iff]
  simp only [List.any_eq_true, Function.comp, eq_str, decide_eq_true_eq]
  exact ⟨fun ⟨x, h, e⟩ => e ▸ h, fun h => ⟨z, h, rfl⟩⟩
theorem flat_strs (zs : List Str) : (zs.map D.str).all flatD = true := by
  rw [List.all_map, List.all_eq_true]
  exact fun _ _ => rfl
section
variable {β : Type} {env : List (Option W)} {st st' : Store} {s : SS} {Q : Out β → SS → Prop} {k : W → EM β}
theorem inB_strT {z : Str} {zs : List Str} : inB st (.d (.str z)) (.d (.tup (zs.map .str))) = some (decide (z ∈ zs)) := by
  unfold inB
  simp only [snap_d, seqD, flat_strs, any_str, flatD, Bool.and_self, if_true]
theorem inB_strL {z : Str} {zs : List Str} : inB st (.d (.str z)) (.d (strs' zs)) = some (decide (z ∈ zs)) := by
  unfold inB strs'
  simp only [snap_d, seqD, flat_strs, any_str, flatD, Bool.and_self, if_true]
theorem rl_inT {z : Str} {zs : List Str} (h : Run (k (.d (.bl (decide (z ∈ zs))))) ⟨env, st⟩ Q) : Run (bnd (lft fun st => inA st (.d (.str z)) (.d (.tup (zs.map .str)))) k) ⟨env, st⟩ Q := rl_in inB_strT h
theorem rl_inL {z : Str} {zs : List Str} (h : Run (k (.d (.bl (decide (z ∈ zs))))) ⟨env, st⟩ Q) : Run (bnd (lft fun st => inA st (.d (.str z)) (.d (strs' zs))) k) ⟨env, st⟩ Q := rl_in inB_strL h
theorem rl_ninT {z : Str} {zs : List Str} (h : Run (k (.d (.bl (!decide (z ∈ zs))))) ⟨env, st⟩ Q) : Run (bnd (lft fun st => ninA st (.d (.str z)) (.d (.tup (zs.map .str)))) k) ⟨env, st⟩ Q := rl_nin inB_strT h
theorem rl_ninL {z : Str} {zs : List Str} (h : Run (k (.d (.bl (!decide (z ∈ zs))))) ⟨env, st⟩ Q) : Run (bnd (lft fun st => ninA st (.d (.str z)) (.d (strs' zs))) k) ⟨env, st⟩ Q := rl_nin inB_strL h
end
end EV
/-! EV16: what many laws share. -/
namespace EV
open PySem L2
local macro_rules | `(tactic| walk_at "go") => `(tactic| repeat (first
  | with_reducible refine rb_cst ?_
  | with_reducible refine rb_var (by with_unfolding_all rfl) ?_
  | with_reducible refine rb_op2 ?_
  | with_reducible refine rb_sq ?_
  | with_reducible refine rb_sqN ?_
  | with_reducible refine rb_sqR ?_
  | with_reducible refine rb_asgS ?_
  | with_reducible refine rb_asg (by dsimp only [List.set] <;> exact rfl) ?_
  | with_reducible refine rb_acons ?_
  | with_reducible refine rb_anil ?_
  | with_reducible refine rb_toB ?_
  | with_reducible refine rb_toBK ?_
  | with_reducible refine rb_ifE ?_
  | with_reducible refine rb_callB ?_
  | with_reducible refine rb_callE ?_
  | with_reducible refine rb_retS ?_
  | with_reducible refine rb_pur ?_
  | with_reducible refine rb_iteT ?_
  | with_reducible refine rb_iteF ?_
  | with_reducible refine rb_iteNT ?_
  | with_reducible refine rb_iteNF ?_
  | with_reducible refine rb_lst ?_
  | with_reducible refine rb_lstK (by decide) ?_
  | with_reducible refine rl_newF (by dsimp only [allD, Option.map] <;> exact rfl) ?_
  | with_reducible refine rb_slE ?_
  | with_reducible refine rb_partN ?_
  | with_reducible refine rb_partS ?_
  | with_reducible refine rb_partK ?_
  | with_reducible refine rb_exprS ?_
  | with_reducible refine rb_forS ?_
  | with_reducible refine rb_items ?_
  | with_reducible refine rb_itL ?_
  | with_reducible refine rb_itF ?_
  | with_reducible refine rb_itI ?_
  | with_reducible refine rb_itSs ?_
  | with_reducible refine rb_itT ?_
  | with_reducible refine rb_itS ?_
  | with_reducible refine rb_range1 ?_
  | with_reducible refine rb_range2 ?_
  | with_reducible refine rb_ntB ?_
  | with_reducible refine rb_anB ?_
  | with_reducible refine rb_orB ?_
  | with_reducible refine rb_anV ?_
  | with_reducible refine rb_orV ?_
  | with_reducible refine rb_ntV ?_
  | with_reducible refine rb_ofB ?_
  | with_reducible refine rb_chain ?_
  | with_reducible refine rb_chK ?_
  | with_reducible refine rb_bm ?_
  | with_reducible refine rb_bmK (by with_unfolding_all rfl) ?_
  | with_reducible refine rb_frz ?_
  | with_reducible refine rb_frzD ?_
  | with_reducible refine rb_compE ?_
  | with_reducible refine rb_wip (by dsimp only [wipeO, List.set] <;> exact rfl) ?_
  | with_reducible refine rb_fld ?_
  | with_reducible refine rb_meth ?_
  | with_reducible refine rb_tup ?_
  | with_reducible refine rb_trees ?_
  | with_reducible refine rb_treesK (by dsimp only [allD, Option.map] <;> exact rfl) ?_
  | with_reducible refine rb_tupK (by decide) ?_
  | with_reducible refine rl_mod (by decide) ?_
  | with_reducible refine rl_div (by decide) ?_
  | with_reducible refine rl_addI ?_
  | with_reducible refine rl_sub ?_
  | with_reducible refine rl_addL (by decide) ?_
  | with_reducible refine rl_neg ?_
  | with_reducible refine rl_mulI (Or.inr (by decide)) ?_
  | with_reducible refine rl_mulI (Or.inl (by decide)) ?_
  | with_reducible refine rl_append' (by with_unfolding_all rfl) (by dsimp only [List.set] <;> exact rfl) ?_ ?_
  | with_reducible refine rl_ixI (by first | omega | (decide +kernel)) ?_
  | with_reducible refine rl_ixI' ?_ ?_
  | with_reducible refine rl_ixSs (by first | omega | (decide +kernel)) ?_
  | with_reducible refine rl_ixSs' ?_ ?_
  | with_reducible refine rl_ixS' ?_ ?_
  | with_reducible refine rl_slI ?_
  | with_reducible refine rl_slL ?_
  | with_reducible refine rl_slF ?_
  | with_reducible refine rl_lenS (by first | omega | (decide +kernel)) ?_
  | with_reducible refine rl_lenS' ?_ ?_
  | with_reducible refine rl_addS (by first | omega | (decide +kernel)) ?_
  | with_reducible refine rl_addS' ?_ ?_
  | with_reducible refine rl_slS (by first | omega | (decide +kernel)) ?_
  | with_reducible refine rl_slS' ?_ ?_
  | with_reducible refine rl_addL' ?_ ?_
  | with_reducible refine rl_mulI (by first | omega | (decide +kernel)) ?_
  | with_reducible refine rl_mod (by first | omega | (decide +kernel)) ?_
  | with_reducible refine rl_div (by first | omega | (decide +kernel)) ?_
  | with_reducible refine rb_rg1 (by first | omega | (decide +kernel)) ?_
  | with_reducible refine rb_rg2 (by first | omega | (decide +kernel)) ?_
  | with_reducible refine rl_mulI' ?_ ?_
  | with_reducible refine rl_mod' ?_ ?_
  | with_reducible refine rl_div' ?_ ?_
  | with_reducible refine rl_mulS' ?_ ?_
  | with_reducible refine rb_gPe (by dsimp only [allD, Option.map] <;> exact rfl) rfl (by assumption) ?_
  | with_reducible refine rl_lt ?_
  | with_reducible refine rl_le ?_
  | with_reducible refine rl_gt ?_
  | with_reducible refine rl_ge ?_
  | with_reducible refine rl_eqI ?_
  | with_reducible refine rl_eqS ?_
  | with_reducible refine rl_neI ?_
  | with_reducible refine rl_neS ?_
  | with_reducible refine rl_isBl ?_
  | with_reducible refine rl_isnBl ?_
  | with_reducible refine rl_isN ?_
  | with_reducible refine rl_isnN ?_
  | with_reducible refine rl_ninC ?_
  | with_reducible refine rl_inC ?_
  | with_reducible refine rl_intB ?_
  | with_reducible refine rb_bnd ?_
  | with_reducible refine rl_isi (by with_unfolding_all rfl) ?_
  | with_reducible refine rl_clear (by with_unfolding_all rfl) (by dsimp only [List.set] <;> exact rfl) ?_
  | with_reducible refine rl_inT ?_
  | with_reducible refine rl_inL ?_
  | with_reducible refine rl_ninT ?_
  | with_reducible refine rl_ninL ?_
  | with_reducible refine rl_lenL ?_
  | with_reducible refine rl_lenF ?_
  | with_reducible refine rl_lenT ?_
  | with_reducible refine rl_newO (by dsimp only [List.length_cons, List.length_nil, Nat.reduceAdd] <;> exact rfl) (by dsimp only [List.cons_append, List.nil_append] <;> exact rfl) ?_
  | with_reducible refine lq_nx ?_
  | with_reducible refine lq_ret ?_
  | with_reducible refine lq_cnt ?_
  | with_reducible refine lq_brk ?_
  | with_reducible refine cq_no ?_
  | with_reducible refine cq_yes ?_
  | with_reducible refine rp_d ?_
  | with_reducible refine rp_nx ?_
  | with_reducible refine ev_ok ?_
  | with_reducible refine rb_iteP (by decide) ?_
  | with_reducible refine rb_iteN (by decide) ?_))
local macro_rules | `(tactic| walk_at "len") => `(tactic| first
  | omega
  | (decide +kernel)
  | grind [L2.cutS_length, Str.length_append, chr1_len])
theorem clen (z : Str) : z.cps.toList.length = z.length := rfl
theorem rl_joinE {β : Type} {env : List (Option W)} {st : Store} {Q : Out β → SS → Prop} {k : W → EM β} {zs : List Str} (hl : (zs.map fun x => x.length).sum ≤ 16777216) (h : Run (k (.d (.str (Txt.join "" zs)))) ⟨env, st⟩ Q) : Run (bnd (lft fun st => joinW st (.d (.str (Str.ofString ""))) [.d (strs' zs)]) k) ⟨env, st⟩ Q := by
  refine rb_lft ?_ h
  unfold joinW strs'
  simp only [snap_d, strsD_map]
  have e : (Str.ofString "").length = 0 := rfl
  rw [e, Nat.mul_zero, Nat.add_zero, if_pos hl]
theorem join_len0 (zs : List Str) : (Txt.join "" zs).length ≤ (zs.map fun x => x.length).sum := by
  have h := StrLaws.join_length_le (Str.ofString "") zs
  have e : (Str.ofString "").length = 0 := rfl
  rw [e, Nat.mul_zero, Nat.add_zero] at h
  have e2 : Txt.join "" zs = Str.join "" zs := StrLaws.glued_eq_join _ _
  rw [e2]
  exact h
theorem sum_one : ∀ {zs : List Str}, (∀ z ∈ zs, z.length = 1) → (zs.map fun x => x.length).sum = zs.length
  | [], _ => rfl
  | z :: zs, h => by
    have h1 := h z List.mem_cons_self
    have h2 := sum_one fun y hy => h y (List.mem_cons_of_mem _ hy)
    simp only [List.map_cons, List.sum_cons, h1, h2, List.length_cons]
    omega
/-- a value that is a text of one sign -/
theorem ones_of {α : Type} {l : List α} {ws : List W} (h : All2 (fun _ w => ∃ c, w = W.d (.str (chr1 c))) l ws) : ∃ zs : List Str, ws = sw zs ∧ zs.length = l.length ∧ ∀ z ∈ zs, z.length = 1 := by
  induction h with
  | nil => exact ⟨[], rfl, rfl, fun _ h => nomatch h⟩
  | cons h _ ih =>
    obtain ⟨c, rfl⟩ := h
    obtain ⟨zs, rfl, e, h⟩ := ih
    refine ⟨chr1 c :: zs, rfl, congrArg (· + 1) e, fun z hz => ?_⟩
    rcases List.mem_cons.mp hz with e | e
    · rw [e]; rfl
    · exact h z e
theorem cut_len {α : Type} (xs : List α) (lo hi : Option Int) : (cutW xs lo hi).length ≤ xs.length := by
  unfold cutW
  rw [List.length_take, List.length_drop]
  omega
abbrev nats (xs : List Int) : Prop := ∀ x ∈ xs, 0 ≤ x ∧ x < 429496730
theorem nat_get {xs : List Int} (h : nats xs) (i : Nat) : 0 ≤ xs.getD i 0 ∧ xs.getD i 0 < 429496730 := by
  rw [List.getD_eq_getElem?_getD]
  cases e : xs[i]? with
  | none => exact ⟨Int.le_refl _, by decide⟩
  | some x => exact h x (List.mem_of_getElem? e)
def b_stream : EM Fl := (sq (asgS (.name 2) (lstE true anil)) (sq (asgS (.name 3) (op2 (intF modI) (var 0) (cst (.int 2147483647)))) (sq (forS (range1E (acons (var 1) anil)) (.name 4) (sq (asgS (.name 3) (op2 (intF modI) (op2 (addA false) (op2 (addA false) (op2 (mulA false) (var 3) (cst (.int 48271))) (op2 (mulA false) (op2 (mulA false) (cst (.int 7919)) (var 4)) (var 4))) (cst (.int 11))) (cst (.int 2147483647)))) (exprS (bmE "list" appendW (var 2) (acons (op2 (intF divI) (var 3) (cst (.int 5))) anil))))) (retS (var 2)))))
theorem stream_ok (c m : Int) (hm : 0 ≤ m ∧ m < 1000) : ∃ d, pureP (bodyF 5 b_stream) [.int c, .int m] = some (.ok d) ∧ ∃ xs : List Int, d = ints' xs ∧ xs.length = m.toNat ∧ nats xs := by
  refine fp_run [some (.d (.int c)), some (.d (.int m)), none, none, none] rfl ?_
  unfold b_stream
  walk_at "go"
  unfold rngL
  refine rb_loop (f := fun (i : Nat) => D.int (0 + (i : Int))) (fun l s => ∃ (n : Int) (z : Option W) (ws : List W) (xs : List Int), s = ⟨[some (.d (.int c)), some (.d (.int m)), some (.loc 0), some (.d (.int n)), z], [some (.lst ws)]⟩ ∧ ws = iw xs ∧
    0 ≤ n ∧ nats xs ∧ xs.length + l.length = m.toNat ∧ (∀ b ∈ l, b < 1000)) ?_ ?_ _ _ ⟨_, _, _, [], rfl, rfl, by omega, (fun _ h => nomatch h), by simp, (fun b h => by have := List.mem_range.mp h; omega)⟩
  · rintro a l s ⟨n, z, ws, xs, rfl, rfl, hn, hx, hl, hb⟩
    have hl : xs.length + (l.length + 1) = m.toNat := hl
    have ha := hb a List.mem_cons_self
    have hp : 0 ≤ 7919 * (0 + (a : Int)) * (0 + a) := Int.mul_nonneg (by omega) (by omega)
    walk_at "go"
    · refine ⟨_, _, _, _, rfl, iw_snoc, by omega, ?_, by simp; omega, fun b h => hb b (List.mem_cons_of_mem _ h)⟩
      intro x h
      rcases List.mem_append.mp h with h | h
      · exact hx x h
      · rw [List.mem_singleton.mp h]
        omega
    · rw [iw_len]; omega
  · rintro s ⟨n, z, ws, xs, rfl, rfl, hn, hx, hl, hb⟩
    walk_at "go"
    exact rp_lst rfl (allD_iw xs) ⟨xs, rfl, by simpa using hl, hx⟩
theorem find_one {x : Str} {c : Nat} (h : ¬ c ∈ x.cps.toList) : Txt.find x (chr1 c) = -1 := by
  have h2 := StrLaws.found_one x c
  rw [decide_eq_false h] at h2
  unfold Txt.find
  show (match Builtin.Str.occurrences x ⟨#[c]⟩ 0 x.length 1 with | i :: _ => (i : Int) | [] => -1) = _
  cases e : Builtin.Str.occurrences x ⟨#[c]⟩ 0 x.length 1 with
  | nil => rfl
  | cons a r => rw [e] at h2; simp at h2
theorem chr1_inj {c d : Nat} : chr1 c = chr1 d ↔ c = d := by
  unfold chr1
  simp
def figL : List Nat := (Str.ofString "0123456789").cps.toList
theorem figL_iff (c : Nat) : c ∈ figL ↔ 48 ≤ c ∧ c ≤ 57 := by
  have e : figL = [48, 49, 50, 51, 52, 53, 54, 55, 56, 57] := by decide +kernel
  rw [e]
  simp only [List.mem_cons, List.not_mem_nil, or_false]
  omega
end EV
/-! EV17: more of classes. -/
namespace EV
open PySem PySem.Spec PyProof.Rows L2
/-- a class without an `__init__` of its own -/
structure Mk0 (K : PySem.W.Frag) (C : Addr) : Prop where
  makes : PySem.W.makesIn K C = true
  init : PySem.W.findIn K (.ref C) "__init__" = some (some (.builtin "object.__init__"))
  kp : PySem.W.keepIn K (.ref C) = true
section
variable {X : Cx} {c : Kx} {U : WX} {j k : Nat} {f C : Addr} {x : Str} {p pos : Pos} {dvs : List V} {dws : List W} {np : Nat} {F : FF}
theorem pe_mk00 (M : Mk0 X.K C) (hg : Gl X x) (hm : X.mg x = some (.ref C)) (hdb : (x == ("__debug__" : Str)) = false := by decide) :
    PE X (.Call (.Name x p) [] [] pos) (fun σ H Q => ∀ a dx, H a = none → H dx = none → dx ≠ a → Q (.ref a) (upd (upd H dx (.own a)) a (.ins C dx []))) := ⟨fun pins s σ H Q I h => by
  refine wpAny_Call_Name_kw (ld_glob I hg hm (PySem.W.callWith_K0 I.kIn M.kp ?_) hdb)
  have hq := h (s.heap.objs.size + 1) s.heap.objs.size (I.hok.fresh (Nat.le_succ _)) (I.hok.fresh (Nat.le_refl _)) (Nat.ne_of_lt (Nat.lt_succ_self _))
  have I2 := Inv.made (C := C) I
  have Y := PySem.W.makes_of (M := model X.prog X.w) I.kIn M.makes
  refine wpAny_call (L2.make_map0 I.kIn M.makes M.init (fun self => PySem.W.Looks.of_pure (PySem.W.oi_bind self)) ?_)
  have e2 : ((s.heap.push PySem.W.emptyDict).push (PySem.W.instObj C s.heap.objs.size)).get? (s.heap.objs.size + 1) = some (PySem.W.instObj C s.heap.objs.size) := by
    have := Heap.get?_push_size (s.heap.push PySem.W.emptyDict) (o := PySem.W.instObj C s.heap.objs.size) rfl
    rwa [Heap.size_push] at this
  have t1 : PySem.W.Looks (model X.prog X.w) ((s.heap.push PySem.W.emptyDict).push (PySem.W.instObj C s.heap.objs.size)) (typeOf (.ref (s.heap.objs.size + 1))) (.ref C) := (PySem.W.Looks.ld e2).andThen PySem.W.Looks.now
  have t2 : PySem.W.Looks (model X.prog X.w) ((s.heap.push PySem.W.emptyDict).push (PySem.W.instObj C s.heap.objs.size)) (isInstance (.ref (s.heap.objs.size + 1)) (.type "object")) true :=
    t1.andThen (Y.top.keeps fun b o e => Heap.get?_push_of_some _ (Heap.get?_push_of_some _ e))
  refine codeAny_call_builtin PySem.W.oi_plain PySem.W.entry_oi (@PySem.W.check_slot (model X.prog X.w) _ _ _ "object.__init__" "object" "__init__" (.ref (s.heap.objs.size + 1)) [] [] _ PySem.W.oi_kind PySem.W.oi_split t2 (PySem.W.oi_args (.ref (s.heap.objs.size + 1))) ?_)
  rw [PySem.W.oi_run]
  exact wpAny_pure (And.intro rfl ⟨V.ref (s.heap.objs.size + 1), _, I2, rfl, hq⟩)⟩
/-- nothing is written -/
def F00 : FF := fun _ st => some (.ok (.d .non), st)
theorem ee_mk0P (hK : X.K = c.K) (hk : c.ct[j]? = some C) (hc : Cls c.K C) (M : Mk0 X.K C) (hg : Gl X x) (hm : X.mg x = some (.ref C)) (hdb : (x == ("__debug__" : Str)) = false := by decide) :
    EE c X U (.Call (.Name x p) [] [] pos) (mkP j 1 F00 [] anil) :=
  EE.mk1 hK (pe_mk00 M hg hm hdb) fun ρ G s σ H Q hR w => by
    obtain ⟨ρ1, G1, s1, R1, w1⟩ := wp_mkP (U := U) (np := 1) (F := F00) (dws := []) (dvs := []) (m := anil) DefOk.nil hk hc hR w
    have w2 := Wp.pur R1 w1 [] rfl
    intro a dx h1 h2 ne
    obtain ⟨ρ2, G2, st, ws, r, rw', hl, q⟩ := w2 a dx h1 h2 ne
    exact (q .non ρ2 G2 _ Stp.refl r .non).2
theorem ee_mk0O (hK : X.K = c.K) (hk : c.ct[j]? = some C) (hc : Cls c.K C) (M : Mk0 X.K C) (hg : Gl X x) (hm : X.mg x = some (.ref C)) (hdb : (x == ("__debug__" : Str)) = false := by decide) :
    EE c X U (.Call (.Name x p) [] [] pos) (mkO j 1 F00 [] anil) :=
  EE.mk1 hK (pe_mk00 M hg hm hdb) fun ρ G s σ H Q hR w => by
    obtain ⟨ρ1, G1, s1, R1, w1⟩ := wp_mkO (U := U) (np := 1) (F := F00) (dws := []) (dvs := []) (m := anil) DefOk.nil hk hc hR w
    have w2 := Wp.pur R1 w1 [] rfl
    intro a dx h1 h2 ne
    obtain ⟨ρ2, G2, st, ws, r, rw', hl, q⟩ := w2 a dx h1 h2 ne
    exact (q .non ρ2 G2 _ Stp.refl r .non).2
theorem ee_mkP0 (hK : X.K = c.K) (hd : DefOk c dws dvs) (hk : c.ct[j]? = some C) (hc : Cls c.K C) (M : Mk X.K C f) (Fn : FnS X.prog X.w X.K X.mg X.base k f (spF c np F) dvs) (hr : Room (k + 1) X.A) (tk : L2N.Takes X U) (hg : Gl X x) (hm : X.mg x = some (.ref C))
    (hdb : (x == ("__debug__" : Str)) = false := by decide) : EE c X U (.Call (.Name x p) [] [] pos) (mkP j np F dws anil) :=
  EE.mk1 hK (pe_mkC0 M Fn hr tk hg hm hdb) fun ρ G s σ H Q hR w => by
    obtain ⟨ρ1, G1, s1, R1, w1⟩ := wp_mkP (U := U) (m := anil) hd hk hc hR w
    exact Wp.pur R1 w1 [] rfl
theorem ee_mkO0 (hK : X.K = c.K) (hd : DefOk c dws dvs) (hk : c.ct[j]? = some C) (hc : Cls c.K C) (M : Mk X.K C f) (Fn : FnS X.prog X.w X.K X.mg X.base k f (spF c np F) dvs) (hr : Room (k + 1) X.A) (tk : L2N.Takes X U) (hg : Gl X x) (hm : X.mg x = some (.ref C))
    (hdb : (x == ("__debug__" : Str)) = false := by decide) : EE c X U (.Call (.Name x p) [] [] pos) (mkO j np F dws anil) :=
  EE.mk1 hK (pe_mkC0 M Fn hr tk hg hm hdb) fun ρ G s σ H Q hR w => by
    obtain ⟨ρ1, G1, s1, R1, w1⟩ := wp_mkO (U := U) (m := anil) hd hk hc hR w
    exact Wp.pur R1 w1 [] rfl
end
/-! facts about classes, in lists -/
def NaL (c : Kx) (f : Str) : List (Nat × Addr) → Prop
  | [] => True
  | p :: r => (c.ct[p.1]? = some p.2 ∧ NoAttr c.K p.2 f) ∧ NaL c f r
theorem NaL.ok {c : Kx} {f : Str} : ∀ {ps : List (Nat × Addr)}, NaL c f ps → ∀ k C, (ps.map (·.1)).contains k = true → c.ct[k]? = some C → NoAttr c.K C f
  | [], _, k, C, h, _ => by simp at h
  | p :: r, ⟨⟨h1, h2⟩, t⟩, k, C, h, e => by
    by_cases q : k = p.1
    · subst q
      rw [h1] at e
      cases e
      exact h2
    · refine NaL.ok t k C ?_ e
      simp only [List.map_cons, List.contains_cons, Bool.or_eq_true, beq_iff_eq] at h
      exact h.resolve_left q
/-- a table of methods -/
def MeL (c : Kx) (X : Cx) (mn : Str) : List (Nat × (List W → EM W)) → Prop
  | [] => True
  | p :: r => MethOk c X mn p.1 p.2 ∧ MeL c X mn r
theorem MeL.ok {c : Kx} {X : Cx} {mn : Str} : ∀ {tbl : List (Nat × (List W → EM W))}, MeL c X mn tbl → ∀ k g, tbl.lookup k = some g → MethOk c X mn k g
  | [], _, k, g, e => by cases e
  | (i, h) :: r, ⟨h1, t⟩, k, g, e => by
    unfold List.lookup at e
    by_cases q : k = i
    · subst q
      simp at e
      subst e
      exact h1
    · have : (k == i) = false := by simpa using q
      rw [this] at e
      exact MeL.ok t k g e
theorem MethOk.of {c : Kx} {X : Cx} {mn : Str} {k j : Nat} {C f : Addr} {sp : Sp} {dvs : List V} {dws : List W} {g0 : List W → EM W} (hC : c.ct[k]? = some C) (hm : Meth c.K C mn f) (F : FnS X.prog X.w X.K X.mg X.base j f sp dvs) (hr : Room j X.A) (hs : SpA c sp g0) (hd : DefOk c dws dvs) :
    MethOk c X mn k fun ws => g0 (ws ++ dws) := ⟨C, f, sp, dvs, dws, g0, j, hC, hm, F, hr, hs, hd, rfl⟩
/-! isinstance of own classes -/
def TyL (c : Kx) (u : Value) : List (Ty × Bool) → Prop
  | [] => True
  | p :: r => TyFact c u p.1 p.2 ∧ TyL c u r
theorem TyL.ok {c : Kx} {u : Value} : ∀ {q : List (Ty × Bool)}, TyL c u q → ∀ t b, q.lookup t = some b → TyFact c u t b
  | [], _, t, b, e => by cases e
  | (i, h) :: r, ⟨h1, z⟩, t, b, e => by
    unfold List.lookup at e
    by_cases q : t = i
    · subst q
      simp at e
      subst e
      exact h1
    · have : (t == i) = false := by simpa using q
      rw [this] at e
      exact TyL.ok z t b e
theorem TyFact.ofCl {c : Kx} {u : Value} {k : Nat} {C : Addr} {b : Bool} (hC : c.ct[k]? = some C) (i : InsT c.K C) (h : PySem.W.kitOne c.K (.ref C) u = some b) : TyFact c u (.cl k) b := fun C' e => by
  rw [hC] at e
  cases e
  exact ⟨i, h⟩
/-! the law's end -/
def spLawK (K : PySem.W.Frag) : Sp := fun vs H Q _ => ∃ a, ∃ ns : List Int, vs = [V.ref a] ∧ SqL K H a (ns.map V.int) ∧ ns.length ≤ 63 ∧ ∀ H', Q (V.bl true) H'
theorem law_sp {c : Kx} {F : FP} (hF : ∀ ns : List Int, ns.length ≤ 63 → F [.fls (ns.map .int)] = some (.ok (.bl true))) {vs : List V} {H : Hp} {Q : VK} {E : XK} (h : spLawK c.K vs H Q E) : spP c 1 F vs H Q E := by
  obtain ⟨a, ns, rfl, hS, hl, q⟩ := h
  refine ⟨H, [.fls (ns.map .int)], Same.refl _, .cons (.fls hS (RepDs.ints ns)) .nil, rfl, ?_⟩
  rw [hF ns hl]
  intro v G' H' g r
  cases r
  exact q H'
/-! x[i] = e, of an own list -/
def setLW (st : Store) (o i y : W) : Option (Unit × Store) := match i with
  | .d (.int k) => match wrL st o fun ws => (ixN ws.length k).map fun j => (ws.set j y, .d .non) with
    | some (_, st') => some ((), st')
    | none => none
  | _ => none
def setL (mo mi me : EM W) : EM Fl := bnd me fun y => bnd mo fun o => bnd mi fun i => bnd (lft fun st => setLW st o i y) fun _ => pur .nx
section
variable {c : Kx} {X : Cx} {U : WX} {o i e : Expr} {mo mi me : EM W} {pos pos' : Pos}
theorem es_setL (he : EE c X U e me) (ho : EE c X U o mo) (hi : EE c X U i mi)
    (ha : ∀ v, assign (.Subscript o i pos') X.env v = (do
      let ov ← holding [v] (eval o X.env)
      let iv ← holding [v, ov] (eval i X.env)
      standAt pos'
      holding [v, ov, iv] (setItem ov iv v)
      release [v, ov, iv] []) := by intro _; rfl)
    (hs : swapsWithSole [.Subscript o i pos'] e pos.line X.env = pure false := by rfl) (hw : swappedStores [.Subscript o i pos'] e X.env = pure none := by rfl)
    (h1 : (assignEach [.Subscript o i pos'] X.env).map (·.2) = [assign (.Subscript o i pos') X.env] := by rfl) : ES c X U (.Assign [.Subscript o i pos'] e pos) (setL mo mi me) :=
  ⟨he.K, PS.imp (ps_asg he.pe (pg_sub ho.pe hi.pe set_list ha) hs hw h1) fun D σ H ⟨ρ, G, s, hR, w⟩ => ⟨ρ, G, s, hR, (Ws.bndE hR w).imp fun y ρ1 G1 H1 s1 ⟨S1, R1, w1⟩ v rv =>
    ⟨ρ1, G1, s1, R1, (Ws.bndE R1 w1).imp fun z ρ2 G2 H2 s2 ⟨S2, R2, w2⟩ vo ro => ⟨ρ2, G2, s2, R2, (Ws.bndE R2 w2).imp fun iw ρ3 G3 H3 s3 ⟨S3, R3, w3⟩ vi ri => by
      obtain ⟨_, st', e1, q⟩ := Wp.lft (Ws.bndE R3 w3)
      unfold setLW at e1
      split at e1
      · rename_i k _
        split at e1
        · rename_i w st2 e2
          cases e1
          obtain ⟨a, vs, ws, ws', rfl, hH, r1, hg, h4⟩ := wrL_ok R3.rs ((ro.mono S3.rho S3.same)) e2
          cases hj : ixN ws.length k with
          | none => rw [hj] at hg; cases hg
          | some j =>
            rw [hj] at hg
            cases hg
            cases ri
            obtain ⟨S4, r4⟩ := h4 (vs.set j v) (r1.set j ((rv.mono S2.rho S2.same).mono S3.rho S3.same))
            have q2 := q ρ3 G3 _ S4 ⟨r4, R3.env, R3.len⟩
            exact ⟨a, vs, k, j, rfl, rfl, hH, by rw [r1.len]; exact hj, Ws.pur (U := U) q2.2.1 q2.2.2⟩
        · cases e1
      · cases e1⟩⟩⟩⟩
end
section
variable {β : Type} {env : List (Option W)} {st : Store} {Q : Out β → SS → Prop}
theorem rb_setL {k : Fl → EM β} {mo mi me : EM W} {s : SS} (h : Run (bnd me fun y => bnd mo fun o => bnd mi fun i => bnd (lft fun st => setLW st o i y) fun _ => k .nx) s Q) : Run (bnd (setL mo mi me) k) s Q := by
  unfold setL
  rw [bnd_assoc]
  have e : (fun a => bnd (bnd mo fun o => bnd mi fun i => bnd (lft fun st => setLW st o i a) fun _ => pur Fl.nx) k) = fun y => bnd mo fun o => bnd mi fun i => bnd (lft fun st => setLW st o i y) fun _ => k .nx := by
    funext a
    rw [bnd_assoc]
    congr 1
    funext b
    rw [bnd_assoc]
    congr 1
    funext c
    rw [bnd_assoc]
    rfl
  rw [e]
  exact h
theorem rl_setL {k : Unit → EM β} {n : Nat} {ws : List W} {i : Int} {j : Nat} {y : W} {st' : Store} (e : st[n]? = some (some (.lst ws))) (hj : ixN ws.length i = some j) (e2 : st.set n (some (.lst (ws.set j y))) = st') (h : Run (k ()) ⟨env, st'⟩ Q) : Run (bnd (lft fun st => setLW st (.loc n) (.d (.int i)) y) k) ⟨env, st⟩ Q := by
  subst e2
  refine rb_lft (a := ()) ?_ h
  unfold setLW wrL
  simp only [e, hj, Option.map]
theorem rl_setL' {k : Unit → EM β} {n : Nat} {ws : List W} {i : Int} {y : W} {st' : Store} (e : st[n]? = some (some (.lst ws))) (e2 : st.set n (some (.lst (ws.set i.toNat y))) = st') (h : Run (k ()) ⟨env, st'⟩ Q) (hj : 0 ≤ i ∧ i < ws.length) : Run (bnd (lft fun st => setLW st (.loc n) (.d (.int i)) y) k) ⟨env, st⟩ Q :=
  rl_setL e (by unfold ixN; rw [if_pos hj.1, if_pos hj.2]) e2 h
end
/-! running constructors -/
def mkR (k np : Nat) (F : FF) (dws : List W) (ds : List D) : Option D := match (if (.loc 0 :: (ds.map .d ++ dws)).length = np then F (.loc 0 :: (ds.map .d ++ dws)) [some (.ins k [] [])] else none) with
  | some (.ok (.d .non), st) => match fz 20 (.loc 0) st with
    | some (d, _) => some d
    | none => none
  | _ => none
def mkK (k np : Nat) (F : FF) (dws : List W) (ds : List D) : EM W := match (if (.loc 0 :: (ds.map .d ++ dws)).length = np then F (.loc 0 :: (ds.map .d ++ dws)) [some (.ins k [] [])] else none) with
  | some (.ok (.d .non), st) => match fz 20 (.loc 0) st with
    | some (d, _) => pur (.d d)
    | none => non
  | some (.ex C ks es, _) => thr C ks es
  | _ => non
section
variable {β : Type} {env : List (Option W)} {st : Store} {s : SS} {Q : Out β → SS → Prop} {k : W → EM β}
theorem mkP_eq (i np : Nat) (F : FF) (dws : List W) (m : EM (List W)) : mkP i np F dws m = bnd (treesE m) (mkK i np F dws) := rfl
theorem rb_mkP {i np : Nat} {F : FF} {dws : List W} {m : EM (List W)} (h : Run (bnd (treesE m) fun ds => bnd (mkK i np F dws ds) k) s Q) : Run (bnd (mkP i np F dws m) k) s Q := by rw [mkP_eq]; exact rb_bnd h
theorem mkK_eq {i np : Nat} {F : FF} {dws : List W} {ds : List D} {d : D} (e : mkR i np F dws ds = some d) : mkK i np F dws ds = pur (.d d) := by
  unfold mkR at e
  unfold mkK
  generalize (if (W.loc 0 :: (ds.map .d ++ dws)).length = np then F (.loc 0 :: (ds.map .d ++ dws)) [some (.ins i [] [])] else none) = q at e
  cases q with
  | none => cases e
  | some p =>
    obtain ⟨o, st⟩ := p
    cases o with
    | ex _ _ _ => cases e
    | ok w =>
      cases w with
      | loc _ => cases e
      | d x =>
        cases x with
        | non =>
          simp only at e ⊢
          cases h2 : fz 20 (.loc 0) st with
          | none => rw [h2] at e; cases e
          | some y => rw [h2] at e; cases e; rfl
        | _ => cases e
theorem rb_mkK {i np : Nat} {F : FF} {dws : List W} {ds : List D} {d : D} (e : mkR i np F dws ds = some d) (h : Run (k (.d d)) s Q) : Run (bnd (mkK i np F dws ds) k) s Q := by rw [mkK_eq e]; exact h
end
/-! functions that write the store -/
def RetF (P : W → Store → Prop) : Out Fl → SS → Prop := fun o s => match o with
  | .ok .nx => P (.d .non) s.st
  | .ok (.ret w) => P w s.st
  | _ => False
theorem ff_run {n : Nat} {b : EM Fl} {ws : List W} {st : Store} {P : W → Store → Prop} (env : List (Option W)) (e : initS n ws st = ⟨env, st⟩) (h : Run (bnd b pur) ⟨env, st⟩ (RetF P)) : ∃ w st', bodyF n b ws st = some (.ok w, st') ∧ P w st' := by
  obtain ⟨o, s', e1, h⟩ := run_bnd h
  unfold bodyF
  rw [e, e1]
  cases o with
  | ex _ _ _ => exact h.elim
  | ok f =>
    cases f with
    | nx => exact ⟨_, _, rfl, h⟩
    | brk => exact h.elim
    | cnt => exact h.elim
    | ret w => exact ⟨_, _, rfl, h⟩
section
variable {β : Type} {env : List (Option W)} {st : Store} {s : SS} {Q : Out β → SS → Prop} {k : W → EM β}
theorem rf_nx {P : W → Store → Prop} (h : P (.d .non) st) : Run (pur .nx) ⟨env, st⟩ (RetF P) := run_pur h
theorem rf_ret {P : W → Store → Prop} {w : W} (h : P w st) : Run (pur (.ret w)) ⟨env, st⟩ (RetF P) := run_pur h
theorem rb_gF {np : Nat} {F : FF} {ws : List W} {P : W → Store → Prop} (hn : ws.length = np) (h : ∃ w st', F ws st = some (.ok w, st') ∧ P w st') (hk : ∀ w st', P w st' → Run (k w) ⟨env, st'⟩ Q) : Run (bnd (gF np F (ws ++ [])) k) ⟨env, st⟩ Q := by
  obtain ⟨w, st', h1, h2⟩ := h
  refine rb_eq (a := w) (s1 := ⟨env, st'⟩) ?_ (hk w st' h2)
  unfold gF callF
  rw [List.append_nil, if_pos hn, bnd_pur]
  show outF (F ws st) ⟨env, st⟩ = _
  rw [h1]
  rfl
end
/-! ways that meet again -/
def JoinQ (P : SS → Prop) : Out Fl → SS → Prop := fun o s => match o with
  | .ok .nx => P s
  | _ => False
section
variable {β : Type} {env : List (Option W)} {st : Store} {s : SS} {Q : Out β → SS → Prop}
theorem rb_join {k : Fl → EM β} {m : EM Fl} (P : SS → Prop) (h1 : Run (bnd m pur) s (JoinQ P)) (h2 : ∀ s', P s' → Run (k .nx) s' Q) : Run (bnd m k) s Q := by
  obtain ⟨o, s', e, h⟩ := run_bnd h1
  cases o with
  | ex _ _ _ => exact h.elim
  | ok f =>
    cases f with
    | nx => exact rb_eq e (h2 s' h)
    | ret _ => exact h.elim
    | brk => exact h.elim
    | cnt => exact h.elim
theorem jq_nx {P : SS → Prop} (h : P s) : Run (pur .nx) s (JoinQ P) := run_pur h
theorem any_int (z : Int) (zs : List Int) : ((zs.map D.int).any fun e => D.eq e (.int z)) = decide (z ∈ zs) := by
  rw [List.any_map]
  rw [Bool.eq_iff_iff]
  simp only [List.any_eq_true, Function.comp, eq_int, decide_eq_true_eq]
  exact ⟨fun ⟨x, h, e⟩ => e ▸ h, fun h => ⟨z, h, rfl⟩⟩
theorem flat_ints (zs : List Int) : (zs.map D.int).all flatD = true := by
  rw [List.all_map, List.all_eq_true]
  exact fun _ _ => rfl
theorem rl_inTI {k : W → EM β} {z : Int} {zs : List Int} (h : Run (k (.d (.bl (decide (z ∈ zs))))) ⟨env, st⟩ Q) : Run (bnd (lft fun st => inA st (.d (.int z)) (.d (.tup (zs.map .int)))) k) ⟨env, st⟩ Q :=
  rl_in (by unfold inB; simp only [snap_d, seqD, flat_ints, any_int, flatD, Bool.and_self, if_true]) h
theorem ih_ret {k : Fl → EM β} (h : Run (k .nx) s Q) : Run (bnd (pur .nx) k) s Q := h
end
def ValQ {α : Type} (s0 : SS) (Y : α → Prop) : Out α → SS → Prop := fun o s => match o with
  | .ok a => s = s0 ∧ Y a
  | _ => False
theorem rb_val {α β : Type} {k : α → EM β} {m : EM α} {s : SS} {Q : Out β → SS → Prop} (Y : α → Prop) (h1 : Run (bnd m pur) s (ValQ s Y)) (h2 : ∀ a, Y a → Run (k a) s Q) : Run (bnd m k) s Q := by
  obtain ⟨o, s', e, h⟩ := run_bnd h1
  cases o with
  | ex _ _ _ => exact h.elim
  | ok a =>
    obtain ⟨rfl, h⟩ := h
    exact rb_eq e (h2 a h)
theorem vq {α : Type} {a : α} {s : SS} {Y : α → Prop} (h : Y a) : Run (pur a) s (ValQ s Y) := run_pur ⟨rfl, h⟩
theorem rb_iteDT {α β : Type} {k : α → EM β} {s : SS} {Q : Out β → SS → Prop} {p : Prop} {inst : Decidable p} {m1 m2 : EM α} (e : p) (h : Run (bnd m1 k) s Q) : Run (bnd (ite2 (decide p) m1 m2) k) s Q := rb_iteP (decide_eq_true e) h
theorem rb_iteDnT {α β : Type} {k : α → EM β} {s : SS} {Q : Out β → SS → Prop} {p : Prop} {inst : Decidable p} {m1 m2 : EM α} (e : p) (h : Run (bnd m2 k) s Q) : Run (bnd (ite2 (!decide p) m1 m2) k) s Q := rb_iteN (by rw [decide_eq_true e]; rfl) h
end EV
/-! EV18: texts of signs; lists as data. -/
namespace EV
open PySem L2
/-- every sign is one -/
def okS (z : Str) : Prop := PyData.strOk z = true
instance {z : Str} : Decidable (okS z) := inferInstanceAs (Decidable (PyData.strOk z = true))
theorem okS_iff {z : Str} : okS z ↔ ∀ c ∈ z.cps.toList, c < 1114112 := by
  unfold okS PyData.strOk
  rw [← Array.all_toList, List.all_eq_true]
  simp
theorem okS_app {a b : Str} (ha : okS a) (hb : okS b) : okS (a ++ b) := by
  rw [okS_iff] at ha hb ⊢
  intro c hc
  have e : (a ++ b).cps.toList = a.cps.toList ++ b.cps.toList := by
    show (a.cps ++ b.cps).toList = _
    simp
  rw [e] at hc
  rcases List.mem_append.mp hc with h | h
  · exact ha c h
  · exact hb c h
theorem okS_cut {a : Str} {lo hi : Option Int} (ha : okS a) : okS (cutS a lo hi) := by
  rw [okS_iff] at ha ⊢
  intro c hc
  unfold cutS at hc
  simp only at hc
  exact ha c (List.mem_of_mem_drop (List.mem_of_mem_take hc))
theorem okS_chr {c : Nat} (h : c < 1114112) : okS (chr1 c) := by
  rw [okS_iff]
  intro d hd
  have : d = c := by simpa [chr1] using hd
  omega
theorem item_lt {z : Str} (h : okS z) (i : Nat) : z.cps.toList.getD i 0 < 1114112 := by
  rw [okS_iff] at h
  rw [List.getD_eq_getElem?_getD]
  cases e : z.cps.toList[i]? with
  | none => exact (by decide)
  | some x => exact h x (List.mem_of_getElem? e)
theorem okS_num {i : Int} (h : 0 ≤ i) : okS (Str.ofString (toString i)) := by
  obtain ⟨n, rfl⟩ : ∃ n : Nat, i = n := ⟨i.toNat, by omega⟩
  rw [okS_iff]
  intro c hc
  have e : (Str.ofString (toString (n : Int))).cps.toList = TL.numL n := TL.tl_num n
  rw [e] at hc
  have := TL.numL_digits n c hc
  omega
theorem okS_join0 : ∀ {zs : List Str}, (∀ z ∈ zs, okS z) → okS (Txt.join "" zs) := by
  have key : ∀ (zs : List Str), (∀ z ∈ zs, okS z) → okS (Str.join (Str.ofString "") zs) := by
    intro zs
    induction zs with
    | nil => intro _; exact (show okS Str.empty by decide +kernel)
    | cons x r ih =>
      intro h
      cases r with
      | nil => exact h x List.mem_cons_self
      | cons y r =>
        show okS (x ++ Str.ofString "" ++ Str.join (Str.ofString "") (y :: r))
        exact okS_app (okS_app (h x List.mem_cons_self) (by decide +kernel)) (ih fun z hz => h z (List.mem_cons_of_mem _ hz))
  intro zs h
  have e2 : Txt.join "" zs = Str.join "" zs := StrLaws.glued_eq_join _ _
  rw [e2]
  exact key zs h
theorem onesOk {α : Type} {l : List α} {ws : List W} (h : All2 (fun _ w => ∃ c, w = W.d (.str (chr1 c)) ∧ c < 1114112) l ws) : ∃ zs : List Str, ws = sw zs ∧ zs.length = l.length ∧ (∀ z ∈ zs, z.length = 1) ∧ ∀ z ∈ zs, okS z := by
  induction h with
  | nil => exact ⟨[], rfl, rfl, (fun _ h => nomatch h), fun _ h => nomatch h⟩
  | cons h _ ih =>
    obtain ⟨c, rfl, hc⟩ := h
    obtain ⟨zs, rfl, e, h, h'⟩ := ih
    refine ⟨chr1 c :: zs, rfl, congrArg (· + 1) e, fun z hz => ?_, fun z hz => ?_⟩
    · rcases List.mem_cons.mp hz with e | e
      · rw [e]; rfl
      · exact h z e
    · rcases List.mem_cons.mp hz with e | e
      · rw [e]; exact okS_chr hc
      · exact h' z e
theorem num_len {i : Int} (h : 0 ≤ i ∧ i < 10 ^ 30) : (Str.ofString (toString i)).length ≤ 30 := by
  obtain ⟨n, rfl⟩ : ∃ n : Nat, i = n := ⟨i.toNat, by omega⟩
  have e : (Str.ofString (toString (n : Int))).length = (TL.numL n).length := by
    rw [← TL.tl_num]
    rfl
  rw [e]
  exact TL.numL_len (by decide) (by omega)
/-! data -/
/-- d may be compared: every text of it is one, and it is at most n deep -/
def okN (n : Nat) (d : D) : Prop := (toPy d).canLay0 = true ∧ (toPy d).depth ≤ n
def okNs (n : Nat) (ds : List D) : Prop := PyData.canLayAll0 (toPys ds) = true ∧ PyData.depthAll (toPys ds) ≤ n
theorem okD_of {n : Nat} {d : D} (h : okN n d) (hn : n ≤ 64) : okD d = true := by
  unfold okD SeqAt.shaped
  rw [h.1]
  exact decide_eq_true (Nat.le_trans h.2 hn)
theorem okN_mono {n m : Nat} {d : D} (h : okN n d) (hn : n ≤ m) : okN m d := ⟨h.1, Nat.le_trans h.2 hn⟩
theorem okN_str {n : Nat} {z : Str} (h : okS z) : okN n (.str z) := ⟨h, by unfold toPy PyData.depth; exact Nat.zero_le _⟩
theorem okN_int {n : Nat} {i : Int} : okN n (.int i) := ⟨rfl, by unfold toPy PyData.depth; exact Nat.zero_le _⟩
theorem okN_bl {n : Nat} {i : Bool} : okN n (.bl i) := ⟨rfl, by unfold toPy PyData.depth; exact Nat.zero_le _⟩
theorem okN_non {n : Nat} : okN n .non := ⟨rfl, by unfold toPy PyData.depth; exact Nat.zero_le _⟩
theorem okNs_nil {n : Nat} : okNs n [] := ⟨rfl, Nat.zero_le _⟩
theorem okNs_cons {n : Nat} {d : D} {ds : List D} (h : okN n d) (t : okNs n ds) : okNs n (d :: ds) := ⟨by
  show (_ && _) = true
  rw [h.1, t.1]; rfl, by
  show max _ _ ≤ n
  exact Nat.max_le.mpr ⟨h.2, t.2⟩⟩
theorem okN_lst {n : Nat} {ds : List D} (h : okNs n ds) : okN (n + 1) (.lst ds) := ⟨h.1, by
  show PyData.depthAll _ + 1 ≤ _
  have := h.2
  omega⟩
theorem okN_tup {n : Nat} {ds : List D} (h : okNs n ds) : okN (n + 1) (.tup ds) := ⟨h.1, by
  show PyData.depthAll _ + 1 ≤ _
  have := h.2
  omega⟩
theorem okNs_all {n : Nat} : ∀ {ds : List D}, (∀ d ∈ ds, okN n d) → okNs n ds
  | [], _ => okNs_nil
  | d :: ds, h => okNs_cons (h d List.mem_cons_self) (okNs_all fun e he => h e (List.mem_cons_of_mem _ he))
theorem okN_strs {n : Nat} {zs : List Str} (h : ∀ z ∈ zs, okS z) : okN (n + 1) (strs' zs) := okN_lst (okNs_all fun d hd => by
  obtain ⟨z, hz, rfl⟩ := List.mem_map.mp hd
  exact okN_str (h z hz))
theorem okN_ints {n : Nat} {zs : List Int} : okN (n + 1) (ints' zs) := okN_lst (okNs_all fun d hd => by
  obtain ⟨z, hz, rfl⟩ := List.mem_map.mp hd
  exact okN_int)
theorem eq_refl {n : Nat} {d : D} (h : okN n d) : D.eq d d = true := SeqAt.eqv_refl _ h.1
section
variable {β : Type} {env : List (Option W)} {st : Store} {Q : Out β → SS → Prop} {k : W → EM β}
theorem snap_lst {n : Nat} {ws : List W} {ds : List D} (e : st[n]? = some (some (.lst ws))) (e2 : allD ws = some ds) : snapD st (.loc n) = some (.lst ds) := by
  unfold snapD
  rw [fz_lst e e2]
/-- alike: any two values of the same tree -/
theorem eqB_same {n : Nat} {x y : W} {d : D} (hx : snapD st x = some d) (hy : snapD st y = some d) (h : okN n d) (hn : n ≤ 64) : eqB st x y = some true := by
  unfold eqB
  split
  · rw [snap_d] at hx hy
    cases hx
    have := Option.some.inj hy
    cases this
    exact congrArg some (decide_eq_true rfl)
  · rw [snap_d] at hx hy
    cases hx
    have := Option.some.inj hy
    cases this
    exact congrArg some (decide_eq_true rfl)
  · simp only [hx, hy, okD_of h hn, Bool.and_self, if_true, eq_refl h]
theorem rl_neO {n m : Nat} {ws : List W} {ds : List D} (e : st[m]? = some (some (.lst ws))) (e2 : allD ws = some ds) (h : okN n (.lst ds)) (hn : n ≤ 64) (q : Run (k (.d (.bl false))) ⟨env, st⟩ Q) : Run (bnd (lft fun st => neA st (.loc m) (.d (.lst ds))) k) ⟨env, st⟩ Q :=
  rl_neB (eqB_same (snap_lst e e2) (snap_d _ _) h hn) q
theorem rl_eqO {n m : Nat} {ws : List W} {ds : List D} (e : st[m]? = some (some (.lst ws))) (e2 : allD ws = some ds) (h : okN n (.lst ds)) (hn : n ≤ 64) (q : Run (k (.d (.bl true))) ⟨env, st⟩ Q) : Run (bnd (lft fun st => eqA st (.loc m) (.d (.lst ds))) k) ⟨env, st⟩ Q :=
  rl_eqB (eqB_same (snap_lst e e2) (snap_d _ _) h hn) q
theorem rl_neL {n : Nat} {d : D} (h : okN n d) (hn : n ≤ 64) (q : Run (k (.d (.bl false))) ⟨env, st⟩ Q) : Run (bnd (lft fun st => neA st (.d d) (.d d)) k) ⟨env, st⟩ Q :=
  rl_neB (eqB_same (snap_d _ _) (snap_d _ _) h hn) q
theorem rl_eqL {n : Nat} {d : D} (h : okN n d) (hn : n ≤ 64) (q : Run (k (.d (.bl true))) ⟨env, st⟩ Q) : Run (bnd (lft fun st => eqA st (.d d) (.d d)) k) ⟨env, st⟩ Q :=
  rl_eqB (eqB_same (snap_d _ _) (snap_d _ _) h hn) q
end
/-- a name that holds a tree, or nothing -/
def dO (x : Option D) : Option W := x.map W.d
theorem rpl_dO (n : Nat) (d : D) (x : Option D) : rpl n d (dO x) = dO x := by cases x <;> rfl
theorem rpl_d (n : Nat) (d x : D) : rpl n d (some (.d x)) = some (.d x) := rfl
theorem rpl_no (n : Nat) (d : D) : rpl n d none = none := rfl
theorem rpl_at (n : Nat) (d : D) : rpl n d (some (.loc n)) = some (.d d) := by unfold rpl; exact if_pos rfl
theorem rb_frzO {β : Type} {env env' : List (Option W)} {st st' : Store} {Q : Out β → SS → Prop} {k : W → EM β} {n : Nat} {ws : List W} {ds : List D} (e : st[n]? = some (some (.lst ws))) (e2 : allD ws = some ds) (e3 : env.map (rpl n (.lst ds)) = env') (e4 : st.set n none = st')
    (h : Run (k (.d (.lst ds))) ⟨env', st'⟩ Q) : Run (bnd (frzK (.loc n)) k) ⟨env, st⟩ Q := by
  subst e4
  exact rb_frzL (fz_lst e e2) e3 h
theorem lt_len {n : Nat} (h : Nat.ble (n + 1) 16777216 = true) : n < 16777216 := Nat.le_of_ble_eq_true h
theorem cut_len_eq {α : Type} {xs : List α} {a b : Int} (h : 0 ≤ a ∧ a ≤ b ∧ b ≤ xs.length) : (cutW xs (some a) (some b)).length = (b - a).toNat := by
  unfold cutW HT.sIx
  rw [List.length_take, List.length_drop]
  simp only
  rw [if_neg (by omega), if_neg (by omega)]
  omega
theorem join_len_eq (zs : List Str) : (Txt.join "" zs).length = (zs.map fun x => x.length).sum := by
  show (Builtin.Str.glued (Str.ofString "") zs).length = _
  rw [size_glued]
  have e : (Str.ofString "").length = 0 := rfl
  rw [e, Nat.mul_zero, Nat.add_zero]
theorem cutS_len {z : Str} {lo hi : Option Int} : (cutS z lo hi).length = min (HT.sIx z.length z.length hi - HT.sIx z.length 0 lo) (z.length - HT.sIx z.length 0 lo) := by
  show ((List.take _ (List.drop _ z.cps.toList)).toArray).size = _
  rw [List.size_toArray, List.length_take, List.length_drop, clen]
section
variable {β : Type} {env : List (Option W)} {st : Store} {s : SS} {Q : Out β → SS → Prop} {k : W → EM β}
theorem rl_find {a b : Str} (h : Run (k (.d (.int (Txt.find a b)))) ⟨env, st⟩ Q) : Run (bnd (lft fun st => findW st (.d (.str a)) [.d (.str b)]) k) ⟨env, st⟩ Q := rb_lft rfl h
theorem rl_ixZ {z : Str} {i : Int} (hi : (0 ≤ i ∧ i < z.length) ∧ z.length ≤ 16777216) (h : Run (k (.d (.str (chr1 (z.cps.toList.getD i.toNat 0))))) ⟨env, st⟩ Q) : Run (bnd (lft fun st => ixA st (.d (.str z)) (.d (.int i))) k) ⟨env, st⟩ Q := rl_ixS hi.1 hi.2 h
theorem rl_ixZ' {z : Str} {i : Int} (h : Run (k (.d (.str (chr1 (z.cps.toList.getD i.toNat 0))))) ⟨env, st⟩ Q) (hi : (0 ≤ i ∧ i < z.length) ∧ z.length ≤ 16777216) : Run (bnd (lft fun st => ixA st (.d (.str z)) (.d (.int i))) k) ⟨env, st⟩ Q := rl_ixS hi.1 hi.2 h
end
theorem emod_at {i : Int} {n : Nat} (h : 0 < n) : 0 ≤ i % (n : Int) ∧ i % (n : Int) < n := ⟨Int.emod_nonneg _ (by omega), Int.emod_lt_of_pos _ (by omega)⟩
theorem rl_neBl {β : Type} {env : List (Option W)} {st : Store} {Q : Out β → SS → Prop} {k : W → EM β} {a b : Bool} (h : Run (k (.d (.bl (!decide (a = b))))) ⟨env, st⟩ Q) : Run (bnd (lft fun st => neA st (.d (.bl a)) (.d (.bl b))) k) ⟨env, st⟩ Q :=
  rl_neB (b := decide (a = b)) (by cases a <;> cases b <;> rfl) h
theorem rl_eqBl {β : Type} {env : List (Option W)} {st : Store} {Q : Out β → SS → Prop} {k : W → EM β} {a b : Bool} (h : Run (k (.d (.bl (decide (a = b))))) ⟨env, st⟩ Q) : Run (bnd (lft fun st => eqA st (.d (.bl a)) (.d (.bl b))) k) ⟨env, st⟩ Q :=
  rl_eqB (b := decide (a = b)) (by cases a <;> cases b <;> rfl) h
/-! isinstance of an own class, by what can be looked up -/
theorem kit_own {K : PySem.W.Frag} {t : Value} {X : Addr} {b : Bool} (h1 : PySem.W.isClsIn K X = true) (h2 : PySem.W.typeIn K (.ref X) = some (.type "type")) (h5 : PySem.W.subIn K (.ref X) (.ref X) = some true) (h3 : PySem.W.subIn K t (.ref X) = some b) : PySem.W.kitOne K t (.ref X) = some b := by
  unfold PySem.W.kitOne
  by_cases e : (t == .ref X) = true
  · rw [if_pos e]
    have e := beq_iff_eq.mp e
    subst e
    rw [h5] at h3
    exact h3
  · rw [if_neg e]
    unfold PySem.W.kitCls
    have hc : ((PySem.W.clsIn K X).isSome && PySem.W.typeIn K (.ref X) == some (.type "type")) = true := by
      rw [h2]
      have : (PySem.W.clsIn K X).isSome = true := h1
      rw [this]
      simp
    show (if ((PySem.W.clsIn K X).isSome && PySem.W.typeIn K (.ref X) == some (.type "type")) = true then PySem.W.subIn K t (.ref X) else none) = some b
    rw [if_pos hc]
    exact h3
end EV
/-! EV19: dicts by keys that are whole numbers or texts. -/
namespace EV
open PySem PySem.Spec PyProof.Rows L2
/-- a key -/
def kyW : W → Option Key
  | .d (.int i) => some (.inl i)
  | .d (.str z) => some (.inr z)
  | _ => none
def kyD : Key → D
  | .inl i => .int i
  | .inr z => .str z
/-- what stands in a dict -/
def dctW (st : Store) : W → Option (List Key × List W)
  | .d (.dct ks ds) => some (ks, ds.map .d)
  | .d _ => none
  | .loc n => match st[n]? with
    | some (some (.dct ks ws)) => some (ks, ws)
    | _ => none
/-- the value at a key -/
def valW : List Key → List W → Key → Option W
  | k0 :: ks, w :: ws, k => if k0 = k then some w else valW ks ws k
  | _, _, _ => none
def putG {α : Type} (kvs : List (Key × α)) (k : Key) (v : α) : List (Key × α) := if (kvs.any fun kv => decide (kv.1 = k)) = true then kvs.map (fun kv => if kv.1 = k then (kv.1, v) else kv) else kvs ++ [(k, v)]
section
variable {c : Kx} {ρ : Rho} {G H : Hp} {st : Store}
theorem kyW_ok {w : W} {v : V} {k : Key} (r : RepW c ρ G w v) (e : kyW w = some k) : v = kV k := by
  cases w with
  | loc _ => cases e
  | d x =>
    cases x with
    | int i => cases e; cases r; rfl
    | str i => cases e; cases r; rfl
    | _ => cases e
theorem dctW_ok {w : W} {v : V} {ks : List Key} {ws : List W} (r : RS c ρ G H st) (rv : RepW c ρ G w v) (e : dctW st w = some (ks, ws)) : ∃ a vs, v = .ref a ∧ H a = some (.dK (ks.zip vs)) ∧ ks.length = ws.length ∧ RepWs c ρ G ws vs := by
  cases w with
  | d x =>
    cases x with
    | dct ks' ds =>
      cases e
      cases rv with
      | dct h hl hr => exact ⟨_, _, rfl, r.sub _ _ h, by rw [List.length_map]; exact hl, RepWs.ofD hr⟩
    | _ => cases e
  | loc n =>
    unfold dctW at e
    cases ho : st[n]? with
    | none => simp only [ho] at e; cases e
    | some o =>
      cases o with
      | none => simp only [ho] at e; cases e
      | some o =>
        cases o with
        | dct ks' ws' =>
          simp only [ho] at e
          cases e
          obtain ⟨p, hp, rfl⟩ := rv
          obtain ⟨_, _, _, hl, vs, hH, hr⟩ := r.own n p _ hp ho
          exact ⟨p.1, vs, rfl, hH, hl, hr⟩
        | lst _ => simp only [ho] at e; cases e
        | ins _ _ _ => simp only [ho] at e; cases e
        | tup _ => simp only [ho] at e; cases e
theorem valW_ok {k : Key} : ∀ {ks : List Key} {ws : List W} {vs : List V}, ks.length = ws.length → RepWs c ρ G ws vs → match valW ks ws k with
    | some w => ∃ v, valV (ks.zip vs) k = some v ∧ RepW c ρ G w v
    | none => valV (ks.zip vs) k = none
  | [], [], _, _, _ => rfl
  | k0 :: ks, w :: ws, _, hl, ⟨v, vs, q, h, t⟩ => by
    subst q
    unfold valW
    by_cases z : k0 = k
    · rw [if_pos z]
      exact ⟨v, valV_pos (p := (k0, v)) z, h⟩
    · rw [if_neg z]
      have ih := valW_ok (k := k) (Nat.succ.inj hl) t
      show match valW ks ws k with | some w => ∃ v', valV ((k0, v) :: ks.zip vs) k = some v' ∧ _ | none => valV ((k0, v) :: ks.zip vs) k = none
      rw [valV_neg (p := (k0, v)) z]
      exact ih
  | [], _ :: _, _, hl, _ => by cases hl
  | _ :: _, [], _, hl, _ => by cases hl
theorem any_zip {α β : Type} {k : Key} : ∀ {ks : List Key} {ws : List α} {vs : List β}, ks.length = ws.length → ks.length = vs.length → ((ks.zip ws).any fun kv => decide (kv.1 = k)) = (ks.zip vs).any fun kv => decide (kv.1 = k)
  | [], _, _, _, _ => rfl
  | k0 :: ks, w :: ws, v :: vs, h1, h2 => by
    simp only [List.zip_cons_cons, List.any_cons]
    rw [any_zip (Nat.succ.inj h1) (Nat.succ.inj h2)]
  | _ :: _, [], _, h, _ => by cases h
  | _ :: _, _ :: _, [], _, h => by cases h
/-- ks, ws with y at k -/
def putW (ks : List Key) (ws : List W) (k : Key) (y : W) : List Key × List W := ((putG (ks.zip ws) k y).map (·.1), (putG (ks.zip ws) k y).map (·.2))
theorem map_keys {α : Type} {k : Key} {y : α} : ∀ {ks : List Key} {ws : List α}, ks.length = ws.length → ((ks.zip ws).map fun kv => if kv.1 = k then (kv.1, y) else kv).map (·.1) = ks
  | [], _, _ => rfl
  | k0 :: ks, w :: ws, h => by
    simp only [List.zip_cons_cons, List.map_cons]
    rw [map_keys (Nat.succ.inj h)]
    split <;> rfl
  | _ :: _, [], h => by cases h
theorem map_reps {k : Key} {y : W} {u : V} (hy : RepW c ρ G y u) : ∀ {ks : List Key} {ws : List W} {vs : List V}, ks.length = ws.length → RepWs c ρ G ws vs →
    RepWs c ρ G (((ks.zip ws).map fun kv => if kv.1 = k then (kv.1, y) else kv).map (·.2)) (((ks.zip vs).map fun kv => if kv.1 = k then (kv.1, u) else kv).map (·.2))
  | [], [], _, _, h => rfl
  | k0 :: ks, w :: ws, _, hl, ⟨v, vs, q, h, t⟩ => by
    subst q
    refine ⟨_, _, rfl, ?_, map_reps hy (Nat.succ.inj hl) t⟩
    show RepW c ρ G (if k0 = k then (k0, y) else (k0, w)).2 (if k0 = k then (k0, u) else (k0, v)).2
    split
    · exact hy
    · exact h
  | [], _ :: _, _, hl, _ => by cases hl
  | _ :: _, [], _, hl, _ => by cases hl
theorem zip_unzip {α : Type} : ∀ (l : List (Key × α)), (l.map (·.1)).zip (l.map (·.2)) = l
  | [] => rfl
  | p :: l => by
    simp only [List.map_cons, List.zip_cons_cons]
    rw [zip_unzip l]
theorem putW_ok {ks : List Key} {ws : List W} {vs : List V} {k : Key} {y : W} {u : V} (hl : ks.length = ws.length) (r : RepWs c ρ G ws vs) (hy : RepW c ρ G y u) :
    ∃ vs', putK (ks.zip vs) k u = (putW ks ws k y).1.zip vs' ∧ (putW ks ws k y).1.length = (putW ks ws k y).2.length ∧ RepWs c ρ G (putW ks ws k y).2 vs' := by
  have hl2 : ks.length = vs.length := by rw [r.len]; exact hl
  have ha := any_zip (k := k) hl hl2
  refine ⟨(putK (ks.zip vs) k u).map (·.2), ?_, by unfold putW; simp, ?_⟩
  · have e : (putW ks ws k y).1 = (putK (ks.zip vs) k u).map (·.1) := by
      unfold putW putG putK
      rw [ha]
      by_cases z : ((ks.zip vs).any fun kv => decide (kv.1 = k)) = true
      · rw [if_pos z, if_pos z]
        show List.map _ (List.map _ _) = List.map _ (List.map _ _)
        rw [map_keys hl, map_keys hl2]
      · rw [if_neg z, if_neg z]
        simp only [List.map_append, List.map_cons, List.map_nil]
        rw [List.map_fst_zip (by omega), List.map_fst_zip (by omega)]
    rw [e, zip_unzip]
  · unfold putW putG putK
    rw [ha]
    by_cases z : ((ks.zip vs).any fun kv => decide (kv.1 = k)) = true
    · rw [if_pos z, if_pos z]
      exact map_reps hy hl r
    · rw [if_neg z, if_neg z]
      simp only [List.map_append, List.map_cons, List.map_nil]
      rw [List.map_snd_zip (by omega), List.map_snd_zip (by omega)]
      exact r.app ⟨u, [], rfl, hy, rfl⟩
end
/-! d[k], k in d, d[k] = y -/
def rDG : R2 := fun x y H Q => ∃ a v, x = .ref a ∧ DGet H a y (some v) ∧ Q v H
theorem ix_dict {X : Cx} (hu : X.A.units + 1 < cLine) : IxR X rDG := by
  intro value slice pins s σ H x y v u Q I rx ry h hs
  obtain ⟨a, z, ex, g, q⟩ := h
  subst ex
  cases (show v = Value.ref a from rx)
  exact PyProof.Rows.tail_any (dict_typeIs I g) PySem.F.slot_dict_getitem.lookup (d_getItem hu I g ry fun w' s' I' r' => ⟨_, H, I', r', q⟩) hs
/-- x[y], of a list, a tuple, a text or a dict -/
def ixD (st : Store) (x y : W) : Option (W × Store) := match dctW st x with
  | some (ks, ws) => match kyW y with
    | some k => match valW ks ws k with
      | some w => some (w, st)
      | none => none
    | none => none
  | none => ixA st x y
section
variable {c : Kx} {X : Cx} {U : WX} {a b o i value : Expr} {ma mb mo mi me : EM W} {pos pos' : Pos}
theorem dget_ok {ρ : Rho} {G H : Hp} {st : Store} {x y : W} {vx vy : V} {ks : List Key} {ws : List W} {k : Key} (r : RS c ρ G H st) (rx : RepW c ρ G x vx) (ry : RepW c ρ G y vy) (e : dctW st x = some (ks, ws)) (ek : kyW y = some k) :
    ∃ a, vx = .ref a ∧ match valW ks ws k with
      | some w => ∃ v, DGet H a vy (some v) ∧ RepW c ρ G w v
      | none => DGet H a vy none := by
  obtain ⟨a, vs, rfl, hH, hl, hr⟩ := dctW_ok r rx e
  have hk := kyW_ok ry ek
  subst hk
  refine ⟨a, rfl, ?_⟩
  have hv := valW_ok (k := k) hl hr
  cases hw : valW ks ws k with
  | none =>
    rw [hw] at hv
    have := DGet.k (k := k) hH
    rw [hv] at this
    exact this
  | some w =>
    rw [hw] at hv
    obtain ⟨v, h1, h2⟩ := hv
    have := DGet.k (k := k) hH
    rw [h1] at this
    exact ⟨v, this, h2⟩
theorem s2_ixD : S2 c (fun x y H Q => rIx c.K x y H Q ∨ rDG x y H Q) ixD := fun ρ G H st x y w st' vx vy Q r rx ry e q => by
  unfold ixD at e
  cases ed : dctW st x with
  | none =>
    rw [ed] at e
    exact .inl (s2_ixA ρ G H st x y w st' vx vy Q r rx ry e q)
  | some p =>
    obtain ⟨ks, ws⟩ := p
    rw [ed] at e
    simp only at e
    cases ek : kyW y with
    | none => rw [ek] at e; cases e
    | some k =>
      rw [ek] at e
      simp only at e
      obtain ⟨a, rfl, h⟩ := dget_ok r rx ry ed ek
      cases hw : valW ks ws k with
      | none => rw [hw] at e; cases e
      | some w' =>
        rw [hw] at e h
        cases e
        obtain ⟨v, h1, h2⟩ := h
        exact .inr ⟨a, v, rfl, h1, q v ρ G H Stp.refl r h2⟩
theorem ee_ixD (hu : X.A.units + 1 < cLine) (ha : EE c X U a ma) (hb : EE c X U b mb) (hs : PlainIx b) : EE c X U (.Subscript a b pos) (op2 ixD ma mb) :=
  EE.mk1 ha.K (pe_ix (ix_seq.or (ix_dict hu)) ha.pe hb.pe hs) fun ρ G s σ H Q hR w => by
    have := wp_op2 (c := c) s2_ixD hR w
    rw [ha.K]
    exact this
/-- x[i] = e -/
def rSetD : V → V → V → Hp → (Hp → Prop) → Prop := fun o i v H Q => ∃ a H', o = .ref a ∧ DPut H a i v H' ∧ Q H'
theorem set_dict (hu : X.A.units + 1 < cLine) : PSet X rSetD := by
  intro pins s σ H o i v ov iv u Q I ro ri rv h
  obtain ⟨a, H', rfl, g, q⟩ := h
  cases (show ov = Value.ref a from ro)
  exact d_setItem hu I g ri rv fun s' I' => ⟨H', I', q⟩
theorem PSet.or {r r' : V → V → V → Hp → (Hp → Prop) → Prop} (h : PSet X r) (h' : PSet X r') : PSet X (fun o i v H Q => r o i v H Q ∨ r' o i v H Q) := by
  intro pins s σ H o i v ov iv u Q I ro ri rv q
  rcases q with q | q
  · exact h pins s σ H o i v ov iv u Q I ro ri rv q
  · exact h' pins s σ H o i v ov iv u Q I ro ri rv q
def putDW (st : Store) (o i y : W) : Option (Unit × Store) := match o with
  | .loc n => match st[n]? with
    | some (some (.dct ks ws)) => match kyW i with
      | some k => if ks.length < 16777216 then some ((), st.set n (some (.dct (putW ks ws k y).1 (putW ks ws k y).2))) else none
      | none => none
    | some (some (.lst _)) => setLW st o i y
    | _ => none
  | _ => none
def setX (mo mi me : EM W) : EM Fl := bnd me fun y => bnd mo fun o => bnd mi fun i => bnd (lft fun st => putDW st o i y) fun _ => pur .nx
theorem es_setX (hu : X.A.units + 1 < cLine) (he : EE c X U value me) (ho : EE c X U o mo) (hi : EE c X U i mi)
    (ha : ∀ v, assign (.Subscript o i pos') X.env v = (do
      let ov ← holding [v] (eval o X.env)
      let iv ← holding [v, ov] (eval i X.env)
      standAt pos'
      holding [v, ov, iv] (setItem ov iv v)
      release [v, ov, iv] []) := by intro _; rfl)
    (hs : swapsWithSole [.Subscript o i pos'] value pos.line X.env = pure false := by rfl) (hw : swappedStores [.Subscript o i pos'] value X.env = pure none := by rfl)
    (h1 : (assignEach [.Subscript o i pos'] X.env).map (·.2) = [assign (.Subscript o i pos') X.env] := by rfl) : ES c X U (.Assign [.Subscript o i pos'] value pos) (setX mo mi me) :=
  ⟨he.K, PS.imp (ps_asg he.pe (pg_sub ho.pe hi.pe (PSet.or set_list (set_dict hu)) ha) hs hw h1) fun D σ H ⟨ρ, G, s, hR, w⟩ => ⟨ρ, G, s, hR, (Ws.bndE hR w).imp fun y ρ1 G1 H1 s1 ⟨S1, R1, w1⟩ v rv =>
    ⟨ρ1, G1, s1, R1, (Ws.bndE R1 w1).imp fun z ρ2 G2 H2 s2 ⟨S2, R2, w2⟩ vo ro => ⟨ρ2, G2, s2, R2, (Ws.bndE R2 w2).imp fun iw ρ3 G3 H3 s3 ⟨S3, R3, w3⟩ vi ri => by
      obtain ⟨_, st', e1, q⟩ := Wp.lft (Ws.bndE R3 w3)
      have ro3 := ro.mono S3.rho S3.same
      have rv3 := (rv.mono S2.rho S2.same).mono S3.rho S3.same
      unfold putDW at e1
      cases z with
      | d _ => cases e1
      | loc n =>
        simp only at e1
        cases hst : s3.st[n]? with
        | none => rw [hst] at e1; cases e1
        | some oo =>
          cases oo with
          | none => rw [hst] at e1; cases e1
          | some oo =>
            cases oo with
            | ins _ _ _ => rw [hst] at e1; cases e1
            | tup _ => rw [hst] at e1; cases e1
            | lst _ =>
              rw [hst] at e1
              simp only at e1
              unfold setLW at e1
              split at e1
              · rename_i k _
                split at e1
                · rename_i w st2 e2
                  cases e1
                  obtain ⟨a, vs, ws, ws', rfl, hH, r1, hg, h4⟩ := wrL_ok R3.rs ro3 e2
                  cases hj : ixN ws.length k with
                  | none => rw [hj] at hg; cases hg
                  | some j =>
                    rw [hj] at hg
                    cases hg
                    cases ri
                    obtain ⟨S4, r4⟩ := h4 (vs.set j v) (r1.set j rv3)
                    have q2 := q ρ3 G3 _ S4 ⟨r4, R3.env, R3.len⟩
                    exact .inl ⟨a, vs, k, j, rfl, rfl, hH, by rw [r1.len]; exact hj, Ws.pur (U := U) q2.2.1 q2.2.2⟩
                · cases e1
              · cases e1
            | dct ks ws =>
              rw [hst] at e1
              simp only at e1
              cases hk : kyW iw with
              | none => rw [hk] at e1; cases e1
              | some k =>
                rw [hk] at e1
                simp only at e1
                split at e1
                · rename_i hlen
                  cases e1
                  obtain ⟨p, hp, rfl⟩ := ro3
                  obtain ⟨_, _, hp2, hl, vs, hH, hr⟩ := R3.rs.own n p _ hp hst
                  obtain ⟨vs', e5, l5, r5⟩ := putW_ok (k := k) hl hr rv3
                  have hkv := kyW_ok ri hk
                  subst hkv
                  obtain ⟨S4, r4⟩ := written (u := .dK (putK (ks.zip vs) k v)) R3.rs hp hst (o' := .dct (putW ks ws k y).1 (putW ks ws k y).2) ⟨hp2, l5, vs', by rw [upd_same, e5], r5⟩
                  have q2 := q ρ3 G3 _ S4 ⟨r4, R3.env, R3.len⟩
                  exact .inr ⟨p.1, _, rfl, DPut.k hH (by rw [List.length_zip, sizeLine_eq]; omega), Ws.pur (U := U) q2.2.1 q2.2.2⟩
                · cases e1⟩⟩⟩⟩
end
/-! new dicts -/
def newK (own : Bool) (ks : List Key) (ws : List W) (st : Store) : Option (W × Store) := if ks.length = ws.length then (if own then some (.loc st.length, st ++ [some (.dct ks ws)]) else match allD ws with
  | some ds => some (.d (.dct ks ds), st)
  | none => none) else none
section
variable {c : Kx} {ρ : Rho} {G H : Hp} {st : Store}
theorem newK_ok {own : Bool} {ks : List Key} {ws : List W} {vs : List V} {w : W} {st' : Store} {p : Addr} (r : RS c ρ G H st) (rv : RepWs c ρ G ws vs) (e : newK own ks ws st = some (w, st')) (hp : H p = none) :
    ∃ ρ' G', Stp ρ G H st ρ' G' (upd H p (.dK (ks.zip vs))) st' ∧ RS c ρ' G' (upd H p (.dK (ks.zip vs))) st' ∧ RepW c ρ' G' w (.ref p) := by
  unfold newK at e
  by_cases hl : ks.length = ws.length
  · rw [if_pos hl] at e
    cases own with
    | true =>
      simp only [if_true] at e
      cases e
      obtain ⟨S, r'⟩ := new_own (p := (p, p)) (o := .dct ks ws) (H' := upd H p (.dK (ks.zip vs))) r hp hp (fun a u e => by rw [upd_ne (ne_of_none e hp)]; exact e) ⟨rfl, hl, vs, upd_same, rv⟩
      exact ⟨_, _, S, r', (p, p), by rw [← r.len, List.getElem?_append_right (Nat.le_refl _)]; simp, rfl⟩
    | false =>
      simp only [Bool.false_eq_true, if_false] at e
      cases q : allD ws with
      | none => simp only [q] at e; cases e
      | some ds =>
        simp only [q] at e
        cases e
        obtain rfl := allD_eq q
        obtain ⟨S, r'⟩ := new_frozen (o := .dK (ks.zip vs)) r hp
        exact ⟨_, _, S, r', .dct upd_same (by rw [hl, List.length_map]) ((RepWs.toD rv).mono S.same)⟩
  · rw [if_neg hl] at e
    cases e
end
section
variable {c : Kx} {X : Cx} {U : WX} {a b o i value : Expr} {ma mb mo mi me : EM W} {pos pos' : Pos}
/-- {} -/
theorem ee_dnew {own : Bool} (hK : X.K = c.K) : EE c X U (.Dict [] [] pos) (lft (newK own [] [])) :=
  EE.mk1 hK pe_dnewK fun ρ G s σ H Q hR w p hp => by
    obtain ⟨w', st', e, q⟩ := Wp.lft w
    obtain ⟨ρ', G', S2, r2, rw2⟩ := newK_ok (ws := []) (vs := []) hR.rs rfl e hp
    exact q ρ' G' _ S2 ⟨r2, hR.env.mono S2.rho S2.same, hR.len⟩ _ rw2
/-- dict(d) -/
def dictC (own : Bool) (st : Store) : List W → Option (W × Store)
  | [w] => match dctW st w with
    | some (ks, ws) => newK own ks ws st
    | none => none
  | _ => none
theorem sn_dict (own : Bool) : SN c (fun xs H Q => ∃ (a : Addr) (kvs : List (Key × V)), xs = [.ref a] ∧ Rd H a (.dK kvs) ∧ ∀ p, H p = none → Q (.ref p) (upd H p (.dK kvs))) (dictC own) := fun ρ G H st xs w st' vs Q r rv e q => by
  unfold dictC at e
  split at e
  · rename_i w'
    obtain ⟨v, rfl, hz⟩ := one_rep rv
    cases ed : dctW st w' with
    | none => rw [ed] at e; cases e
    | some p =>
      obtain ⟨ks, ws⟩ := p
      rw [ed] at e
      simp only at e
      obtain ⟨a, us, rfl, hH, hl, hr⟩ := dctW_ok r hz ed
      refine ⟨a, _, rfl, .of hH, fun p hp => ?_⟩
      obtain ⟨ρ', G', S2, r2, rw2⟩ := newK_ok r hr e hp
      exact q _ ρ' G' _ S2 r2 rw2
  · cases e
/-- d.clear() -/
def dclearW (st : Store) (o : W) : List W → Option (W × Store)
  | [] => match o with
    | .loc n => match st[n]? with
      | some (some (.dct _ _)) => some (.d .non, st.set n (some (.dct [] [])))
      | _ => none
    | _ => none
  | _ => none
theorem sm_dclear : SM c rDClear dclearW := fun ρ G H st o xs w st' vo vs Q r ro rx e q => by
  unfold dclearW at e
  split at e
  · have rx : vs = [] := rx
    subst rx
    cases o with
    | d _ => cases e
    | loc n =>
      simp only at e
      cases hst : st[n]? with
      | none => rw [hst] at e; cases e
      | some oo =>
        cases oo with
        | none => rw [hst] at e; cases e
        | some oo =>
          cases oo with
          | lst _ => rw [hst] at e; cases e
          | ins _ _ _ => rw [hst] at e; cases e
          | tup _ => rw [hst] at e; cases e
          | dct ks ws =>
            rw [hst] at e
            cases e
            obtain ⟨p, hp, rfl⟩ := ro
            obtain ⟨_, _, hp2, hl, us, hH, hr⟩ := r.own n p _ hp hst
            obtain ⟨S, r'⟩ := written (u := .dK []) r hp hst (o' := .dct [] []) ⟨hp2, rfl, [], upd_same, rfl⟩
            exact ⟨p.1, _, rfl, rfl, hH, q _ ρ G _ S r' .non⟩
  · cases e
/-- k in d -/
def inD (st : Store) (x y : W) : Option (W × Store) := match dctW st y with
  | some (ks, ws) => match kyW x with
    | some k => some (.d (.bl (valW ks ws k).isSome), st)
    | none => none
  | none => inA st x y
def ninD (st : Store) (x y : W) : Option (W × Store) := match dctW st y with
  | some (ks, ws) => match kyW x with
    | some k => some (.d (.bl (!(valW ks ws k).isSome)), st)
    | none => none
  | none => ninA st x y
def rDIn : R2 := fun y x H Q => ∃ a o, x = .ref a ∧ DGet H a y o ∧ Q (.bl o.isSome) H
def rDNin : R2 := fun y x H Q => ∃ a o, x = .ref a ∧ DGet H a y o ∧ Q (.bl (!o.isSome)) H
theorem op_dIn (hu : X.A.units + 1 < cLine) : OpR X (compareOp .In) rDIn := by
  intro pins s σ H y x u v Q I ry rx h
  obtain ⟨a, o, rfl, g, q⟩ := h
  cases (show v = Value.ref a from rx)
  exact d_in hu I g ry fun s' I' => ⟨V.bl o.isSome, H, I', rfl, q⟩
theorem op_dNin (hu : X.A.units + 1 < cLine) : OpR X (compareOp .NotIn) rDNin := by
  intro pins s σ H y x u v Q I ry rx h
  obtain ⟨a, o, rfl, g, q⟩ := h
  cases (show v = Value.ref a from rx)
  exact d_notIn hu I g ry fun s' I' => ⟨V.bl (!o.isSome), H, I', rfl, q⟩
theorem op_inD2 (hu : X.A.units + 65 < cLine) : OpR X (compareOp .In) (fun x y H Q => rInA X.K x y H Q ∨ rDIn x y H Q) := (op_inA hu).or (op_dIn (by omega))
theorem op_ninD2 (hu : X.A.units + 65 < cLine) : OpR X (compareOp .NotIn) (fun x y H Q => rNotInA X.K x y H Q ∨ rDNin x y H Q) := (op_ninA hu).or (op_dNin (by omega))
theorem s2_inD : S2 c (fun x y H Q => rInA c.K x y H Q ∨ rDIn x y H Q) inD := fun ρ G H st x y w st' vx vy Q r rx ry e q => by
  unfold inD at e
  cases ed : dctW st y with
  | none =>
    rw [ed] at e
    exact .inl (s2_inA ρ G H st x y w st' vx vy Q r rx ry e q)
  | some p =>
    obtain ⟨ks, ws⟩ := p
    rw [ed] at e
    simp only at e
    cases ek : kyW x with
    | none => rw [ek] at e; cases e
    | some k =>
      rw [ek] at e
      cases e
      obtain ⟨a, rfl, h⟩ := dget_ok r ry rx ed ek
      cases hw : valW ks ws k with
      | none =>
        rw [hw] at h q
        exact .inr ⟨a, none, rfl, h, q _ ρ G H Stp.refl r (.bl _)⟩
      | some w' =>
        rw [hw] at h q
        obtain ⟨v, h1, h2⟩ := h
        exact .inr ⟨a, some v, rfl, h1, q _ ρ G H Stp.refl r (.bl _)⟩
theorem s2_ninD : S2 c (fun x y H Q => rNotInA c.K x y H Q ∨ rDNin x y H Q) ninD := fun ρ G H st x y w st' vx vy Q r rx ry e q => by
  unfold ninD at e
  cases ed : dctW st y with
  | none =>
    rw [ed] at e
    exact .inl (s2_ninA ρ G H st x y w st' vx vy Q r rx ry e q)
  | some p =>
    obtain ⟨ks, ws⟩ := p
    rw [ed] at e
    simp only at e
    cases ek : kyW x with
    | none => rw [ek] at e; cases e
    | some k =>
      rw [ek] at e
      cases e
      obtain ⟨a, rfl, h⟩ := dget_ok r ry rx ed ek
      cases hw : valW ks ws k with
      | none =>
        rw [hw] at h q
        exact .inr ⟨a, none, rfl, h, q _ ρ G H Stp.refl r (.bl _)⟩
      | some w' =>
        rw [hw] at h q
        obtain ⟨v, h1, h2⟩ := h
        exact .inr ⟨a, some v, rfl, h1, q _ ρ G H Stp.refl r (.bl _)⟩
end
/-! d.get(k), d.get(k, x) -/
def dgetW (ks : List Key) (ws : List W) (k : Key) (x : W) : W := (valW ks ws k).getD x
def lookE (o k x : W) : EM W := lft fun st => match dctW st o, kyW k with
  | some (ks, ws), some k => some (dgetW ks ws k x, st)
  | _, _ => none
def isDE (o : W) : EM Unit := lft fun st => match dctW st o with
  | some _ => some ((), st)
  | none => none
def get1E (mo mk : EM W) : EM W := bnd mo fun o => bnd (isDE o) fun _ => bnd mk fun k => lookE o k (.d .non)
def get2E (mo mk mx : EM W) : EM W := bnd mo fun o => bnd (isDE o) fun _ => bnd mk fun k => bnd mx fun x => lookE o k x
section
variable {c : Kx} {X : Cx} {U : WX} {o e f : Expr} {mo mk mx : EM W} {apos cpos : Pos}
theorem wp_isD {α : Type} {w : W} {k : EM α} {ρ : Rho} {G H : Hp} {σ : L2.St} {s : SS} {kk : α → Rho → Hp → Hp → SS → Prop} {v : V} (hR : R c ρ G σ H s) (rv : RepW c ρ G w v) (h : Wp c U (bnd (isDE w) fun _ => k) ρ G σ H s kk) :
    ∃ a, v = .ref a ∧ IsD H a ∧ Wp c U k ρ G σ H s kk := by
  obtain ⟨x, st', e, q⟩ := Wp.lft (Wp.bnd hR h)
  cases ed : dctW s.st w with
  | none => simp only [ed] at e; cases e
  | some p =>
    obtain ⟨ks, ws⟩ := p
    simp only [ed] at e
    cases e
    obtain ⟨a, vs, rfl, hH, hl, hr⟩ := dctW_ok hR.rs rv ed
    exact ⟨a, rfl, .inl ⟨_, .of hH⟩, (q ρ G H Stp.refl ⟨hR.rs, hR.env, hR.len⟩).2.2⟩
theorem wp_look {w k x : W} {ρ : Rho} {G H : Hp} {σ : L2.St} {s : SS} {a : Addr} {vk vx : V} {Q : VK} (hR : R c ρ G σ H s) (rw' : RepW c ρ G w (.ref a)) (rk : RepW c ρ G k vk) (rx : RepW c ρ G x vx) (h : Wp c U (lookE w k x) ρ G σ H s (fun w ρ' G' H' _ => ∀ v, RepW c ρ' G' w v → Q v H')) :
    ∃ o, DGet H a vk o ∧ Q (o.getD vx) H := by
  obtain ⟨y, st', e, q⟩ := Wp.lft h
  cases ed : dctW s.st w with
  | none => simp only [ed] at e; cases e
  | some p =>
    obtain ⟨ks, ws⟩ := p
    cases ek : kyW k with
    | none => simp only [ed, ek] at e; cases e
    | some k' =>
      simp only [ed, ek] at e
      cases e
      obtain ⟨a', ea, hh⟩ := dget_ok hR.rs rw' rk ed ek
      cases ea
      unfold dgetW at q
      cases hw : valW ks ws k' with
      | none =>
        rw [hw] at hh q
        exact ⟨none, hh, q ρ G H Stp.refl ⟨hR.rs, hR.env, hR.len⟩ _ rx⟩
      | some w' =>
        rw [hw] at hh q
        obtain ⟨v, h1, h2⟩ := hh
        exact ⟨some v, h1, q ρ G H Stp.refl ⟨hR.rs, hR.env, hR.len⟩ _ h2⟩
theorem ee_get1 (hu : X.A.units + 1 < cLine) (ho : EE c X U o mo) (he : EE c X U e mk) (m : M1 X o "get" apos e cpos) : EE c X U (.Call (.Attribute o "get" apos) [e] [] cpos) (get1E mo mk) :=
  EE.mk1 ho.K (pe_dget1 hu ho.pe he.pe m) fun ρ G s σ H Q hR w => ⟨ρ, G, s, hR, (Wp.bnd hR w).imp fun x ρ1 G1 H1 s1 ⟨S1, R1, w1⟩ v rv => by
    obtain ⟨a, rfl, hd, w2⟩ := wp_isD R1 rv w1
    refine ⟨a, rfl, hd, ρ1, G1, s1, R1, (Wp.bnd R1 w2).imp fun y ρ2 G2 H2 s2 ⟨S2, R2, w3⟩ vk rk => ?_⟩
    exact wp_look (x := .d .non) (vx := .non) R2 (rv.mono S2.rho S2.same) rk RepD.non w3⟩
theorem ee_get2 (hu : X.A.units + 1 < cLine) (ho : EE c X U o mo) (he : EE c X U e mk) (hf : EE c X U f mx) (m : M2 X o "get" apos e f cpos) : EE c X U (.Call (.Attribute o "get" apos) [e, f] [] cpos) (get2E mo mk mx) :=
  EE.mk1 ho.K (pe_dget2 hu ho.pe he.pe hf.pe m) fun ρ G s σ H Q hR w => ⟨ρ, G, s, hR, (Wp.bnd hR w).imp fun x ρ1 G1 H1 s1 ⟨S1, R1, w1⟩ v rv => by
    obtain ⟨a, rfl, hd, w2⟩ := wp_isD R1 rv w1
    refine ⟨a, rfl, hd, ρ1, G1, s1, R1, (Wp.bnd R1 w2).imp fun y ρ2 G2 H2 s2 ⟨S2, R2, w3⟩ vk rk => ?_⟩
    refine ⟨ρ2, G2, s2, R2, (Wp.bnd R2 w3).imp fun z ρ3 G3 H3 s3 ⟨S3, R3, w4⟩ vx rx => ?_⟩
    exact wp_look R3 ((rv.mono S2.rho S2.same).mono S3.rho S3.same) (rk.mono S3.rho S3.same) rx w4⟩
end
/-! d == e of two dicts of whole numbers and texts that are alike -/
def eqK (ks : List Key) (ws : List W) (ls : List Key) (us : List W) : Bool := decide (ks.length = ls.length) && (ks.zip ws).all fun p => (kyW p.2).isSome && decide ((valW ls us p.1).bind kyW = kyW p.2)
def eqX (st : Store) (x y : W) : Option (W × Store) := match dctW st x, dctW st y with
  | some (ks, ws), some (ls, us) => if eqK ks ws ls us then some (.d (.bl true), st) else none
  | _, _ => eqA st x y
def neX (st : Store) (x y : W) : Option (W × Store) := match dctW st x, dctW st y with
  | some (ks, ws), some (ls, us) => if eqK ks ws ls us then some (.d (.bl false), st) else none
  | _, _ => neA st x y
section
variable {c : Kx} {ρ : Rho} {G H : Hp} {st : Store}
theorem zip_at {k : Key} {v : V} : ∀ {ks : List Key} {ws : List W} {vs : List V}, ks.length = ws.length → RepWs c ρ G ws vs → (k, v) ∈ ks.zip vs → ∃ w, (k, w) ∈ ks.zip ws ∧ RepW c ρ G w v
  | [], _, _, _, _, h => by simp at h
  | k0 :: ks, w :: ws, _, hl, ⟨v0, vs, q, h0, t⟩, h => by
    subst q
    simp only [List.zip_cons_cons, List.mem_cons] at h
    rcases h with h | h
    · cases h
      exact ⟨w, by simp, h0⟩
    · obtain ⟨w', h1, h2⟩ := zip_at (Nat.succ.inj hl) t h
      exact ⟨w', by simp [h1], h2⟩
  | _ :: _, [], _, hl, _, _ => by cases hl
theorem flat_key (k : Key) : flatB (kV k) = true := by cases k <;> rfl
theorem eqK_ok {x y : W} {vx vy : V} {ks ls : List Key} {ws us : List W} (r : RS c ρ G H st) (rx : RepW c ρ G x vx) (ry : RepW c ρ G y vy) (e1 : dctW st x = some (ks, ws)) (e2 : dctW st y = some (ls, us)) (e : eqK ks ws ls us = true) :
    ∃ a b kk ll, vx = .ref a ∧ vy = .ref b ∧ H a = some (.dK kk) ∧ H b = some (.dK ll) ∧ kk.length = ll.length ∧ ∀ p ∈ kk, valV ll p.1 = some p.2 ∧ flatB p.2 = true := by
  obtain ⟨a, vs, rfl, hH, hl, hr⟩ := dctW_ok r rx e1
  obtain ⟨b, zs, rfl, hH2, hl2, hr2⟩ := dctW_ok r ry e2
  unfold eqK at e
  rw [Bool.and_eq_true, decide_eq_true_eq, List.all_eq_true] at e
  refine ⟨a, b, _, _, rfl, rfl, hH, hH2, ?_, fun p hp => ?_⟩
  · rw [List.length_zip, List.length_zip, hr.len, hr2.len, ← hl, ← hl2, e.1]
  · obtain ⟨k, v⟩ := p
    obtain ⟨w, h1, h2⟩ := zip_at hl hr hp
    have h3 := e.2 _ h1
    rw [Bool.and_eq_true, decide_eq_true_eq] at h3
    obtain ⟨k', hk'⟩ := Option.isSome_iff_exists.mp h3.1
    have hv := kyW_ok h2 hk'
    have hw := valW_ok (k := k) hl2 hr2
    rw [hk'] at h3
    cases hq : valW ls us k with
    | none => rw [hq] at h3; exact absurd h3.2 (by simp)
    | some u =>
      rw [hq] at hw h3
      obtain ⟨v', h4, h5⟩ := hw
      have := kyW_ok h5 h3.2
      subst hv this
      exact ⟨h4, flat_key k'⟩
end
section
variable {c : Kx} {X : Cx}
theorem op_eqX (hu : X.A.units + 64 < cLine) : OpR X (compareOp .Eq) (fun x y H Q => (rEq x y H Q ∨ rEqD X.K x y H Q) ∨ rEqDA x y H Q) := (op_eqA hu).or (op_eq_dictA (by omega))
theorem op_neX (hu : X.A.units + 64 < cLine) : OpR X (compareOp .NotEq) (fun x y H Q => (rNe x y H Q ∨ rNeD X.K x y H Q) ∨ rNeDA x y H Q) := (op_neA hu).or (op_ne_dictA (by omega))
theorem s2_eqX : S2 c (fun x y H Q => (rEq x y H Q ∨ rEqD c.K x y H Q) ∨ rEqDA x y H Q) eqX := fun ρ G H st x y w st' vx vy Q r rx ry e q => by
  unfold eqX at e
  split at e
  · rename_i ks ws ls us e1 e2
    split at e
    · rename_i h
      cases e
      obtain ⟨a, b, kk, ll, rfl, rfl, h1, h2, h3, h4⟩ := eqK_ok r rx ry e1 e2 h
      exact .inr ⟨a, b, kk, ll, rfl, rfl, h1, h2, h3, h4, q _ ρ G H Stp.refl r (.bl true)⟩
    · cases e
  · exact .inl (s2_eqA ρ G H st x y w st' vx vy Q r rx ry e q)
theorem s2_neX : S2 c (fun x y H Q => (rNe x y H Q ∨ rNeD c.K x y H Q) ∨ rNeDA x y H Q) neX := fun ρ G H st x y w st' vx vy Q r rx ry e q => by
  unfold neX at e
  split at e
  · rename_i ks ws ls us e1 e2
    split at e
    · rename_i h
      cases e
      obtain ⟨a, b, kk, ll, rfl, rfl, h1, h2, h3, h4⟩ := eqK_ok r rx ry e1 e2 h
      exact .inr ⟨a, b, kk, ll, rfl, rfl, h1, h2, h3, h4, q _ ρ G H Stp.refl r (.bl false)⟩
    · cases e
  · exact .inl (s2_neA ρ G H st x y w st' vx vy Q r rx ry e q)
end
theorem room1 {k : Nat} {A : Around} (r : Room k A) : A.units + 1 < cLine := by
  have := room65 r
  omega
end EV
/-! EV20: running dicts. -/
namespace EV
open PySem L2
section
variable {β : Type} {env : List (Option W)} {st st' : Store} {s : SS} {Q : Out β → SS → Prop} {k : W → EM β}
theorem rb_setX {k : Fl → EM β} {mo mi me : EM W} (h : Run (bnd me fun y => bnd mo fun o => bnd mi fun i => bnd (lft fun st => putDW st o i y) fun _ => k .nx) s Q) : Run (bnd (setX mo mi me) k) s Q := by
  unfold setX
  rw [bnd_assoc]
  have e : (fun a => bnd (bnd mo fun o => bnd mi fun i => bnd (lft fun st => putDW st o i a) fun _ => pur Fl.nx) k) = fun y => bnd mo fun o => bnd mi fun i => bnd (lft fun st => putDW st o i y) fun _ => k .nx := by
    funext a
    rw [bnd_assoc]
    congr 1
    funext b
    rw [bnd_assoc]
    congr 1
    funext c
    rw [bnd_assoc]
    rfl
  rw [e]
  exact h
theorem rl_putD {k : Unit → EM β} {n : Nat} {ks : List Key} {ws : List W} {i : W} {q : Key} {y : W} (e : st[n]? = some (some (.dct ks ws))) (ek : kyW i = some q) (hl : ks.length < 16777216) (e2 : st.set n (some (.dct (putW ks ws q y).1 (putW ks ws q y).2)) = st') (h : Run (k ()) ⟨env, st'⟩ Q) :
    Run (bnd (lft fun st => putDW st (.loc n) i y) k) ⟨env, st⟩ Q := by
  subst e2
  refine rb_lft (a := ()) ?_ h
  unfold putDW
  simp only [e, ek, hl, if_true]
theorem rl_newKO {n : Nat} (e : st.length = n) (e2 : st ++ [some (.dct [] [])] = st') (h : Run (k (.loc n)) ⟨env, st'⟩ Q) : Run (bnd (lft (newK true [] [])) k) ⟨env, st⟩ Q := by
  subst e e2
  exact rb_lft rfl h
theorem rl_newKF (h : Run (k (.d (.dct [] []))) ⟨env, st⟩ Q) : Run (bnd (lft (newK false [] [])) k) ⟨env, st⟩ Q := rb_lft rfl h
theorem rl_dictO {n : Nat} {w : W} {ks : List Key} {ws : List W} (e : dctW st w = some (ks, ws)) (hl : ks.length = ws.length) (e1 : st.length = n) (e2 : st ++ [some (.dct ks ws)] = st') (h : Run (k (.loc n)) ⟨env, st'⟩ Q) : Run (bnd (lft fun st => dictC true st [w]) k) ⟨env, st⟩ Q := by
  subst e1 e2
  refine rb_lft ?_ h
  unfold dictC newK
  simp only [e, hl, if_true]
theorem rl_dclear {n : Nat} {ks : List Key} {ws : List W} (e : st[n]? = some (some (.dct ks ws))) (e2 : st.set n (some (.dct [] [])) = st') (h : Run (k (.d .non)) ⟨env, st'⟩ Q) : Run (bnd (lft fun st => dclearW st (.loc n) []) k) ⟨env, st⟩ Q := by
  subst e2
  refine rb_lft ?_ h
  unfold dclearW
  simp only [e]
theorem rb_get1 {mo mk : EM W} (h : Run (bnd mo fun o => bnd (isDE o) fun _ => bnd mk fun x => bnd (lookE o x (.d .non)) k) s Q) : Run (bnd (get1E mo mk) k) s Q := by
  unfold get1E
  rw [bnd_assoc]
  have e : (fun o => bnd (bnd (isDE o) fun _ => bnd mk fun x => lookE o x (.d .non)) k) = fun o => bnd (isDE o) fun _ => bnd mk fun x => bnd (lookE o x (.d .non)) k := by
    funext o
    rw [bnd_assoc]
    congr 1
    funext _
    rw [bnd_assoc]
  rw [e]
  exact h
theorem rb_get2 {mo mk mx : EM W} (h : Run (bnd mo fun o => bnd (isDE o) fun _ => bnd mk fun x => bnd mx fun y => bnd (lookE o x y) k) s Q) : Run (bnd (get2E mo mk mx) k) s Q := by
  unfold get2E
  rw [bnd_assoc]
  have e : (fun o => bnd (bnd (isDE o) fun _ => bnd mk fun x => bnd mx fun y => lookE o x y) k) = fun o => bnd (isDE o) fun _ => bnd mk fun x => bnd mx fun y => bnd (lookE o x y) k := by
    funext o
    rw [bnd_assoc]
    congr 1
    funext _
    rw [bnd_assoc]
    congr 1
    funext _
    rw [bnd_assoc]
  rw [e]
  exact h
theorem rb_isD {k : Unit → EM β} {w : W} {p : List Key × List W} (e : dctW st w = some p) (h : Run (k ()) ⟨env, st⟩ Q) : Run (bnd (isDE w) k) ⟨env, st⟩ Q := rb_lft (a := ()) (by simp only [e]) h
theorem rb_look {w x y : W} {ks : List Key} {ws : List W} {q : Key} (e : dctW st w = some (ks, ws)) (ek : kyW x = some q) (h : Run (k (dgetW ks ws q y)) ⟨env, st⟩ Q) : Run (bnd (lookE w x y) k) ⟨env, st⟩ Q := rb_lft (by simp only [e, ek]) h
theorem rl_eqD {x y : W} {ks ls : List Key} {ws us : List W} (e1 : dctW st x = some (ks, ws)) (e2 : dctW st y = some (ls, us)) (e : eqK ks ws ls us = true) (h : Run (k (.d (.bl true))) ⟨env, st⟩ Q) : Run (bnd (lft fun st => eqX st x y) k) ⟨env, st⟩ Q := rb_lft (by unfold eqX; simp only [e1, e2, e, if_true]) h
theorem rl_neD {x y : W} {ks ls : List Key} {ws us : List W} (e1 : dctW st x = some (ks, ws)) (e2 : dctW st y = some (ls, us)) (e : eqK ks ws ls us = true) (h : Run (k (.d (.bl false))) ⟨env, st⟩ Q) : Run (bnd (lft fun st => neX st x y) k) ⟨env, st⟩ Q := rb_lft (by unfold neX; simp only [e1, e2, e, if_true]) h
theorem rl_ixD {x y w : W} {ks : List Key} {ws : List W} {q : Key} (e : dctW st x = some (ks, ws)) (ek : kyW y = some q) (ev : valW ks ws q = some w) (h : Run (k w) ⟨env, st⟩ Q) : Run (bnd (lft fun st => ixD st x y) k) ⟨env, st⟩ Q := rb_lft (by unfold ixD; simp only [e, ek, ev]) h
theorem rl_inD {x y : W} {ks : List Key} {ws : List W} {q : Key} (e : dctW st y = some (ks, ws)) (ek : kyW x = some q) (h : Run (k (.d (.bl (valW ks ws q).isSome))) ⟨env, st⟩ Q) : Run (bnd (lft fun st => inD st x y) k) ⟨env, st⟩ Q := rb_lft (by unfold inD; simp only [e, ek]) h
theorem rl_ninD {x y : W} {ks : List Key} {ws : List W} {q : Key} (e : dctW st y = some (ks, ws)) (ek : kyW x = some q) (h : Run (k (.d (.bl (!(valW ks ws q).isSome)))) ⟨env, st⟩ Q) : Run (bnd (lft fun st => ninD st x y) k) ⟨env, st⟩ Q := rb_lft (by unfold ninD; simp only [e, ek]) h
theorem fz_dct {n : Nat} {ks : List Key} {ws : List W} {ds : List D} (h : st[n]? = some (some (.dct ks ws))) (e : allD ws = some ds) : fz 20 (.loc n) st = some (.dct ks ds, st.set n none) := by
  unfold fz
  rw [allD_eq e] at h
  simp only [h, fzL_d]
theorem rp_dct {P : D → Prop} {n : Nat} {ks : List Key} {ws : List W} {ds : List D} (e : st[n]? = some (some (.dct ks ws))) (e2 : allD ws = some ds) (h : P (.dct ks ds)) : Run (pur (.ret (.loc n))) ⟨env, st⟩ (RetP P) := run_pur ⟨_, _, fz_dct e e2, h⟩
theorem rb_frzK {env' : List (Option W)} {n : Nat} {ks : List Key} {ws : List W} {ds : List D} (e : st[n]? = some (some (.dct ks ws))) (e2 : allD ws = some ds) (e3 : env.map (rpl n (.dct ks ds)) = env') (e4 : st.set n none = st')
    (h : Run (k (.d (.dct ks ds))) ⟨env', st'⟩ Q) : Run (bnd (frzK (.loc n)) k) ⟨env, st⟩ Q := by
  subst e4
  exact rb_frzL (fz_dct e e2) e3 h
/-- a def that only tells a tree, of the same from trees -/
theorem pureP_of {F : FF} {ds : List D} {d : D} {st' : Store} (e : F (ds.map .d) [] = some (.ok (.d d), st')) : pureP F ds = some (.ok d) := by
  unfold pureP
  rw [e]
  show (match fz 20 (.d d) st' with | some (d, _) => some (Out.ok d) | none => none) = _
  rw [fz_d]
end
/-! what putW does -/
theorem put_all {P : W → Prop} {q : Key} {y : W} (hy : P y) {ks : List Key} {ws : List W} (hl : ks.length = ws.length) (hn : ks.Nodup) (h : ∀ w ∈ ws, P w) :
    (putW ks ws q y).1.Nodup ∧ (putW ks ws q y).1.length = (putW ks ws q y).2.length ∧ (putW ks ws q y).1.length ≤ ks.length + 1 ∧ (∀ w ∈ (putW ks ws q y).2, P w) ∧ ∀ k ∈ (putW ks ws q y).1, k ∈ ks ∨ k = q := by
  unfold putW putG
  by_cases z : ((ks.zip ws).any fun kv => decide (kv.1 = q)) = true
  · rw [if_pos z]
    simp only
    have e1 : List.map (fun x => x.1) (List.map (fun kv => if kv.1 = q then (kv.1, y) else kv) (ks.zip ws)) = ks := map_keys hl
    rw [e1]
    refine ⟨hn, by simp [hl], by omega, fun w hw => ?_, fun k hk => .inl hk⟩
    obtain ⟨p, hp, rfl⟩ := List.mem_map.mp hw
    obtain ⟨p0, hp0, rfl⟩ := List.mem_map.mp hp
    split
    · exact hy
    · exact h _ (List.of_mem_zip hp0).2
  · rw [if_neg z]
    simp only [List.map_append, List.map_cons, List.map_nil]
    rw [List.map_fst_zip (by omega), List.map_snd_zip (by omega)]
    refine ⟨?_, by simp [hl], by simp, fun w hw => ?_, fun k hk => ?_⟩
    · refine List.nodup_append.mpr ⟨hn, by simp, fun a ha b hb e => z ?_⟩
      have hb : b = q := by simpa using hb
      subst hb e
      rw [List.any_eq_true]
      obtain ⟨i, hi, rfl⟩ := List.getElem_of_mem ha
      exact ⟨(ks[i], ws[i]'(by omega)), by rw [← List.getElem_zip (h := by simp; omega)]; exact List.getElem_mem _, decide_eq_true rfl⟩
    · rcases List.mem_append.mp hw with hw | hw
      · exact h w hw
      · rw [List.mem_singleton.mp hw]; exact hy
    · rcases List.mem_append.mp hk with hw | hw
      · exact .inl hw
      · exact .inr (List.mem_singleton.mp hw)
theorem val_none {q : Key} : ∀ {ks : List Key} {ws : List W}, ¬ q ∈ ks → valW ks ws q = none
  | [], _, _ => rfl
  | _ :: _, [], _ => rfl
  | k :: ks, w :: ws, h => by
    unfold valW
    rw [if_neg fun e => h (by rw [e]; exact List.mem_cons_self)]
    exact val_none fun e => h (List.mem_cons_of_mem _ e)
theorem val_mem {q : Key} {w : W} : ∀ {ks : List Key} {ws : List W}, valW ks ws q = some w → w ∈ ws
  | [], _, h => by cases h
  | _ :: _, [], h => by cases h
  | k :: ks, x :: ws, h => by
    unfold valW at h
    split at h
    · cases h; exact List.mem_cons_self
    · exact List.mem_cons_of_mem _ (val_mem h)
theorem val_some {q : Key} : ∀ {ks : List Key} {ws : List W}, ks.length = ws.length → q ∈ ks → ∃ w, valW ks ws q = some w
  | [], _, _, h => by cases h
  | _ :: _, [], h, _ => by cases h
  | k :: ks, x :: ws, hl, h => by
    unfold valW
    by_cases e : k = q
    · exact ⟨x, if_pos e⟩
    · rw [if_neg e]
      rcases List.mem_cons.mp h with h | h
      · exact absurd h.symm e
      · exact val_some (Nat.succ.inj hl) h
theorem val_zip {q : Key} {w : W} : ∀ {ks : List Key} {ws : List W}, ks.Nodup → (q, w) ∈ ks.zip ws → valW ks ws q = some w
  | [], _, _, h => by simp at h
  | _ :: _, [], _, h => by simp at h
  | k :: ks, x :: ws, hn, h => by
    obtain ⟨h1, h2⟩ := List.nodup_cons.mp hn
    unfold valW
    rw [List.zip_cons_cons] at h
    rcases List.mem_cons.mp h with h | h
    · cases h
      exact if_pos rfl
    · rw [if_neg fun e => h1 (by rw [e]; exact (List.of_mem_zip h).1)]
      exact val_zip h2 h
/-- a dict is like itself -/
theorem eqK_refl {ks : List Key} {ws : List W} (hn : ks.Nodup) (h : ∀ w ∈ ws, (kyW w).isSome = true) : eqK ks ws ks ws = true := by
  unfold eqK
  rw [decide_eq_true rfl, Bool.true_and, List.all_eq_true]
  rintro ⟨q, w⟩ hp
  rw [Bool.and_eq_true, decide_eq_true_eq]
  refine ⟨h w (List.of_mem_zip hp).2, ?_⟩
  simp only
  rw [val_zip hn hp]
  rfl
/-! dicts of texts to texts -/
theorem sw_of {P : Str → Prop} : ∀ {ws : List W}, (∀ w ∈ ws, ∃ z, w = .d (.str z) ∧ P z) → ∃ zs, ws = sw zs ∧ ∀ z ∈ zs, P z
  | [], _ => ⟨[], rfl, fun _ h => nomatch h⟩
  | w :: ws, h => by
    obtain ⟨z, rfl, hz⟩ := h w List.mem_cons_self
    obtain ⟨zs, rfl, hs⟩ := sw_of fun x hx => h x (List.mem_cons_of_mem _ hx)
    exact ⟨z :: zs, rfl, fun x hx => (List.mem_cons.mp hx).elim (fun e => by rw [e]; exact hz) (hs x)⟩
theorem put_str {P : Str → Prop} {q : Key} {y : Str} {ks : List Key} {zs : List Str} (hy : P y) (hl : ks.length = zs.length) (hn : ks.Nodup) (h : ∀ z ∈ zs, P z) :
    ∃ ks' zs', (putW ks (sw zs) q (.d (.str y))).1 = ks' ∧ (putW ks (sw zs) q (.d (.str y))).2 = sw zs' ∧ ks'.Nodup ∧ ks'.length = zs'.length ∧ ks'.length ≤ ks.length + 1 ∧ ∀ z ∈ zs', P z := by
  obtain ⟨h1, h2, h3, h4, _⟩ := put_all (q := q) (P := fun w => ∃ z, w = .d (.str z) ∧ P z) (y := .d (.str y)) ⟨y, rfl, hy⟩ (ws := sw zs) (by rw [sw_len]; exact hl) hn (fun w hw => by
    obtain ⟨z, hz, rfl⟩ := List.mem_map.mp hw
    exact ⟨z, rfl, h z hz⟩)
  obtain ⟨zs', e, h5⟩ := sw_of h4
  exact ⟨_, zs', rfl, e, h1, by rw [h2, e, sw_len], h3, h5⟩
/-- x by the names of a dict -/
def ren (ks : List Key) (zs : List Str) (x : Str) : Str := match valW ks (sw zs) (.inr x) with
  | some (.d (.str y)) => y
  | _ => x
theorem ren_get {ks : List Key} {zs : List Str} {x : Str} : dgetW ks (sw zs) (.inr x) (.d (.str x)) = .d (.str (ren ks zs x)) ∧ (ren ks zs x = x ∨ ren ks zs x ∈ zs) := by
  unfold dgetW ren
  cases e : valW ks (sw zs) (.inr x) with
  | none => exact ⟨rfl, .inl rfl⟩
  | some w =>
    obtain ⟨z, hz, rfl⟩ := List.mem_map.mp (val_mem e)
    exact ⟨rfl, .inr hz⟩
theorem rb_ren {β : Type} {env : List (Option W)} {st : Store} {Q : Out β → SS → Prop} {k : W → EM β} {w : W} {x : Str} {ks : List Key} {zs : List Str} (e : dctW st w = some (ks, sw zs)) (h : Run (k (.d (.str (ren ks zs x)))) ⟨env, st⟩ Q) : Run (bnd (lookE w (.d (.str x)) (.d (.str x))) k) ⟨env, st⟩ Q := by
  refine rb_look e rfl ?_
  rw [ren_get.1]
  exact h
theorem dct_sw {st : Store} {ks : List Key} {zs : List Str} : dctW st (.d (.dct ks (zs.map .str))) = some (ks, sw zs) := by
  show some (ks, (zs.map D.str).map W.d) = _
  rw [List.map_map]
  rfl
theorem ren_ok {P : Str → Prop} {ks : List Key} {zs : List Str} {x : Str} (hx : P x) (h : ∀ z ∈ zs, P z) : P (ren ks zs x) := by
  rcases (ren_get (ks := ks) (zs := zs) (x := x)).2 with e | e
  · rw [e]; exact hx
  · exact h _ e
end EV
/-! EV21: rows of words. -/
namespace EV
open PySem L2
/-- words as a row -/
def rowJ (ws : List Str) : Str := Txt.join (Str.ofString " ") ws
/-- words that a row keeps apart -/
def okW (ws : List Str) : Prop := ws ≠ [] ∧ ws.length ≤ 100 ∧ ∀ w ∈ ws, w.length ≤ 100 ∧ ¬ 32 ∈ w.cps.toList
theorem split_row {ws : List Str} (h : okW ws) : Txt.split (rowJ ws) (Str.ofString " ") = ws :=
  TL.split_join (s := 32) (S := []) (by decide +kernel) (by decide +kernel) h.1 fun p hp => (h.2.2 p hp).2
theorem sum_le {ws : List Str} {n : Nat} (h : ∀ w ∈ ws, w.length ≤ n) : (ws.map fun x => x.length).sum ≤ ws.length * n := by
  induction ws with
  | nil => simp
  | cons w ws ih =>
    have h1 := h w List.mem_cons_self
    have h2 := ih fun x hx => h x (List.mem_cons_of_mem _ hx)
    simp only [List.map_cons, List.sum_cons, List.length_cons]
    rw [Nat.add_mul]
    omega
theorem okW_sum {ws : List Str} (h : okW ws) : (ws.map fun x => x.length).sum ≤ 10000 := by
  have h1 := sum_le (n := 100) fun w hw => (h.2.2 w hw).1
  have := h.2.1
  omega
theorem rowJ_len {ws : List Str} (h : okW ws) : (rowJ ws).length ≤ 10100 := by
  have h1 := StrLaws.join_length_le (Str.ofString " ") ws
  have e : (Str.ofString " ").length = 1 := rfl
  rw [e, Nat.mul_one] at h1
  have e2 : rowJ ws = Str.join (Str.ofString " ") ws := StrLaws.glued_eq_join _ _
  rw [e2]
  have := okW_sum h
  have := h.2.1
  omega
section
variable {β : Type} {env : List (Option W)} {st st' : Store} {s : SS} {Q : Out β → SS → Prop} {k : W → EM β}
theorem rl_splitR {ws : List Str} (h : okW ws) (q : Run (k (.d (strs' ws))) ⟨env, st⟩ Q) : Run (bnd (lft fun st => splitW false st (.d (.str (rowJ ws))) [.d (.str (Str.ofString " "))]) k) ⟨env, st⟩ Q := by
  refine rb_lft ?_ q
  have hl := rowJ_len h
  have e : (Str.ofString " ").length = 1 := rfl
  unfold splitW
  simp only [e]
  rw [if_pos ⟨by decide, by omega⟩, split_row h]
  unfold newL strs'
  simp only [Bool.false_eq_true, if_false]
  have := allD_sw ws
  unfold sw at this
  rw [this]
theorem rl_joinB {zs : List Str} (hl : (zs.map fun x => x.length).sum + zs.length ≤ 16777216) (h : Run (k (.d (.str (rowJ zs)))) ⟨env, st⟩ Q) : Run (bnd (lft fun st => joinW st (.d (.str (Str.ofString " "))) [.d (strs' zs)]) k) ⟨env, st⟩ Q := by
  refine rb_lft ?_ h
  unfold joinW strs'
  simp only [snap_d, strsD_map]
  have e : (Str.ofString " ").length = 1 := rfl
  rw [e, Nat.mul_one, if_pos hl]
  rfl
theorem rl_joinR {zs : List Str} (h : okW zs) (q : Run (k (.d (.str (rowJ zs)))) ⟨env, st⟩ Q) : Run (bnd (lft fun st => joinW st (.d (.str (Str.ofString " "))) [.d (strs' zs)]) k) ⟨env, st⟩ Q :=
  rl_joinB (by have := okW_sum h; have := h.2.1; omega) q
theorem rl_lenSs {zs : List Str} (h : Run (k (.d (.int zs.length))) ⟨env, st⟩ Q) : Run (bnd (lft fun st => lenW st [.d (strs' zs)]) k) ⟨env, st⟩ Q := rl_lenL (by rw [List.length_map]; exact h)
theorem rl_ixSk {zs : List Str} {i : Int} {z : Str} (e : atI zs i = some z) (h : Run (k (.d (.str z))) ⟨env, st⟩ Q) : Run (bnd (lft fun st => ixA st (.d (strs' zs)) (.d (.int i))) k) ⟨env, st⟩ Q := rl_ixL (by rw [atI_map, e]; rfl) h
theorem rl_ixC0 {a : Str} {r : List Str} (h : Run (k (.d (.str a))) ⟨env, st⟩ Q) : Run (bnd (lft fun st => ixA st (.d (strs' (a :: r))) (.d (.int 0))) k) ⟨env, st⟩ Q := rl_ixSs ⟨by decide, by simp⟩ h
theorem rl_ixC1 {a b : Str} {r : List Str} (h : Run (k (.d (.str b))) ⟨env, st⟩ Q) : Run (bnd (lft fun st => ixA st (.d (strs' (a :: b :: r))) (.d (.int 1))) k) ⟨env, st⟩ Q := rl_ixSs ⟨by decide, by simp; omega⟩ h
theorem rl_ixC2 {a b c : Str} {r : List Str} (h : Run (k (.d (.str c))) ⟨env, st⟩ Q) : Run (bnd (lft fun st => ixA st (.d (strs' (a :: b :: c :: r))) (.d (.int 2))) k) ⟨env, st⟩ Q := rl_ixSs ⟨by decide, by simp; omega⟩ h
theorem rl_slSs {zs : List Str} {lo hi : Option Int} (h : Run (k (.d (strs' (cutW zs lo hi)))) ⟨env, st⟩ Q) : Run (bnd (lft fun st => sliceA false st (.d (strs' zs)) lo hi) k) ⟨env, st⟩ Q := rl_slL (by rw [cutW_map]; exact h)
theorem rl_slSO {zs : List Str} {lo hi : Option Int} {n : Nat} (e : st.length = n) (e2 : st ++ [some (.lst (sw (cutW zs lo hi)))] = st') (h : Run (k (.loc n)) ⟨env, st'⟩ Q) : Run (bnd (lft fun st => sliceA true st (.d (strs' zs)) lo hi) k) ⟨env, st⟩ Q := by
  subst e e2
  refine rb_lft ?_ h
  show newL true (cutW ((zs.map D.str).map W.d) lo hi) st = _
  rw [List.map_map, cutW_map]
  rfl
theorem rl_listF {ds : List D} (h : Run (k (.d (.lst ds))) ⟨env, st⟩ Q) : Run (bnd (lft fun st => listC false st [.d (.lst ds)]) k) ⟨env, st⟩ Q := by
  refine rb_lft ?_ h
  show newL false (ds.map W.d) st = _
  unfold newL
  rw [allD_map]
  rfl
theorem rl_listSs {zs : List Str} (h : Run (k (.d (strs' zs))) ⟨env, st⟩ Q) : Run (bnd (lft fun st => listC false st [.d (strs' zs)]) k) ⟨env, st⟩ Q := rl_listF h
theorem rl_listO {n : Nat} {ws : List W} {ds : List D} (e : st[n]? = some (some (.lst ws))) (e2 : allD ws = some ds) (h : Run (k (.d (.lst ds))) ⟨env, st⟩ Q) : Run (bnd (lft fun st => listC false st [.loc n]) k) ⟨env, st⟩ Q := by
  refine rb_lft ?_ h
  show (match (match st[n]? with | some (some (.lst ws)) => some ws | _ => none) with | some ws => newL false ws st | none => _) = _
  rw [e]
  show newL false ws st = _
  unfold newL
  rw [e2]
  rfl
theorem rl_insert {n : Nat} {ws : List W} {i : Int} {x : W} (e : st[n]? = some (some (.lst ws))) (hl : ws.length < 16777216 ∧ 0 ≤ i ∧ i < 1000000000) (e2 : st.set n (some (.lst (ws.take i.toNat ++ [x] ++ ws.drop i.toNat))) = st') (h : Run (k (.d .non)) ⟨env, st'⟩ Q) :
    Run (bnd (lft fun st => insertW st (.loc n) [.d (.int i), x]) k) ⟨env, st⟩ Q := by
  subst e2
  refine rb_lft ?_ h
  unfold insertW wrL
  simp only [e]
  rw [if_pos hl]
theorem eq_strs : ∀ (xs ys : List Str), D.eq (strs' xs) (strs' ys) = decide (xs = ys)
  | [], [] => rfl
  | [], _ :: _ => rfl
  | _ :: _, [] => rfl
  | x :: xs, y :: ys => by
    show (D.eq (.str x) (.str y) && D.eq (strs' xs) (strs' ys)) = _
    rw [eq_str, eq_strs xs ys, Bool.eq_iff_iff]
    simp
theorem eqB_strs {xs ys : List Str} (hx : ∀ z ∈ xs, okS z) (hy : ∀ z ∈ ys, okS z) : eqB st (.d (strs' xs)) (.d (strs' ys)) = some (decide (xs = ys)) := by
  have ox := okD_of (okN_strs (n := 0) hx) (by decide)
  have oy := okD_of (okN_strs (n := 0) hy) (by decide)
  unfold eqB strs' at *
  simp only [snap_d, ox, oy, Bool.and_self, if_true]
  exact congrArg some (eq_strs xs ys)
theorem rl_neSs {xs ys : List Str} (hx : ∀ z ∈ xs, okS z) (hy : ∀ z ∈ ys, okS z) (q : Run (k (.d (.bl (!decide (xs = ys))))) ⟨env, st⟩ Q) : Run (bnd (lft fun st => neA st (.d (strs' xs)) (.d (strs' ys))) k) ⟨env, st⟩ Q := rl_neB (eqB_strs hx hy) q
theorem rl_eqSs {xs ys : List Str} (hx : ∀ z ∈ xs, okS z) (hy : ∀ z ∈ ys, okS z) (q : Run (k (.d (.bl (decide (xs = ys))))) ⟨env, st⟩ Q) : Run (bnd (lft fun st => eqA st (.d (strs' xs)) (.d (strs' ys))) k) ⟨env, st⟩ Q := rl_eqB (eqB_strs hx hy) q
end
theorem cut_from {α : Type} {xs : List α} {a : Nat} : cutW xs (some (a : Int)) none = xs.drop a := by
  unfold cutW HT.sIx
  simp only
  rw [if_neg (by omega)]
  have e : min ((a : Int)).toNat xs.length = min a xs.length := by simp
  rw [e]
  by_cases h : a ≤ xs.length
  · rw [Nat.min_eq_left h, List.take_of_length_le (by simp)]
  · rw [Nat.min_eq_right (by omega), List.drop_of_length_le (by omega), List.drop_of_length_le (by omega)]
    simp
theorem cut_upto {α : Type} {xs : List α} {a : Nat} (h : a ≤ xs.length) : cutW xs none (some (a : Int)) = xs.take a := by
  unfold cutW HT.sIx
  simp only
  rw [if_neg (by omega)]
  simp [Nat.min_eq_left h]
theorem strs_join {a b : List Str} : strs' (a ++ b) = .lst (a.map .str ++ b.map .str) := by
  unfold strs'
  rw [List.map_append]
theorem rl_addSs {β : Type} {env : List (Option W)} {st : Store} {Q : Out β → SS → Prop} {k : W → EM β} {xs ys : List Str} (hl : xs.length + ys.length ≤ 16777216) (h : Run (k (.d (strs' (xs ++ ys)))) ⟨env, st⟩ Q) : Run (bnd (lft fun st => addA false st (.d (strs' xs)) (.d (strs' ys))) k) ⟨env, st⟩ Q :=
  rl_addL (by simpa using hl) (by rw [strs_join] at h; exact h)
/-! fields written -/
def sfK (ok : List Nat) (i : Nat) (y : W) : W → EM Fl := fun w => fun s => match w with
  | .loc n => match s.st[n]? with
    | some (some (.ins k ks ws)) => if ok.contains k && decide (ks.length < 900) then some (.ok .nx, ⟨s.env, s.st.set n (some (.ins k (fput ks ws i y).1 (fput ks ws i y).2))⟩) else none
    | _ => none
  | _ => none
section
variable {β : Type} {env : List (Option W)} {st st' : Store} {s : SS} {Q : Out β → SS → Prop} {k : Fl → EM β}
theorem sfld_eq (ok : List Nat) (i : Nat) (mo m : EM W) : sfldS ok i mo m = bnd m fun y => bnd mo (sfK ok i y) := rfl
theorem rb_sfld {ok : List Nat} {i : Nat} {mo m : EM W} (h : Run (bnd m fun y => bnd mo fun w => bnd (sfK ok i y w) k) s Q) : Run (bnd (sfldS ok i mo m) k) s Q := by
  rw [sfld_eq]
  exact rb_bnd2 h
theorem rl_sfld {ok : List Nat} {i n c : Nat} {ks : List Nat} {ws : List W} {y : W} (e : st[n]? = some (some (.ins c ks ws))) (h1 : (ok.contains c && decide (ks.length < 900)) = true) (e2 : st.set n (some (.ins c (fput ks ws i y).1 (fput ks ws i y).2)) = st') (h : Run (k .nx) ⟨env, st'⟩ Q) :
    Run (bnd (sfK ok i y (.loc n)) k) ⟨env, st⟩ Q := by
  subst e2
  refine rb_eq ?_ h
  unfold sfK
  simp only [e]
  rw [if_pos h1]
end
end EV
/-! EV22: raising. -/
namespace EV
open PySem PySem.Spec PyProof.Rows L2
/-- an `__init__` of an exception that keeps its one argument -/
def spX1 (C : Addr) (f : Str) : Sp := fun vs H Q _ => ∃ a y, vs = [.ref a, y] ∧ H a = some (exo a C none) ∧ ∀ dx, H dx = none → dx ≠ a → Q .non (upd (upd H dx (exd dx [(f, y)])) a (exo a C (some dx)))
theorem fn_x1 {P : Program} {w : World} {K : PySem.W.Frag} {mg : Str → Option Value} {base : Heap} {x qual f : Str} {sd : Stmt} {fI C : Addr} {N ps : List Str} (D : DefAt K x qual sd fI ps) (S : FnScope N ps (defScope sd)) (T : OexC K C) (hno : PySem.W.findIn K (.ref C) f = some none) (hl : ps.length = 2)
    (hb : ∀ (cdv : Value) (A : Around) (outer : List Env) (s : Shared) (H : Hp) (E : XK), PSs (cxOf (L2N.CX P w) P w K mg base N qual (defScope sd) fI cdv A outer s H E) (defBody sd) (tOst K f (tVar 0) (tVar 1))) : FnS P w K mg base 1 fI (spX1 C f) [] := by
  obtain ⟨fd, F, b⟩ := D.ex
  refine ⟨fd, ps, [], okAny (k := 0) F S (fun vs H Q E h => ?_) (fun cdv A outer s H vs Q E hr h => ⟨_, hb cdv A outer s H E, ?_⟩), F.kp, b, .nil⟩
  · obtain ⟨a, y, rfl, _⟩ := h
    exact hl.symm
  · obtain ⟨a, y, rfl, ha, q⟩ := h
    exact ⟨y, rfl, .ref a, rfl, a, C, rfl, T, hno, .inl ⟨ha, q⟩⟩
/-- raise C(e) -/
def raiseS (k : Nat) (ks : List Nat) (m : EM (List W)) : EM Fl := bnd (treesE m) fun ds => if ds.length = ks.length then thr k ks ds else non
theorem passes_no {CX : CXT} {X : Cx} (h : CX = L2N.CX X.prog X.w) : Passes CX X (fun _ _ _ => False) := by
  subst h
  intro pins σ H s e s' I hx
  obtain ⟨_, _, _, _, _, _, _, _, _, _, _, _, z⟩ := hx
  exact z.elim
/-- a call of an own exception's class with an __init__: it stands with no context -/
theorem pmk_oexN {X : Cx} {CXk : CXT} {nm : Str} {a0 : Expr} {as : List Expr} {t : TA} {p q0 : Pos} {C fI : Addr} {lv : Nat} {fd : FuncData} {ps : List Str} {spc : Sp} {dv : List Value} {dw : List V} (T : OexC X.K C)
    (iC : PySem.W.findIn X.K (.ref C) "__init__" = some (some (.ref fI))) (tI : PySem.W.typeIn X.K (.ref fI) = some (.type "function")) (Fi : FnOk X.prog X.w X.K X.mg X.base CXk lv fI fd ps spc) (room : Room (lv + 1) X.A)
    (bi : Binds X.K fd ps dv) (dd : Vals dw dv) (no : Passes CXk X (fun _ _ _ => False)) (gl : Gl X nm) (gm : X.mg nm = some (.ref C)) (arg : PA X (a0 :: as) t)
    (nd : (nm == ("__debug__" : Str)) = false := by decide) (se : starEach (a0 :: as) X.env = (false, eval a0 X.env) :: starEach as X.env := by rfl) (pl : (backTo q0 (starEach as X.env)).any (·.1) = false := by rfl) :
    L2N.PMk X (.Call (.Name nm p) (a0 :: as) [] q0) (tMkO C spc dw t) := by
  intro pins s σ H Q I want
  have cls := T.cls
  obtain ⟨nm1, qn, N1, bases, bm, sn1, su1, ab1, co1, dd1, m0, m1, m2, m3, m5, isC, isB⟩ := cls
  refine wpAny_Call_Name_kw (ld_glob I gl gm (PySem.W.callWith_K (h₀ := X.base) I.ok.mod.kin T.kC (thn (arg.run q0 pins s σ H _ I want) fun vals s1 ⟨vs, Ha, Ia, rel, few, asks⟩ => ⟨Ia.kIn, ?_⟩) se pl) nd)
  show wpAny _ _ (call (.ref C) vals) _ _ _
  obtain ⟨h1, gs, dr, tk, os⟩ := s1
  have le1 : h1.objs.size ≤ h1.objs.size + 1 := Nat.le_succ _
  have free1 : Ha (h1.objs.size + 1) = none := Ia.hok.fresh le1
  have asked := asks (h1.objs.size + 1) free1
  have stay : ∀ b o, h1.get? b = some o → ((h1.push (PySem.W.kdv_tup vals)).push (PySem.HandSPX.excO C h1.objs.size)).get? b = some o :=
    fun b o e => Heap.get?_push_of_some _ (Heap.get?_push_of_some _ e)
  have there : ((h1.push (PySem.W.kdv_tup vals)).push (PySem.HandSPX.excO C h1.objs.size)).get? (h1.objs.size + 1) = some (PySem.HandSPX.excO C h1.objs.size) := by
    heap_get
  have Ib : Inv X pins σ (upd Ha (h1.objs.size + 1) (exo (h1.objs.size + 1) C none)) ⟨(h1.push (PySem.W.kdv_tup vals)).push (PySem.HandSPX.excO C h1.objs.size), gs, dr, tk, os⟩ :=
    Ia.laid (t' := tk) (a := h1.objs.size + 1) (o := exo (h1.objs.size + 1) C none) (h' := (h1.push (PySem.W.kdv_tup vals)).push (PySem.HandSPX.excO C h1.objs.size)) stay le1 (exo_ok there)
  have rel2 : Vals (V.ref (h1.objs.size + 1) :: (vs ++ dw)) (Value.ref (h1.objs.size + 1) :: (vals ++ dv)) :=
    .cons rfl (rel.append dd)
  have many : (Value.ref (h1.objs.size + 1) :: vals ++ dv).length = ps.length := by
    have e := rel2.length
    rw [Fi.len _ _ _ _ asked] at e
    exact e.symm
  have few2 : vals.length ≤ sizeLine := by
    rw [← Paired.length rel, sizeLine_eq]; omega
  refine wpAny_call (PySem.HandSPX.call_own F.excBase_ValueError (fun Y => PySem.HandSPX.refsVE_contains Y bm isB) (Ia.kIn _ _ isC) (PySem.W.looks_findIn Ia.kIn iC) (fun me => PySem.W.bind_fn Ia.kIn me tI) few2
    (codeAny_mono (Fi.run _ X.stack _ _ ⟨Value.ref (h1.objs.size + 1) :: vals, []⟩ (Value.ref (h1.objs.size + 1) :: (vals ++ dv)) _ _ (fun _ _ _ => False) (room.make C vals []) (Ib.env0.make C vals [])
      (bi _ (Value.ref (h1.objs.size + 1) :: vals) Ib.kIn many) rel2 asked) fun res s' got => ?_))
  cases res with
  | error er => exact no pins σ _ _ er s' Ib got
  | ok fl =>
    cases fl with
    | next => exact got.elim
    | brk => exact got.elim
    | cont => exact got.elim
    | ret u =>
      obtain ⟨v, Hb, os2, bare2, un2, hok2, rv, ev, d, fs, ea, ed, free2, last⟩ := got
      subst ev
      obtain ⟨h2, g2, d2, t2, os'⟩ := s'
      obtain ⟨t0, G, J, kG, ge, oe, na⟩ := mk_end0 (d2 := d2) (t2 := t2) Ia le1 stay un2 hok2 os2 bare2 ea ed free2
      exact ⟨rv, ⟨h1.objs.size + 1, _, _, ⟨G, g2, d2, t2, os'⟩, _, .ref C, some d, rfl, J, kG, ge, oe, ⟨rfl, rfl, fun vs hv => by cases hv; rfl⟩, rfl, rfl, na, rfl, bare2, raises_own T.exC T.tyC, last⟩⟩
theorem es_raise1 {X : Cx} {c : Kx} {U : WX} {k i j : Nat} {C fI : Addr} {f x : Str} {e : Expr} {p pos pos' : Pos} {m : EM (List W)} (hcalm : X.calm = true) (tk : L2N.Takes X U) (hk : c.ct[k]? = some C) (hf : c.fn[i]? = some f) (T : OexC X.K C)
    (iC : PySem.W.findIn X.K (.ref C) "__init__" = some (some (.ref fI))) (tI : PySem.W.typeIn X.K (.ref fI) = some (.type "function")) (Fn : FnS X.prog X.w X.K X.mg X.base j fI (spX1 C f) []) (hr : Room (j + 1) X.A) (hg : Gl X x) (hm : X.mg x = some (.ref C)) (ha : EA c X U [e] m)
    (hdb : (x == ("__debug__" : Str)) = false := by decide) (he : starEach [e] X.env = (false, eval e X.env) :: starEach [] X.env := by rfl) (hpl : (backTo pos (starEach [] X.env)).any (·.1) = false := by rfl) : ES c X U (.Raise (some (.Call (.Name x p) [e] [] pos)) none pos') (raiseS k [i] m) := by
  obtain ⟨fd, ps, ds, F, kp, b, dd⟩ := Fn.ex
  refine ⟨ha.K, PS.imp (L2N.ps_raise hcalm tk (pmk_oexN T iC tI F hr b dd (passes_no rfl) hg hm ha.pa hdb he hpl)) fun D σ H ⟨ρ, G, s, hR, w⟩ => ?_⟩
  have w : Ws c U (bnd m fun ws => bnd (treesK ws) fun ds => if ds.length = [i].length then thr k [i] ds else non) ρ G H s (kD c D) := by
    have e2 : raiseS k [i] m = bnd m fun ws => bnd (treesK ws) fun ds => if ds.length = [i].length then thr k [i] ds else non := by
      unfold raiseS
      rw [treesE_eq, bnd_assoc]
    rw [← e2]
    exact w
  refine ⟨ρ, G, s, hR, (Ws.bndE hR w).imp fun ws ρ1 G1 H1 s1 ⟨S1, R1, w1⟩ vs rvs => ?_⟩
  cases ew : allD ws with
  | none => exact w1.none (by unfold treesK; rw [ew]; rfl)
  | some ds =>
    obtain rfl := allD_eq ew
    have e3 : (bnd (treesK (ds.map W.d)) fun ds => if ds.length = [i].length then (thr k [i] ds : EM Fl) else non) = if ds.length = [i].length then thr k [i] ds else non := by
      unfold treesK
      rw [ew]
      rfl
    rw [e3] at w1
    by_cases hl : ds.length = [i].length
    · rw [if_pos hl] at w1
      obtain ⟨d0, rfl⟩ : ∃ d0, ds = [d0] := by
        match ds, hl with
        | [d0], _ => exact ⟨d0, rfl⟩
      have rd := RepWs.toD rvs
      obtain ⟨y, rfl, ry⟩ : ∃ y, vs = [y] ∧ RepD c G1 d0 y := by
        cases rd with
        | cons r t => cases t; exact ⟨_, rfl, r⟩
      refine ⟨by simp, fun a ha0 => ⟨a, y, rfl, upd_same, fun dx hdx hne => ⟨rfl, dx, [(f, y)], upd_same, by rw [upd_ne hne, upd_same], ?_, ?_⟩⟩⟩
      · rw [upd_ne hne] at hdx
        exact hdx
      · rw [upd_ne hne] at hdx
        have eq : upd (del (upd (upd (upd H1 a (exo a C none)) dx (exd dx [(f, y)])) a (exo a C (some dx))) a) dx (.xd [(f, y)]) = upd H1 dx (.xd [(f, y)]) := by
          funext b
          by_cases hb : b = dx
          · rw [hb, upd_same, upd_same]
          · rw [upd_ne hb, upd_ne hb]
            by_cases hba : b = a
            · rw [hba, del_same, ha0]
            · rw [del_ne hba, upd_ne hba, upd_ne hb, upd_ne hba]
        rw [eq]
        obtain ⟨S2, r2⟩ := new_frozen (o := .xd [(f, y)]) R1.rs hdx
        have en : c.nm i = f := by
          unfold Kx.nm
          rw [List.getD_eq_getElem?_getD, hf]
          rfl
        refine w1 ρ1 _ σ _ (.ref C) (some dx) S2 ⟨r2, R1.env.mono S2.rho S2.same, R1.len⟩ ⟨C, hk, rfl, .inr ⟨dx, [y], rfl, rfl, ?_, .cons (ry.mono S2.same) .nil⟩⟩
        show upd G1 dx (.xd [(f, y)]) dx = some (.xd [(c.nm i, y)])
        rw [upd_same, en]
    · rw [if_neg hl] at w1
      exact w1.none rfl
/-- nothing is promised -/
theorem fn_none {P : Program} {w : World} {mg : Str → Option Value} {base : Heap} {c : Kx} {x qual : Str} {sd : Stmt} {f : Addr} {N ps : List Str} {np : Nat} (D : DefAt c.K x qual sd f ps) (S : FnScope N ps (defScope sd)) : FnS P w c.K mg base 1 f (spP c np (fun _ => none)) [] := by
  obtain ⟨fd, F, b⟩ := D.ex
  refine ⟨fd, ps, [], okAny (k := 0) F S (fun vs H Q E h => ?_) (fun cdv A outer s H vs Q E hr h => ?_), F.kp, b, .nil⟩
  · obtain ⟨_, _, _, _, _, z⟩ := h
    exact z.elim
  · obtain ⟨_, _, _, _, _, z⟩ := h
    exact z.elim
theorem rb_raise {β : Type} {s : SS} {Q : Out β → SS → Prop} {k : Fl → EM β} {C : Nat} {ks : List Nat} {m : EM (List W)} (h : Run (bnd m fun ws => bnd (treesK ws) fun ds => bnd (if ds.length = ks.length then (thr C ks ds : EM Fl) else non) k) s Q) : Run (bnd (raiseS C ks m) k) s Q := by
  unfold raiseS
  rw [bnd_assoc, treesE_eq, bnd_assoc]
  exact h
theorem rb_thrS {β : Type} {s : SS} {Q : Out β → SS → Prop} {k : Fl → EM β} {C : Nat} {ks : List Nat} {ds : List D} (hl : ds.length = ks.length) (h : Q (.ex C ks ds) s) : Run (bnd (if ds.length = ks.length then (thr C ks ds : EM Fl) else non) k) s Q := by
  rw [if_pos hl]
  exact rb_thr h
end EV
/-! EV23: parts within parts as own objects. -/
namespace EV
open PySem L2
instance kmem {q : L2.Key} {ks : List L2.Key} : Decidable (q ∈ ks) := decidable_of_iff ((ks.any fun x => decide (x = q)) = true) (by
  rw [List.any_eq_true]
  constructor
  · rintro ⟨x, h, e⟩
    exact of_decide_eq_true e ▸ h
  · exact fun h => ⟨q, h, decide_eq_true rfl⟩)
/-- a part as a tree -/
def ptD (name : Str) (rooms : List Str) (rows : List D) : D := .ins 7 [5, 7, 8] [.str name, strs' rooms, .lst rows]
def ptO (name : Str) (a b : Nat) : OO := .ins 7 [5, 7, 8] [.d (.str name), .loc a, .loc b]
mutual
/-- w, with the places fp, is the tree d, at most h parts deep -/
inductive Den (st : Store) : Nat → List Nat → W → D → Prop
  | d (h : Nat) (x : D) : Den st h [] (.d x) x
  | part {h m a b : Nat} {name : Str} {rooms : List Str} {items : List W} {rows : List D} {fp : List Nat} (e1 : st[m]? = some (some (ptO name a b))) (e2 : st[a]? = some (some (.lst (sw rooms)))) (e3 : st[b]? = some (some (.lst items))) (t : Dens st h fp items rows) :
      Den st (h + 1) (m :: a :: b :: fp) (.loc m) (ptD name rooms rows)
inductive Dens (st : Store) : Nat → List Nat → List W → List D → Prop
  | nil (h : Nat) : Dens st h [] [] []
  | cons {h : Nat} {f1 f2 : List Nat} {w : W} {ws : List W} {d : D} {ds : List D} (e : Den st h f1 w d) (t : Dens st h f2 ws ds) : Dens st h (f1 ++ f2) (w :: ws) (d :: ds)
end
theorem Dens.lens {st : Store} : ∀ {h : Nat} {fp : List Nat} {ws : List W} {ds : List D}, Dens st h fp ws ds → ws.length = ds.length
  | _, _, _, _, .nil _ => rfl
  | _, _, _, _, .cons _ t => congrArg (· + 1) (Dens.lens t)
mutual
theorem Den.lt {st : Store} : ∀ {h : Nat} {fp : List Nat} {w : W} {d : D}, Den st h fp w d → ∀ k ∈ fp, k < st.length
  | _, _, _, _, .d h x, k, q => (nomatch q)
  | _, _, _, _, .part e1 e2 e3 t, k, q => by
    simp only [List.mem_cons] at q
    rcases q with rfl | rfl | rfl | q
    · exact (List.getElem?_eq_some_iff.mp e1).1
    · exact (List.getElem?_eq_some_iff.mp e2).1
    · exact (List.getElem?_eq_some_iff.mp e3).1
    · exact Dens.lt t k q
theorem Dens.lt {st : Store} : ∀ {h : Nat} {fp : List Nat} {ws : List W} {ds : List D}, Dens st h fp ws ds → ∀ k ∈ fp, k < st.length
  | _, _, _, _, .nil h, k, q => (nomatch q)
  | _, _, _, _, .cons e t, k, q => (List.mem_append.mp q).elim (Den.lt e k) (Dens.lt t k)
end
theorem Dens.snoc {st : Store} {h : Nat} {w : W} {d : D} {f : List Nat} : ∀ {fp : List Nat} {ws : List W} {ds : List D}, Dens st h fp ws ds → Den st h f w d → Dens st h (fp ++ f) (ws ++ [w]) (ds ++ [d])
  | _, _, _, .nil _, e => by
    have := Dens.cons e (.nil h)
    rw [List.append_nil] at this
    exact this
  | _, _, _, .cons e0 t, e => by
    rw [List.append_assoc]
    exact .cons e0 (t.snoc e)
mutual
theorem Den.frame {st st' : Store} : ∀ {h : Nat} {fp : List Nat} {w : W} {d : D}, Den st h fp w d → (∀ n ∈ fp, st'[n]? = st[n]?) → Den st' h fp w d
  | _, _, _, _, .d h x, _ => .d h x
  | _, _, _, _, .part e1 e2 e3 t, q => .part ((q _ (by simp)).trans e1) ((q _ (by simp)).trans e2) ((q _ (by simp)).trans e3) (Dens.frame t fun n hn => q n (by simp [hn]))
theorem Dens.frame {st st' : Store} : ∀ {h : Nat} {fp : List Nat} {ws : List W} {ds : List D}, Dens st h fp ws ds → (∀ n ∈ fp, st'[n]? = st[n]?) → Dens st' h fp ws ds
  | _, _, _, _, .nil h, _ => .nil h
  | _, _, _, _, .cons e t, q => .cons (Den.frame e fun n hn => q n (by simp [hn])) (Dens.frame t fun n hn => q n (by simp [hn]))
end
theorem ne_in {a b : Nat} {l : List Nat} (h : ¬ a ∈ l) (h2 : b ∈ l) : a ≠ b := fun e => h (e ▸ h2)
theorem set_get {st : Store} {n m : Nat} {o : Option OO} (h : n ≠ m) : (st.set n o)[m]? = st[m]? := List.getElem?_set_ne h
/-- what freezing leaves -/
def Left (st st' : Store) (fp : List Nat) : Prop := st'.length = st.length ∧ ∀ n, ¬ n ∈ fp → st'[n]? = st[n]?
mutual
theorem Den.fz : ∀ {st : Store} {h : Nat} {fp : List Nat} {w : W} {d : D}, Den st h fp w d → fp.Nodup → ∀ k, 2 * h + 1 ≤ k → ∃ st', EV.fz k w st = some (d, st') ∧ Left st st' fp
  | st, _, _, _, _, .d h x, _, k, _ => ⟨st, fz_d k x st, rfl, fun _ _ => rfl⟩
  | st, _, _, _, _, .part (h := h) (m := m) (a := a) (b := b) (name := name) (rooms := rooms) (items := items) (rows := rows) (fp := fp) e1 e2 e3 t, nd, k, hk => by
    obtain ⟨k, rfl⟩ : ∃ k', k = k' + 2 := ⟨k - 2, by omega⟩
    obtain ⟨n1, nd⟩ := List.nodup_cons.mp nd
    obtain ⟨n2, nd⟩ := List.nodup_cons.mp nd
    obtain ⟨n3, nd⟩ := List.nodup_cons.mp nd
    simp only [List.mem_cons, not_or] at n1 n2 n3
    have q1 : (st.set m none)[a]? = some (some (.lst (sw rooms))) := (set_get n1.1).trans e2
    have q2 : ((st.set m none).set a none)[b]? = some (some (.lst items)) := (set_get n2.1).trans ((set_get n1.2.1).trans e3)
    have t2 : Dens (((st.set m none).set a none).set b none) h fp items rows := t.frame fun n hn => by
      rw [set_get (ne_in n3 hn), set_get (ne_in n2.2 hn), set_get (ne_in n1.2.2 hn)]
    obtain ⟨st', f1, f2, f3⟩ := Dens.fz t2 nd k (by omega)
    have z1 : EV.fz (k + 1) (.loc a) (st.set m none) = some (strs' rooms, (st.set m none).set a none) := by
      unfold EV.fz
      simp only [q1]
      rw [show sw rooms = (rooms.map D.str).map W.d by rw [List.map_map]; rfl, fzL_d]
      rfl
    have z2 : EV.fz (k + 1) (.loc b) ((st.set m none).set a none) = some (.lst rows, st') := by
      unfold EV.fz
      simp only [q2, f1]
    refine ⟨st', ?_, ?_, fun n hn => ?_⟩
    · show (match st[m]? with | some (some (.lst ws)) => _ | some (some (.dct ks ws)) => _ | some (some (.ins i ks ws)) => (match fzL (EV.fz (k + 1)) ws (st.set m none) with | some (ds, st1) => some (D.ins i ks ds, st1) | none => none) | _ => none) = _
      rw [e1]
      show (match fzL (EV.fz (k + 1)) [.d (.str name), .loc a, .loc b] (st.set m none) with | some (ds, st1) => some (D.ins 7 [5, 7, 8] ds, st1) | none => none) = _
      unfold fzL
      rw [fz_d]
      simp only
      unfold fzL
      rw [z1]
      simp only
      unfold fzL
      rw [z2]
      simp only
      rfl
    · rw [f2, List.length_set, List.length_set, List.length_set]
    · simp only [List.mem_cons, not_or] at hn
      rw [f3 n hn.2.2.2, set_get (Ne.symm hn.2.2.1), set_get (Ne.symm hn.2.1), set_get (Ne.symm hn.1)]
theorem Dens.fz : ∀ {st : Store} {h : Nat} {fp : List Nat} {ws : List W} {ds : List D}, Dens st h fp ws ds → fp.Nodup → ∀ k, 2 * h + 1 ≤ k → ∃ st', fzL (EV.fz k) ws st = some (ds, st') ∧ Left st st' fp
  | st, _, _, _, _, .nil h, _, k, _ => ⟨st, rfl, rfl, fun _ _ => rfl⟩
  | st, _, _, _, _, .cons (f1 := g1) (f2 := g2) (ws := ws) (d := d) (ds := ds) e t, nd, k, hk => by
    obtain ⟨nd1, nd2, nd3⟩ := List.nodup_append.mp nd
    obtain ⟨st1, f1, f2, f3⟩ := Den.fz e nd1 k hk
    obtain ⟨st2, g1', g2', g3'⟩ := Dens.fz (t.frame fun n hn => f3 n fun q => nd3 n q n hn rfl) nd2 k hk
    refine ⟨st2, ?_, by rw [g2', f2], fun n hn => ?_⟩
    · unfold fzL
      rw [f1]
      simp only
      rw [g1']
    · simp only [List.mem_append, not_or] at hn
      rw [g3' n hn.2, f3 n hn.1]
end
/-! the open parts -/
abbrev Fr := Str × List Str × List D
/-- the open parts from m on: their places ms, all places fp; h: how deep within -/
inductive Opn (st : Store) : Nat → List Nat → List Nat → Nat → List Fr → Prop
  | top {h m a b : Nat} {name : Str} {rooms : List Str} {items : List W} {rows : List D} {fp : List Nat} (e1 : st[m]? = some (some (ptO name a b))) (e2 : st[a]? = some (some (.lst (sw rooms)))) (e3 : st[b]? = some (some (.lst items))) (t : Dens st h fp items rows) :
      Opn st h [m] (m :: a :: b :: fp) m [(name, rooms, rows)]
  | more {h m a b m' : Nat} {name : Str} {rooms : List Str} {items : List W} {rows : List D} {fp fp' ms : List Nat} {frs : List Fr} (e1 : st[m]? = some (some (ptO name a b))) (e2 : st[a]? = some (some (.lst (sw rooms)))) (e3 : st[b]? = some (some (.lst (items ++ [.loc m'])))) (t : Dens st (h + 1) fp items rows)
      (o : Opn st h ms fp' m' frs) : Opn st (h + 1) (m :: ms) (m :: a :: b :: (fp ++ fp')) m ((name, rooms, rows) :: frs)
theorem Opn.frame {st st' : Store} : ∀ {h : Nat} {ms fp : List Nat} {m : Nat} {frs : List Fr}, Opn st h ms fp m frs → (∀ n ∈ fp, st'[n]? = st[n]?) → Opn st' h ms fp m frs
  | _, _, _, _, _, .top e1 e2 e3 t, q => .top ((q _ (by simp)).trans e1) ((q _ (by simp)).trans e2) ((q _ (by simp)).trans e3) (t.frame fun n hn => q n (by simp [hn]))
  | _, _, _, _, _, .more e1 e2 e3 t o, q => .more ((q _ (by simp)).trans e1) ((q _ (by simp)).trans e2) ((q _ (by simp)).trans e3) (t.frame fun n hn => q n (by simp [hn])) (o.frame fun n hn => q n (by simp [hn]))
theorem Opn.lt {st : Store} : ∀ {h : Nat} {ms fp : List Nat} {m : Nat} {frs : List Fr}, Opn st h ms fp m frs → ∀ k ∈ fp, k < st.length
  | _, _, _, _, _, .top e1 e2 e3 t, k, q => by
    simp only [List.mem_cons] at q
    rcases q with rfl | rfl | rfl | q
    · exact (List.getElem?_eq_some_iff.mp e1).1
    · exact (List.getElem?_eq_some_iff.mp e2).1
    · exact (List.getElem?_eq_some_iff.mp e3).1
    · exact Dens.lt t k q
  | _, _, _, _, _, .more e1 e2 e3 t o, k, q => by
    simp only [List.mem_cons, List.mem_append] at q
    rcases q with rfl | rfl | rfl | q | q
    · exact (List.getElem?_eq_some_iff.mp e1).1
    · exact (List.getElem?_eq_some_iff.mp e2).1
    · exact (List.getElem?_eq_some_iff.mp e3).1
    · exact Dens.lt t k q
    · exact o.lt k q
theorem Opn.head {st : Store} {h : Nat} {ms fp : List Nat} {m : Nat} {frs : List Fr} (o : Opn st h ms fp m frs) : ∃ r, ms = m :: r := by
  cases o with
  | top => exact ⟨[], rfl⟩
  | more => exact ⟨_, rfl⟩
theorem Opn.lens {st : Store} : ∀ {h : Nat} {ms fp : List Nat} {m : Nat} {frs : List Fr}, Opn st h ms fp m frs → ms.length = frs.length ∧ ms.length ≤ h + 1
  | _, _, _, _, _, .top _ _ _ _ => ⟨rfl, by simp⟩
  | _, _, _, _, _, .more _ _ _ _ o => by
    have := o.lens
    simp only [List.length_cons]
    omega
/-- the one that is open: its rows' place; what is put there -/
theorem Opn.last {st : Store} : ∀ {h : Nat} {ms fp : List Nat} {m : Nat} {frs : List Fr}, Opn st h ms fp m frs → fp.Nodup → ∃ (frs0 : List Fr) (name : Str) (rooms : List Str) (rows : List D) (mt a b : Nat) (items : List W) (ms0 : List Nat), frs = frs0 ++ [(name, rooms, rows)] ∧ ms = ms0 ++ [mt] ∧
      st[mt]? = some (some (ptO name a b)) ∧ st[b]? = some (some (.lst items)) ∧ b ∈ fp ∧ mt ∈ fp ∧ items.length = rows.length ∧ (∀ x, Opn (st.set b (some (.lst (items ++ [.d x])))) h ms fp m (frs0 ++ [(name, rooms, rows ++ [x])])) ∧
      (ms.length < h + 1 → ∀ (st1 : Store) (n a' b' : Nat) (name' : Str) (rooms' : List Str), (∀ k ∈ fp, st1[k]? = st[k]?) → (∀ k ∈ [n, a', b'], ¬ k ∈ fp) → st1[n]? = some (some (ptO name' a' b')) → st1[a']? = some (some (.lst (sw rooms'))) → st1[b']? = some (some (.lst [])) →
        Opn (st1.set b (some (.lst (items ++ [.loc n])))) h (ms ++ [n]) (fp ++ [n, a', b']) m (frs ++ [(name', rooms', [])]))
  | _, _, _, _, _, .top (h := h) (m := m) (a := a) (b := b) (name := name) (rooms := rooms) (items := items) (rows := rows) (fp := fp) e1 e2 e3 t, nd => by
    obtain ⟨n1, nd⟩ := List.nodup_cons.mp nd
    obtain ⟨n2, nd⟩ := List.nodup_cons.mp nd
    obtain ⟨n3, nd⟩ := List.nodup_cons.mp nd
    simp only [List.mem_cons, not_or] at n1 n2 n3
    have hb : b < st.length := (List.getElem?_eq_some_iff.mp e3).1
    refine ⟨[], name, rooms, rows, m, a, b, items, [], rfl, rfl, e1, e3, by simp, by simp, t.lens, fun x => ?_, fun hl st1 n a' b' name' rooms' k1 k2 c1 c2 c3 => ?_⟩
    · have t2 := (t.frame (st' := st.set b (some (.lst (items ++ [.d x])))) fun k hk => set_get (ne_in n3 hk)).snoc (.d h x)
      rw [List.append_nil] at t2
      exact .top ((set_get (Ne.symm n1.2.1)).trans e1) ((set_get (Ne.symm n2.1)).trans e2) (List.getElem?_set_self hb) t2
    · obtain ⟨h, rfl⟩ : ∃ h', h = h' + 1 := ⟨h - 1, by simp at hl; omega⟩
      have hb1 : b < st1.length := (List.getElem?_eq_some_iff.mp ((k1 b (by simp)).trans e3)).1
      have nb : ∀ k ∈ [n, a', b'], b ≠ k := fun k hk e => k2 k hk (by rw [← e]; simp)
      have t2 := t.frame (st' := st1.set b (some (.lst (items ++ [.loc n])))) fun k hk => (set_get (ne_in n3 hk)).trans (k1 k (by simp [hk]))
      have o2 : Opn (st1.set b (some (.lst (items ++ [.loc n])))) h [n] [n, a', b'] n [(name', rooms', [])] := .top ((set_get (nb n (by simp))).trans c1) ((set_get (nb a' (by simp))).trans c2) ((set_get (nb b' (by simp))).trans c3) (.nil h)
      exact .more ((set_get (Ne.symm n1.2.1)).trans ((k1 m (by simp)).trans e1)) ((set_get (Ne.symm n2.1)).trans ((k1 a (by simp)).trans e2)) (List.getElem?_set_self hb1) t2 o2
  | _, _, _, _, _, .more (h := h) (m := m) (a := a) (b := b) (m' := m') (name := name) (rooms := rooms) (items := items) (rows := rows) (fp := fp) (fp' := fp') (ms := ms) (frs := frs) e1 e2 e3 t o, nd => by
    obtain ⟨n1, nd⟩ := List.nodup_cons.mp nd
    obtain ⟨n2, nd⟩ := List.nodup_cons.mp nd
    obtain ⟨n3, nd⟩ := List.nodup_cons.mp nd
    obtain ⟨nd1, nd2, nd3⟩ := List.nodup_append.mp nd
    simp only [List.mem_cons, List.mem_append, not_or] at n1 n2 n3
    obtain ⟨frs0, name2, rooms2, rows2, mt, a2, b2, items2, ms0, rfl, rfl, q1, q2, q3, q4, q7, q5, q6⟩ := o.last nd2
    refine ⟨(name, rooms, rows) :: frs0, name2, rooms2, rows2, mt, a2, b2, items2, m :: ms0, rfl, rfl, q1, q2, by simp [q3], by simp [q4], q7, fun x => ?_, fun hl st1 n a' b' name' rooms' k1 k2 c1 c2 c3 => ?_⟩
    · exact .more ((set_get (Ne.symm (ne_in n1.2.2.2 q3))).trans e1) ((set_get (Ne.symm (ne_in n2.2.2 q3))).trans e2) ((set_get (Ne.symm (ne_in n3.2 q3))).trans e3) (t.frame fun k hk => set_get fun e => nd3 k hk b2 q3 e.symm) (q5 x)
    · have q6 := q6 (by simp at hl ⊢; omega) st1 n a' b' name' rooms' (fun k hk => k1 k (by simp [hk])) (fun k hk q => k2 k hk (by simp [q])) c1 c2 c3
      have := Opn.more (h := h) (st := st1.set b2 (some (.lst (items2 ++ [.loc n])))) ((set_get (Ne.symm (ne_in n1.2.2.2 q3))).trans ((k1 m (by simp)).trans e1)) ((set_get (Ne.symm (ne_in n2.2.2 q3))).trans ((k1 a (by simp)).trans e2)) ((set_get (Ne.symm (ne_in n3.2 q3))).trans ((k1 b (by simp)).trans e3)) (t.frame (st' := st1.set b2 (some (.lst (items2 ++ [.loc n])))) fun k hk => (set_get fun e => nd3 k hk b2 q3 e.symm).trans (k1 k (by simp [hk]))) q6
      simp only [List.cons_append, List.append_assoc] at this ⊢
      exact this
/-- the last one is closed -/
theorem Opn.close {st : Store} : ∀ {h : Nat} {ms fp : List Nat} {m : Nat} {frs : List Fr} {mt : Nat} {name : Str} {rooms : List Str} {rows : List D} {name2 : Str} {rooms2 : List Str} {rows2 : List D}, Opn st h (ms ++ [mt]) fp m (frs ++ [(name, rooms, rows), (name2, rooms2, rows2)]) → Opn st h ms fp m (frs ++ [(name, rooms, rows ++ [ptD name2 rooms2 rows2])]) := by
  intro h ms fp m frs
  induction frs generalizing h ms fp m with
  | nil =>
    intro mt name rooms rows name2 rooms2 rows2 o
    generalize e1 : ms ++ [mt] = ms1 at o
    generalize e2 : ([] ++ [(name, rooms, rows), (name2, rooms2, rows2)] : List Fr) = f1 at o
    cases o with
    | top => cases e2
    | more q1 q2 q3 t o2 =>
      cases e2
      generalize ez : ([(name2, rooms2, rows2)] : List Fr) = fz at o2
      cases o2 with
      | more _ _ _ _ o3 =>
        cases ez
        have := o3.lens
        have := o3.head
        obtain ⟨_, z⟩ := this
        subst z
        simp at *
      | top p1 p2 p3 t2 =>
        cases ez
        cases ms with
        | nil => cases e1
        | cons x r =>
          cases r with
          | cons y z => cases z <;> cases e1
          | nil =>
            cases e1
            exact .top q1 q2 q3 (t.snoc (.part p1 p2 p3 t2))
  | cons f0 frs ih =>
    intro mt name rooms rows name2 rooms2 rows2 o
    generalize e1 : ms ++ [mt] = ms1 at o
    generalize e2 : ((f0 :: frs) ++ [(name, rooms, rows), (name2, rooms2, rows2)] : List Fr) = f1 at o
    cases o with
    | top => cases frs <;> cases e2
    | more q1 q2 q3 t o2 =>
      cases ms with
      | nil =>
        cases e1
        have := o2.head
        obtain ⟨_, z⟩ := this
        cases z
      | cons x r =>
        cases e1
        cases e2
        exact .more q1 q2 q3 t (ih o2)
/-! own objects made -/
def mkOK (i np : Nat) (F : FF) (dws ws : List W) : EM W := fun s => match (if (.loc s.st.length :: (ws ++ dws)).length = np then F (.loc s.st.length :: (ws ++ dws)) (s.st ++ [some (.ins i [] [])]) else none) with
  | some (.ok (.d .non), st) => some (.ok (.loc s.st.length), ⟨s.env, st⟩)
  | some (.ex C ks es, st) => some (.ex C ks es, ⟨s.env, st⟩)
  | _ => none
section
variable {β : Type} {env : List (Option W)} {st st' : Store} {s : SS} {Q : Out β → SS → Prop} {k : W → EM β}
theorem rb_mkO {i np : Nat} {F : FF} {dws : List W} {m : EM (List W)} (h : Run (bnd m fun ws => bnd (mkOK i np F dws ws) k) s Q) : Run (bnd (mkO i np F dws m) k) s Q := by
  have e : mkO i np F dws m = bnd m (mkOK i np F dws) := rfl
  rw [e]
  exact rb_bnd h
theorem rl_mkOK {i np n : Nat} {F : FF} {dws ws : List W} (en : st.length = n) (hn : (W.loc n :: (ws ++ dws)).length = np) (e : ∃ w st1, F (.loc n :: (ws ++ dws)) (st ++ [some (.ins i [] [])]) = some (.ok w, st1) ∧ (w = .d .non ∧ st1 = st')) (h : Run (k (.loc n)) ⟨env, st'⟩ Q) : Run (bnd (mkOK i np F dws ws) k) ⟨env, st⟩ Q := by
  subst en
  obtain ⟨w, st1, e, rfl, rfl⟩ := e
  refine rb_eq ?_ h
  unfold mkOK
  rw [if_pos hn, e]
theorem rl_listTO {n : Nat} {ds : List D} (e : st.length = n) (e2 : st ++ [some (.lst (ds.map .d))] = st') (h : Run (k (.loc n)) ⟨env, st'⟩ Q) : Run (bnd (lft fun st => listC true st [.d (.lst ds)]) k) ⟨env, st⟩ Q := by
  subst e e2
  exact rb_lft rfl h
theorem rl_listLO {n m : Nat} {ws : List W} (e0 : st[m]? = some (some (.lst ws))) (e : st.length = n) (e2 : st ++ [some (.lst ws)] = st') (h : Run (k (.loc n)) ⟨env, st'⟩ Q) : Run (bnd (lft fun st => listC true st [.loc m]) k) ⟨env, st⟩ Q := by
  subst e e2
  refine rb_lft ?_ h
  show (match (match st[m]? with | some (some (.lst ws)) => some ws | _ => none) with | some ws => newL true ws st | none => _) = _
  rw [e0]
  rfl
end
theorem get_end {st : Store} {x : Option OO} {r : Store} : (st ++ (x :: r))[st.length]? = some x := by simp
theorem get_end1 {st : Store} {x y : Option OO} {r : Store} : (st ++ (x :: y :: r))[st.length + 1]? = some y := by
  rw [List.getElem?_append_right (by omega)]
  simp
theorem get_end2 {st : Store} {x y z : Option OO} {r : Store} : (st ++ (x :: y :: z :: r))[st.length + 2]? = some z := by
  rw [List.getElem?_append_right (by omega)]
  simp
theorem set_end {st : Store} {x y : Option OO} {r : Store} : (st ++ (x :: r)).set st.length y = st ++ (y :: r) := by
  rw [List.set_append_right _ _ (Nat.le_refl _), Nat.sub_self]
  rfl
theorem get_old {st r : Store} {n : Nat} {o : Option OO} (h : st[n]? = some o) : (st ++ r)[n]? = some o := by
  rw [List.getElem?_append_left (List.getElem?_eq_some_iff.mp h).1]
  exact h
theorem nd_ne {l : List Nat} (h : l.Nodup) (i j : Nat) (hij : i ≠ j) {a b : Nat} (ha : l[i]? = some a) (hb : l[j]? = some b) : a ≠ b := by
  rintro rfl
  obtain ⟨h1, e1⟩ := List.getElem?_eq_some_iff.mp ha
  obtain ⟨h2, e2⟩ := List.getElem?_eq_some_iff.mp hb
  exact hij ((List.getElem_inj h).mp (e1.trans e2.symm))
theorem nd_in {l r : List Nat} (h : (l ++ r).Nodup) {a b : Nat} (ha : a ∈ l) (hb : b ∈ r) : a ≠ b := fun e => (List.nodup_append.mp h).2.2 a ha b hb e
end EV
/-! EV24: own tuples, slices with a step, zip. -/
namespace L2
open PySem PySem.Spec PyProof.Rows
def pickL {α : Type} (xs : List α) (lo hi st : Option Int) : List α :=
  (sliceRange (sliceBounds lo hi st xs.length).1 (sliceBounds lo hi st xs.length).2.1 (sliceBounds lo hi st xs.length).2.2).filterMap (xs[·]?)
theorem Vals.pick {xs : List V} {us : List Value} (r : Vals xs us) : ∀ is : List Nat, Vals (is.filterMap (xs[·]?)) (is.filterMap (us[·]?))
  | [] => .nil
  | i :: is => by
    cases e : xs[i]? with
    | none =>
      have h : us[i]? = none := by
        rw [List.getElem?_eq_none_iff] at e ⊢
        have := r.length
        omega
      rw [List.filterMap_cons_none e, List.filterMap_cons_none h]
      exact Vals.pick r is
    | some x =>
      obtain ⟨u, h, ru⟩ := r.get e
      rw [List.filterMap_cons_some e, List.filterMap_cons_some h]
      exact .cons ru (Vals.pick r is)
def tSl3 (K : PySem.W.Frag) (te : TE) (tl th ts : TO) : TE := fun σ H Q => te σ H fun x H1 => tl σ H1 fun l H2 => th σ H2 fun u H3 => ts σ H3 fun k H4 => k ≠ some 0 ∧ ∃ a xs, x = .ref a ∧ SqL K H4 a xs ∧ ∀ p, H4 p = none → Q (.ref p) (upd H4 p (.lst (pickL xs l u k)))
theorem pe_slice3 {X : Cx} {e : Expr} {te : TE} {sx : Expr} {lo hi : Option Expr} {tl th ts : TO} {pos p2 : Pos} (he : PE X e te) (hl : PO X lo tl) (hu : PO X hi th) (hs : PO X (some sx) ts) : PE X (.Subscript e (.Slice lo hi (some sx) p2) pos) (tSl3 X.K te tl th ts) := by
  refine ⟨fun pins s σ H Q I h => ?_⟩
  refine Subscript_ (thn (he.run pins s σ H _ I h) fun v s1 ⟨x, H1, I1, r1, q1⟩ => ?_)
  refine wpAny_Slice (thn (hl.run pins s1 σ H1 _ I1 q1) fun vl s2 ⟨l, H2, I2, pl, q2⟩ => thn (hu.run pins s2 σ H2 _ I2 q2) fun vu s3 ⟨u, H3, I3, pu, q3⟩ => ?_)
  refine thn (hs.run pins s3 σ H3 _ I3 q3) fun vs s4 ⟨k, H4, I4, ps, q4⟩ => ?_
  obtain ⟨hk, a, xs, rfl, hx, q⟩ := q4
  cases r1
  have I5 : Inv X pins σ H4 { s4 with heap := s4.heap.push { cls := .type "slice", data := .fields #[vl, vu, vs] } } := I4.kept (t' := s4.toks) fun b ob q => Heap.get?_push_of_some _ q
  obtain ⟨its, r, ht, hz⟩ := I5.list hx
  have hlen := r.length
  show wpAny (model X.prog X.w) X.A (subscriptTail e (.Slice lo hi (some sx) p2) (.ref a) (.ref s4.heap.objs.size)) (EP X pins σ Q) X.xe { s4 with heap := s4.heap.push { cls := .type "slice", data := .fields #[vl, vu, vs] } }
  refine tail_any (ops := [.ref a, .ref s4.heap.objs.size]) ht.isList.typeIs (PySem.slot_list_getitem.lookup) ?_ (by with_unfolding_all rfl)
  refine wpAny_getItem_list_slice ht.isList (Heap.IsSliceOf.new _ vl vu vs) pl pu ps hk ?_ (by rw [List.size_toArray]; omega)
  refine ⟨.ref _, _, I5.laid (t' := s4.toks) (o := .lst (pickL xs l u k)) (fun b ob q => Heap.get?_push_of_some _ q) (Nat.le_refl _) ?_, rfl, q _ (I5.hok.fresh (Nat.le_refl _))⟩
  have e1 : slicePick its.toArray l u k = (pickL its l u k).toArray := by
    unfold slicePick pickL
    rw [List.size_toArray]
    simp
  rw [e1]
  have hv : Vals (pickL xs l u k) (pickL its l u k) := by
    unfold pickL
    rw [← hlen]
    exact Vals.pick r _
  have hz2 : (pickL its l u k).length ≤ its.length := by
    have := slicePick_size_le its.toArray l u k
    rw [e1] at this
    simpa using this
  exact ⟨by rw [hv.length]; omega, _, 0, hv, Heap.get?_push_size _ rfl⟩
end L2
namespace EV
open PySem PySem.Spec PyProof.Rows L2
section
variable {c : Kx} {X : Cx} {U : WX} {e : Expr} {es : List Expr} {p2 pos : Pos} {m : EM (List W)} {me : EM W}
def newT (ws : List W) (st : Store) : Option (W × Store) := if ws.length ≤ 16777216 then some (.loc st.length, st ++ [some (.tup ws)]) else none
def tupO (m : EM (List W)) : EM W := bnd m fun ws => lft (newT ws)
theorem ee_tupO {k} (h : EA c X U es m) : EE c X U (.Tuple es k pos) (tupO m) :=
  EE.mk1 h.K (pe_tup h.pa) fun ρ G s σ H Q hR w => ⟨ρ, G, s, hR, (Wp.bnd hR w).imp fun ws ρ1 G1 H1 s1 ⟨S1, R1, w1⟩ vs rvs => by
    obtain ⟨w, st', e, q⟩ := Wp.lft w1
    unfold newT at e
    split at e
    · rename_i hl
      cases e
      refine ⟨by rw [rvs.len, sizeLine_eq]; exact hl, fun p hp => ?_⟩
      obtain ⟨S, r'⟩ := new_own (p := (p, p)) (o := .tup ws) (H' := upd H1 p (.tup vs)) R1.rs hp hp (fun a u e => by rw [upd_ne (ne_of_none e hp)]; exact e) ⟨rfl, vs, upd_same, rvs⟩
      exact q _ G1 _ S ⟨r', R1.env.mono S.rho S.same, R1.len⟩ _ ⟨(p, p), by rw [← R1.rs.len, List.getElem?_append_right (Nat.le_refl _)]; simp, rfl⟩
    · cases e⟩
/-! slices with a step -/
def slice3A (st : Store) (x : W) (lo hi k : Option Int) : Option (W × Store) := if k = some 0 then none else match listW st x with
  | some ws => newL false (pickL ws lo hi k) st
  | none => none
def sl3E (m : EM W) (ml mh mk : EM (Option Int)) : EM W := bnd m fun x => bnd ml fun lo => bnd mh fun hi => bnd mk fun k => lft fun st => slice3A st x lo hi k
theorem rep_pickI {ρ : Rho} {G : Hp} {ws : List W} {vs : List V} (h : RepWs c ρ G ws vs) : ∀ is : List Nat, RepWs c ρ G (is.filterMap (ws[·]?)) (is.filterMap (vs[·]?))
  | [] => rfl
  | i :: is => by
    cases e : ws[i]? with
    | none =>
      have h2 : vs[i]? = none := by
        rw [List.getElem?_eq_none_iff] at e ⊢
        have := h.len
        omega
      rw [List.filterMap_cons_none e, List.filterMap_cons_none h2]
      exact rep_pickI h is
    | some x =>
      obtain ⟨u, h2, ru⟩ := h.get e
      rw [List.filterMap_cons_some e, List.filterMap_cons_some h2]
      exact ⟨u, _, rfl, ru, rep_pickI h is⟩
theorem rep_pick {ρ : Rho} {G : Hp} {ws : List W} {vs : List V} {lo hi k : Option Int} (h : RepWs c ρ G ws vs) : RepWs c ρ G (pickL ws lo hi k) (pickL vs lo hi k) := by
  unfold pickL
  rw [h.len]
  exact rep_pickI h _
theorem ee_slice3 {sx : Expr} {lo hi : Option Expr} {nl nh nk : EM (Option Int)} (h : EE c X U e me) (hl : EO c X U lo nl) (hh : EO c X U hi nh) (hk : EO c X U (some sx) nk) : EE c X U (.Subscript e (.Slice lo hi (some sx) p2) pos) (sl3E me nl nh nk) :=
  EE.mk1 h.K (pe_slice3 h.pe hl.po hh.po hk.po) fun ρ G s σ H Q hR w => ⟨ρ, G, s, hR, (Wp.bnd hR w).imp fun z ρ1 G1 H1 s1 ⟨S1, R1, w1⟩ v rv =>
    ⟨ρ1, G1, s1, R1, (Wp.bnd R1 w1).imp fun l ρ2 G2 H2 s2 ⟨S2, R2, w2⟩ => ⟨ρ2, G2, s2, R2, (Wp.bnd R2 w2).imp fun u ρ3 G3 H3 s3 ⟨S3, R3, w3⟩ => ⟨ρ3, G3, s3, R3, (Wp.bnd R3 w3).imp fun k ρ4 G4 H4 s4 ⟨S4, R4, w4⟩ => by
      obtain ⟨w, st', e, q⟩ := Wp.lft w4
      have rv4 : RepW c ρ4 G4 z v := ((rv.mono S2.rho S2.same).mono S3.rho S3.same).mono S4.rho S4.same
      rw [h.K]
      unfold slice3A at e
      split at e
      · cases e
      · rename_i hk0
        split at e
        · rename_i ws ew
          obtain ⟨a, vs, rfl, hv, hr⟩ := listW_ok R4.rs rv4 ew
          refine ⟨hk0, a, vs, rfl, hv, fun p hp => ?_⟩
          obtain ⟨ρ', G', S5, r5, rw5⟩ := newL_ok R4.rs (rep_pick (lo := l) (hi := u) (k := k) hr) e hp
          exact q ρ' G' _ S5 ⟨r5, R4.env.mono S5.rho S5.same, R4.len⟩ _ rw5
        · cases e⟩⟩⟩⟩
end
/-! running -/
section
variable {β : Type} {env env' : List (Option W)} {st st' : Store} {s : SS} {Q : Out β → SS → Prop} {k : W → EM β}
theorem rb_tupO {m : EM (List W)} (h : Run (bnd m fun ws => bnd (lft (newT ws)) k) s Q) : Run (bnd (tupO m) k) s Q := rb_bnd h
theorem rl_newT {ws : List W} {n : Nat} (hl : ws.length ≤ 16777216) (e : st.length = n) (e2 : st ++ [some (.tup ws)] = st') (h : Run (k (.loc n)) ⟨env, st'⟩ Q) : Run (bnd (lft (newT ws)) k) ⟨env, st⟩ Q := by
  subst e e2
  exact rb_lft (by unfold newT; rw [if_pos hl]) h
theorem rb_asgO {k : Unit → EM β} {is : List Nat} {n : Nat} {ws : List W} (e : st[n]? = some (some (.tup ws))) (hl : ws.length = is.length) (e2 : setAll is ws env = env') (h : Run (k ()) ⟨env', st⟩ Q) : Run (bnd (asg (.tup is) (.loc n)) k) ⟨env, st⟩ Q := by
  subst e2
  refine rb_eq ?_ h
  unfold asg
  simp only [e, hl, if_true]
theorem rl_ixTO {n : Nat} {ws : List W} {w : W} {i : Int} (e : st[n]? = some (some (.tup ws))) (e2 : atI ws i = some w) (h : Run (k w) ⟨env, st⟩ Q) : Run (bnd (lft fun st => ixA st (.loc n) (.d (.int i))) k) ⟨env, st⟩ Q := by
  refine rb_lft ?_ h
  show (match st[n]? with | some (some (.lst ws)) => _ | some (some (.tup ws)) => (match atI ws i with | some w => some (w, st) | none => none) | _ => none) = _
  rw [e]
  simp only [e2]
theorem rb_sl3 {m : EM W} {ml mh mk : EM (Option Int)} (h : Run (bnd m fun x => bnd ml fun lo => bnd mh fun hi => bnd mk fun q => bnd (lft fun st => slice3A st x lo hi q) k) s Q) : Run (bnd (sl3E m ml mh mk) k) s Q := by
  unfold sl3E
  rw [bnd_assoc]
  have e : (fun x => bnd (bnd ml fun lo => bnd mh fun hi => bnd mk fun q => lft fun st => slice3A st x lo hi q) k) = fun x => bnd ml fun lo => bnd mh fun hi => bnd mk fun q => bnd (lft fun st => slice3A st x lo hi q) k := by
    funext x
    rw [bnd_assoc]
    congr 1
    funext lo
    rw [bnd_assoc]
    congr 1
    funext hi
    rw [bnd_assoc]
  rw [e]
  exact h
theorem rl_sl3F {ds : List D} {lo hi q : Option Int} (hq : q ≠ some 0) (h : Run (k (.d (.lst (pickL ds lo hi q)))) ⟨env, st⟩ Q) : Run (bnd (lft fun st => slice3A st (.d (.fls ds)) lo hi q) k) ⟨env, st⟩ Q := by
  refine rb_lft ?_ h
  have e : pickL (ds.map W.d) lo hi q = (pickL ds lo hi q).map W.d := by
    unfold pickL
    rw [List.length_map, List.map_filterMap]
    congr 1
    funext i
    rw [List.getElem?_map]
  unfold slice3A
  rw [if_neg hq]
  show newL false (pickL (ds.map W.d) lo hi q) st = _
  rw [e]
  unfold newL
  simp only [Bool.false_eq_true, if_false]
  rw [allD_map]
def ziK (ds : List D) : EM (List D) := match ds with
  | [x, y] => match listD x, listD y with
    | some xs, some ys => pur (zipD xs ys)
    | _, _ => non
  | _ => non
theorem rb_zipE {k : List D → EM β} {m : EM (List W)} (h : Run (bnd m fun ws => bnd (treesK ws) fun ds => bnd (ziK ds) k) s Q) : Run (bnd (zipE m) k) s Q := by
  have e : zipE m = bnd (treesE m) ziK := rfl
  rw [e, treesE_eq, bnd_assoc, bnd_assoc]
  have e2 : (fun a => bnd (bnd (treesK a) ziK) k) = fun a => bnd (treesK a) fun ds => bnd (ziK ds) k := by
    funext a
    rw [bnd_assoc]
  first
    | (rw [e2]; exact h)
    | (rw [← bnd_assoc] at *; exact h)
theorem rl_ziK {k : List D → EM β} {xs ys : List D} (h : Run (k (zipD xs ys)) s Q) : Run (bnd (ziK [.lst xs, .lst ys]) k) s Q := h
end
end EV
/-! EV25: loops over own lists. -/
namespace EV
open PySem PySem.Spec PyProof.Rows L2
def lstO (st : Store) : W → Option (List W)
  | .loc n => match st[n]? with
    | some (some (.lst ws)) => some ws
    | _ => none
  | _ => none
theorem lstO_ok {c : Kx} {ρ : Rho} {G H : Hp} {st : Store} {w : W} {v : V} {ws : List W} (r : RS c ρ G H st) (rv : RepW c ρ G w v) (e : lstO st w = some ws) : ∃ a vs, v = .ref a ∧ SqL c.K H a vs ∧ RepWs c ρ G ws vs := by
  cases w with
  | d x => cases e
  | loc n =>
    unfold lstO at e
    cases ho : st[n]? with
    | none => simp only [ho] at e; cases e
    | some o =>
      cases o with
      | none => simp only [ho] at e; cases e
      | some o =>
        cases o with
        | lst ws' =>
          simp only [ho] at e
          cases e
          obtain ⟨p, hp, rfl⟩ := rv
          obtain ⟨_, _, _, vs, hH, hr⟩ := r.own n p _ hp ho
          exact ⟨p.1, vs, rfl, SqL.of hH, hr⟩
        | dct _ _ => simp only [ho] at e; cases e
        | ins _ _ _ => simp only [ho] at e; cases e
        | tup _ => simp only [ho] at e; cases e
/-- the i-th of an own list, and so on -/
def loopO (t : Tg) (body : EM Fl) (w : W) : Nat → Nat → EM Fl
  | 0, _ => non
  | n + 1, i => fun s => match lstO s.st w with
    | none => none
    | some ws => match ws[i]? with
      | none => pur .nx s
      | some x => bnd (bnd (asg t x) fun _ => body) (fun f => match f with
        | .nx => loopO t body w n (i + 1)
        | .cnt => loopO t body w n (i + 1)
        | .brk => pur .nx
        | .ret u => pur (.ret u)) s
def forO (n : Nat) (mi : EM W) (t : Tg) (body : EM Fl) : EM Fl := bnd mi fun w => loopO t body w n 0
section
variable {c : Kx} {X : Cx} {U : WX} {body : List Stmt} {m : EM Fl} {pos : Pos}
theorem es_forO {fuel : Nat} {tg iter : Expr} {t : Tg} {mi : EM W} (hp : PassesOwn (model X.prog X.w) X.A X.env X.xe) (hc : X.calm = true) (hi : EE c X U iter mi) (hg : EG c X tg t) (hb : ESs c X U body m) (hs : ∀ x, foldedSetIterable iter X.env x = pure x := by intro _; rfl) :
    ES c X U (.For tg iter body [] pos) (forO fuel mi t m) :=
  ⟨hi.K, PS.imp (ps_for hp hc (pi_list hi.pe) hg.pg hb.ps hs) fun D σ H ⟨ρ, G, s, hR, w⟩ => by
    refine ⟨ρ, G, s, hR, (Ws.bndE hR w).imp fun z ρ1 G1 H1 s1 ⟨S1, R1, w1⟩ v rv => ?_⟩
    rw [hi.K]
    cases fuel with
    | zero => exact w1.none rfl
    | succ fuel =>
      cases e0 : lstO s1.st z with
      | none => exact w1.none (by unfold loopO; simp only [e0])
      | some ws0 =>
        obtain ⟨a, vs0, rfl, hq0, hr0⟩ := lstO_ok R1.rs rv e0
        refine ⟨a, rfl, ⟨vs0, hq0⟩, fun i n σ H => ∃ ρ2 G2 s2, R c ρ2 G2 σ H s2 ∧ RepW c ρ2 G2 z (.ref a) ∧ Ws c U (loopO t m z n i) ρ2 G2 H s2 (kD c D), ⟨fuel + 1, ρ1, G1, s1, R1, rv, w1⟩, ?_⟩
        rintro i n σ2 H2 ⟨ρ2, G2, s2, R2, rv2, w2⟩
        cases n with
        | zero => exact w2.none rfl
        | succ n =>
          cases e2 : lstO s2.st z with
          | none => exact w2.none (by unfold loopO; simp only [e2])
          | some ws =>
            obtain ⟨a', vs, ea, hq, hr⟩ := lstO_ok R2.rs rv2 e2
            cases ea
            cases e3 : ws[i]? with
            | none =>
              have w3 : Ws c U (pur Fl.nx) ρ2 G2 H2 s2 (kD c D) := by
                unfold Ws at w2 ⊢
                have : loopO t m z (n + 1) i s2 = (pur Fl.nx : EM Fl) s2 := by
                  show (match lstO s2.st z with | none => none | some ws => _) = _
                  simp only [e2, e3]
                rw [this] at w2
                exact w2
              refine .inl ⟨⟨vs, hq, ?_⟩, Ws.pur R2 w3⟩
              rw [hr.len]
              exact List.getElem?_eq_none_iff.mp e3
            | some x =>
              obtain ⟨u, hu, ru⟩ := hr.get e3
              have w3 : Ws c U (bnd (asg t x) fun _ => bnd m fun f => match f with
                  | .nx => loopO t m z n (i + 1)
                  | .cnt => loopO t m z n (i + 1)
                  | .brk => pur .nx
                  | .ret u => pur (.ret u)) ρ2 G2 H2 s2 (kD c D) := by
                rw [← bnd_assoc]
                unfold Ws at w2 ⊢
                have : loopO t m z (n + 1) i s2 = (bnd (bnd (asg t x) fun _ => m) fun f => match f with
                  | .nx => loopO t m z n (i + 1)
                  | .cnt => loopO t m z n (i + 1)
                  | .brk => pur .nx
                  | .ret u => pur (.ret u)) s2 := by
                  show (match lstO s2.st z with | none => none | some ws => _) = _
                  simp only [e2, e3]
                rw [this] at w2
                exact w2
              refine .inr ⟨⟨vs, u, hq, hu⟩, fun σ H => ∃ ρ2 G2 s2, R c ρ2 G2 σ H s2 ∧ RepW c ρ2 G2 z (.ref a) ∧ Ws c U (loopO t m z n (i + 1)) ρ2 G2 H s2 (kD c D), fun σ' H' h => ⟨n, Nat.lt_succ_self n, h⟩, fun y H' hy => ?_⟩
              obtain ⟨eH, hy⟩ := hy
              subst eH
              have := hy vs hq
              rw [hu] at this
              cases this
              refine ws_asg R2 ru w3 fun σ4 s4 R4 _ _ w4 => ?_
              refine ⟨ρ2, G2, s4, R4, (Ws.bnd R4.rs.len w4).imp fun f ρ5 G5 σ5 H5 s5 ⟨S5, R5, w5⟩ => ?_⟩
              have rv5 : RepW c ρ5 G5 z (.ref a) := rv2.mono S5.rho S5.same
              cases f with
              | nx => exact ⟨ρ5, G5, s5, R5, rv5, w5⟩
              | cnt => exact ⟨ρ5, G5, s5, R5, rv5, w5⟩
              | brk => exact Ws.pur (U := U) R5 w5
              | ret w => exact fun v rv => Ws.pur (U := U) R5 w5 v rv⟩
end
/-! running -/
section
variable {β : Type} {env env' : List (Option W)} {st st' : Store} {s : SS} {Q : Out β → SS → Prop}
theorem rb_forO {k : Fl → EM β} {n : Nat} {mi : EM W} {t : Tg} {body : EM Fl} (h : Run (bnd mi fun w => bnd (loopO t body w n 0) k) s Q) : Run (bnd (forO n mi t body) k) s Q := rb_bnd h
theorem rl_loopO {k : Fl → EM β} {n i : Nat} {t : Tg} {body : EM Fl} {w x : W} {ws : List W} (e : lstO st w = some ws) (ei : ws[i]? = some x) (h : Run (bnd (asg t x) fun _ => bnd body pur) ⟨env, st⟩ (LoopQ (fun s => Run (bnd (loopO t body w n (i + 1)) k) s Q) k Q)) :
    Run (bnd (loopO t body w (n + 1) i) k) ⟨env, st⟩ Q := by
  have e2 : (bnd (asg t x) fun _ => bnd body pur) = bnd (asg t x) fun _ => body := by
    congr 1
    funext _ s
    unfold bnd
    cases body s with
    | none => rfl
    | some p => obtain ⟨o, s'⟩ := p; cases o <;> rfl
  rw [e2] at h
  obtain ⟨o, s1, e1, h1⟩ := h
  have ed : loopO t body w (n + 1) i ⟨env, st⟩ = (bnd (bnd (asg t x) fun _ => body) fun f => match f with
        | .nx => loopO t body w n (i + 1)
        | .cnt => loopO t body w n (i + 1)
        | .brk => pur .nx
        | .ret u => pur (.ret u)) ⟨env, st⟩ := by
    show (match lstO st w with | none => none | some ws => _) = _
    simp only [e, ei]
  have key : Run (bnd (bnd (bnd (asg t x) fun _ => body) fun f => match f with
        | .nx => loopO t body w n (i + 1)
        | .cnt => loopO t body w n (i + 1)
        | .brk => pur .nx
        | .ret u => pur (.ret u)) k) ⟨env, st⟩ Q := by
    refine rb_bnd ?_
    cases o with
    | ok y =>
      refine rb_eq e1 ?_
      cases y with
      | nx => exact h1
      | cnt => exact h1
      | brk => exact h1
      | ret w => exact h1
    | ex c ks vs => exact ⟨_, s1, bnd_ex e1, h1⟩
  obtain ⟨o2, s2, e3, q⟩ := key
  refine ⟨o2, s2, ?_, q⟩
  rw [← e3]
  unfold bnd
  rw [ed]
  rfl
theorem rl_loopOe {k : Fl → EM β} {n i : Nat} {t : Tg} {body : EM Fl} {w : W} {ws : List W} (e : lstO st w = some ws) (ei : ws[i]? = none) (h : Run (k .nx) ⟨env, st⟩ Q) : Run (bnd (loopO t body w (n + 1) i) k) ⟨env, st⟩ Q := by
  obtain ⟨o2, s2, e3, q⟩ := h
  refine ⟨o2, s2, ?_, q⟩
  rw [← e3]
  unfold bnd
  have : loopO t body w (n + 1) i ⟨env, st⟩ = some (.ok .nx, ⟨env, st⟩) := by
    show (match lstO st w with | none => none | some ws => _) = _
    simp only [e, ei]
    rfl
  rw [this]
end
end EV
/-! EV26: steps by instances. -/
namespace EV
open PySem L2
class At (env : List (Option W)) (i : Nat) (w : outParam W) : Prop where
  eq : env[i]? = some (some w)
instance at_0 {w : W} {r : List (Option W)} : At (some w :: r) 0 w := ⟨rfl⟩
instance at_s {x : Option W} {w : W} {r : List (Option W)} {i : Nat} [h : At r i w] : At (x :: r) (i + 1) w := ⟨h.eq⟩
class SetAt (env : List (Option W)) (i : Nat) (w : W) (env' : outParam (List (Option W))) : Prop where
  eq : env.set i (some w) = env'
instance set_0 {x : Option W} {w : W} {r : List (Option W)} : SetAt (x :: r) 0 w (some w :: r) := ⟨rfl⟩
instance set_s {x : Option W} {w : W} {r r' : List (Option W)} {i : Nat} [h : SetAt r i w r'] : SetAt (x :: r) (i + 1) w (x :: r') := ⟨congrArg (x :: ·) h.eq⟩
class St {α β : Type} (m : EM α) (k : α → EM β) (s : SS) (Q : Out β → SS → Prop) (P : outParam Prop) : Prop where
  run : P → Run (bnd m k) s Q
class Se {α : Type} (m : EM α) (s : SS) (Q : Out α → SS → Prop) (P : outParam Prop) : Prop where
  run : P → Run m s Q
section
variable {β : Type} {env env' : List (Option W)} {st : Store} {s : SS} {Q : Out β → SS → Prop} {k : W → EM β}
instance st_cst {d : D} : St (cst d) k s Q (Run (k (.d d)) s Q) := ⟨rb_cst⟩
instance st_var {i : Nat} {w : W} [h : At env i w] : St (var i) k ⟨env, st⟩ Q (Run (k w) ⟨env, st⟩ Q) := ⟨rb_var h.eq⟩
instance st_asg {k : Unit → EM β} {i : Nat} {w : W} [h : SetAt env i w env'] : St (asg (.name i) w) k ⟨env, st⟩ Q (Run (k ()) ⟨env', st⟩ Q) := ⟨rb_asg h.eq⟩
instance st_op2 {f : Store → W → W → Option (W × Store)} {ma mb : EM W} : St (op2 f ma mb) k s Q (Run (bnd ma fun x => bnd mb fun y => bnd (lft fun st => f st x y) k) s Q) := ⟨rb_op2⟩
instance st_op1 {f : Store → W → Option (W × Store)} {ma : EM W} : St (op1 f ma) k s Q (Run (bnd ma fun x => bnd (lft fun st => f st x) k) s Q) := ⟨rb_op1⟩
instance st_sq {k : Fl → EM β} {m r : EM Fl} : St (sq m r) k s Q (Run (bnd m fun f => bnd (sqK r f) k) s Q) := ⟨rb_sq⟩
instance st_sqN {k : Fl → EM β} {r : EM Fl} : St (sqK r .nx) k s Q (Run (bnd r k) s Q) := ⟨rb_sqN⟩
instance st_sqR {k : Fl → EM β} {r : EM Fl} {w : W} : St (sqK r (.ret w)) k s Q (Run (k (.ret w)) s Q) := ⟨rb_sqR⟩
instance st_asgS {k : Fl → EM β} {t : Tg} {m : EM W} : St (asgS t m) k s Q (Run (bnd m fun w => bnd (asg t w) fun _ => k .nx) s Q) := ⟨rb_asgS⟩
instance st_acons {k : List W → EM β} {m : EM W} {r : EM (List W)} : St (acons m r) k s Q (Run (bnd m fun w => bnd r fun ws => k (w :: ws)) s Q) := ⟨rb_acons⟩
instance st_anil {k : List W → EM β} : St anil k s Q (Run (k []) s Q) := ⟨rb_anil⟩
instance st_toB {k : Bool → EM β} {m : EM W} : St (toB m) k s Q (Run (bnd m fun w => bnd (toBK w) k) s Q) := ⟨rb_toB⟩
instance st_toBK {k : Bool → EM β} {b : Bool} : St (toBK (.d (.bl b))) k s Q (Run (k b) s Q) := ⟨rb_toBK⟩
instance st_ifE {α : Type} {k : α → EM β} {t : EM Bool} {ma mb : EM α} : St (ifE t ma mb) k s Q (Run (bnd t fun b => bnd (ite2 b ma mb) k) s Q) := ⟨rb_ifE⟩
instance st_callB {f : Store → List W → Option (W × Store)} {m : EM (List W)} : St (callB f m) k s Q (Run (bnd m fun ws => bnd (lft fun st => f st ws) k) s Q) := ⟨rb_callB⟩
instance st_callE {g : List W → EM W} {dws : List W} {m : EM (List W)} : St (callE g dws m) k s Q (Run (bnd m fun ws => bnd (g (ws ++ dws)) k) s Q) := ⟨rb_callE⟩
instance st_retS {k : Fl → EM β} {m : EM W} : St (retS m) k s Q (Run (bnd m fun w => k (.ret w)) s Q) := ⟨rb_retS⟩
instance st_pur {α : Type} {k : α → EM β} {a : α} : St (pur a) k s Q (Run (k a) s Q) := ⟨rb_pur⟩
instance st_iteT {α : Type} {k : α → EM β} {m1 m2 : EM α} : St (ite2 true m1 m2) k s Q (Run (bnd m1 k) s Q) := ⟨rb_iteT⟩
instance st_iteF {α : Type} {k : α → EM β} {m1 m2 : EM α} : St (ite2 false m1 m2) k s Q (Run (bnd m2 k) s Q) := ⟨rb_iteF⟩
instance st_iteNT {α : Type} {k : α → EM β} {m1 m2 : EM α} : St (ite2 (!true) m1 m2) k s Q (Run (bnd m2 k) s Q) := ⟨rb_iteNT⟩
instance st_iteNF {α : Type} {k : α → EM β} {m1 m2 : EM α} : St (ite2 (!false) m1 m2) k s Q (Run (bnd m1 k) s Q) := ⟨rb_iteNF⟩
instance st_lst {own : Bool} {m : EM (List W)} : St (lstE own m) k s Q (Run (bnd m fun ws => bnd (lstK own ws) k) s Q) := ⟨rb_lst⟩
instance st_slE {own : Bool} {m : EM W} {ml mh : EM (Option Int)} : St (slE own m ml mh) k s Q (Run (bnd m fun x => bnd ml fun lo => bnd mh fun hi => bnd (lft fun st => sliceA own st x lo hi) k) s Q) := ⟨rb_slE⟩
instance st_partN {k : Option Int → EM β} : St (partE none) k s Q (Run (k none) s Q) := ⟨rb_partN⟩
instance st_partS {k : Option Int → EM β} {m : EM W} : St (partE (some m)) k s Q (Run (bnd m fun w => bnd (partK w) k) s Q) := ⟨rb_partS⟩
instance st_partK {k : Option Int → EM β} {i : Int} : St (partK (.d (.int i))) k s Q (Run (k (some i)) s Q) := ⟨rb_partK⟩
instance st_exprS {k : Fl → EM β} {m : EM W} : St (exprS m) k s Q (Run (bnd m fun _ => k .nx) s Q) := ⟨rb_exprS⟩
instance st_forS {k : Fl → EM β} {mi : EM (List D)} {t : Tg} {body : EM Fl} : St (forS mi t body) k s Q (Run (bnd mi fun ds => bnd (loopS t body ds) k) s Q) := ⟨rb_forS⟩
instance st_items {k : List D → EM β} {m : EM W} : St (itemsE m) k s Q (Run (bnd m fun w => bnd (itK w) k) s Q) := ⟨rb_items⟩
instance st_itL {k : List D → EM β} {ds : List D} : St (itK (.d (.lst ds))) k s Q (Run (k ds) s Q) := ⟨rb_itL⟩
instance st_itF {k : List D → EM β} {ds : List D} : St (itK (.d (.fls ds))) k s Q (Run (k ds) s Q) := ⟨rb_itF⟩
instance st_itI {k : List D → EM β} {xs : List Int} : St (itK (.d (ints' xs))) k s Q (Run (k (xs.map .int)) s Q) := ⟨rb_itI⟩
instance st_itSs {k : List D → EM β} {xs : List Str} : St (itK (.d (strs' xs))) k s Q (Run (k (xs.map .str)) s Q) := ⟨rb_itSs⟩
instance st_itT {k : List D → EM β} {ds : List D} : St (itK (.d (.tup ds))) k s Q (Run (k ds) s Q) := ⟨rb_itT⟩
instance st_itS {k : List D → EM β} {z : Str} : St (itK (.d (.str z))) k s Q (Run (k (z.cps.toList.map fun c => .str (chr1 c))) s Q) := ⟨rb_itS⟩
instance st_range1 {k : List D → EM β} {m : EM (List W)} : St (range1E m) k s Q (Run (bnd m fun ws => bnd (rg1K ws) k) s Q) := ⟨rb_range1⟩
instance st_range2 {k : List D → EM β} {m : EM (List W)} : St (range2E m) k s Q (Run (bnd m fun ws => bnd (rg2K ws) k) s Q) := ⟨rb_range2⟩
instance st_ntB {k : Bool → EM β} {m : EM Bool} : St (ntB m) k s Q (Run (bnd m fun b => k (!b)) s Q) := ⟨rb_ntB⟩
instance st_anB {k : Bool → EM β} {m r : EM Bool} : St (anB m r) k s Q (Run (bnd m fun b => bnd (ite2 b r (pur false)) k) s Q) := ⟨rb_anB⟩
instance st_orB {k : Bool → EM β} {m r : EM Bool} : St (orB m r) k s Q (Run (bnd m fun b => bnd (ite2 b (pur true) r) k) s Q) := ⟨rb_orB⟩
instance st_anV {m r : EM W} : St (anV m r) k s Q (Run (bnd (toB m) fun b => bnd (ite2 b r (pur (.d (.bl false)))) k) s Q) := ⟨rb_anV⟩
instance st_orV {m r : EM W} : St (orV m r) k s Q (Run (bnd (toB m) fun b => bnd (ite2 b (pur (.d (.bl true))) r) k) s Q) := ⟨rb_orV⟩
instance st_ntV {m : EM W} : St (ntV m) k s Q (Run (bnd (toB m) fun b => k (.d (.bl (!b)))) s Q) := ⟨rb_ntV⟩
instance st_ofB {m : EM Bool} : St (ofB m) k s Q (Run (bnd m fun b => k (.d (.bl b))) s Q) := ⟨rb_ofB⟩
instance st_chain {f g : Store → W → W → Option (W × Store)} {ma mb mc : EM W} : St (chainE f g ma mb mc) k s Q (Run (bnd ma fun x => bnd mb fun y => bnd (lft fun st => f st x y) fun z => bnd (chK g mc y z) k) s Q) := ⟨rb_chain⟩
instance st_chK {g : Store → W → W → Option (W × Store)} {y : W} {mc : EM W} {b : Bool} : St (chK g mc y (.d (.bl b))) k s Q (Run (bnd (ite2 b (bnd mc fun w => lft fun st => g st y w) (pur (.d (.bl false)))) k) s Q) := ⟨rb_chK⟩
instance st_bm {T : String} {f : Store → W → List W → Option (W × Store)} {mo : EM W} {m : EM (List W)} : St (bmE T f mo m) k s Q (Run (bnd mo fun o => bnd (bmK T f m o) k) s Q) := ⟨rb_bm⟩
instance st_frz {m : EM W} : St (frz m) k s Q (Run (bnd m fun w => bnd (frzK w) k) s Q) := ⟨rb_frz⟩
instance st_frzD {d : D} : St (frzK (.d d)) k s Q (Run (k (.d d)) s Q) := ⟨rb_frzD⟩
instance st_compE {own : List Nat} {mi : EM (List D)} {t : Tg} {tt : EM Bool} {el : EM W} {ownr : Bool} : St (compE own mi t tt el ownr) k s Q (Run (bnd mi fun ds => bnd (compK own t tt el ownr ds) k) s Q) := ⟨rb_compE⟩
instance st_fld {i : Nat} {m : EM W} : St (fldE i m) k s Q (Run (bnd m fun w => bnd (fldK i w) k) s Q) := ⟨rb_fld⟩
instance st_mkP {i np : Nat} {F : FF} {dws : List W} {m : EM (List W)} : St (mkP i np F dws m) k s Q (Run (bnd (treesE m) fun ds => bnd (mkK i np F dws ds) k) s Q) := ⟨rb_mkP⟩
instance st_mkO {i np : Nat} {F : FF} {dws : List W} {m : EM (List W)} : St (mkO i np F dws m) k s Q (Run (bnd m fun ws => bnd (mkOK i np F dws ws) k) s Q) := ⟨rb_mkO⟩
instance st_setL {k : Fl → EM β} {mo mi me : EM W} : St (setL mo mi me) k s Q (Run (bnd me fun y => bnd mo fun o => bnd mi fun i => bnd (lft fun st => setLW st o i y) fun _ => k .nx) s Q) := ⟨rb_setL⟩
instance st_setX {k : Fl → EM β} {mo mi me : EM W} : St (setX mo mi me) k s Q (Run (bnd me fun y => bnd mo fun o => bnd mi fun i => bnd (lft fun st => putDW st o i y) fun _ => k .nx) s Q) := ⟨rb_setX⟩
instance st_sfld {k : Fl → EM β} {ok : List Nat} {i : Nat} {mo m : EM W} : St (sfldS ok i mo m) k s Q (Run (bnd m fun y => bnd mo fun w => bnd (sfK ok i y w) k) s Q) := ⟨rb_sfld⟩
instance st_get2 {mo mk mx : EM W} : St (get2E mo mk mx) k s Q (Run (bnd mo fun o => bnd (isDE o) fun _ => bnd mk fun x => bnd mx fun y => bnd (lookE o x y) k) s Q) := ⟨rb_get2⟩
instance st_get1 {mo mk : EM W} : St (get1E mo mk) k s Q (Run (bnd mo fun o => bnd (isDE o) fun _ => bnd mk fun x => bnd (lookE o x (.d .non)) k) s Q) := ⟨rb_get1⟩
instance st_meth {tbl : List (Nat × (List W → EM W))} {mo : EM W} {m : EM (List W)} : St (methE tbl mo m) k s Q (Run (bnd mo fun o => bnd (methK tbl m o) k) s Q) := ⟨rb_meth⟩
instance st_tup {m : EM (List W)} : St (tupE m) k s Q (Run (bnd (treesE m) fun ds => bnd (tupK ds) k) s Q) := ⟨rb_tup⟩
instance st_trees {k : List D → EM β} {m : EM (List W)} : St (treesE m) k s Q (Run (bnd m fun ws => bnd (treesK ws) k) s Q) := ⟨rb_trees⟩
instance st_bnd {α γ : Type} {k : α → EM β} {m : EM γ} {f : γ → EM α} : St (bnd m f) k s Q (Run (bnd m fun a => bnd (f a) k) s Q) := ⟨rb_bnd⟩
/-! known values -/
instance sl_addI {own : Bool} {i j : Int} : St (lft fun st => addA own st (.d (.int i)) (.d (.int j))) k ⟨env, st⟩ Q (Run (k (.d (.int (i + j)))) ⟨env, st⟩ Q) := ⟨rl_addI⟩
instance sl_sub {i j : Int} : St (lft fun st => subA st (.d (.int i)) (.d (.int j))) k ⟨env, st⟩ Q (Run (k (.d (.int (i - j)))) ⟨env, st⟩ Q) := ⟨rl_sub⟩
instance sl_neg {i : Int} : St (lft fun st => negA st (.d (.int i))) k ⟨env, st⟩ Q (Run (k (.d (.int (-i)))) ⟨env, st⟩ Q) := ⟨rl_neg⟩
instance sl_lt {i j : Int} : St (lft fun st => ltA st (.d (.int i)) (.d (.int j))) k ⟨env, st⟩ Q (Run (k (.d (.bl (decide (i < j))))) ⟨env, st⟩ Q) := ⟨rl_lt⟩
instance sl_le {i j : Int} : St (lft fun st => leA st (.d (.int i)) (.d (.int j))) k ⟨env, st⟩ Q (Run (k (.d (.bl (decide (i ≤ j))))) ⟨env, st⟩ Q) := ⟨rl_le⟩
instance sl_gt {i j : Int} : St (lft fun st => gtA st (.d (.int i)) (.d (.int j))) k ⟨env, st⟩ Q (Run (k (.d (.bl (decide (j < i))))) ⟨env, st⟩ Q) := ⟨rl_gt⟩
instance sl_ge {i j : Int} : St (lft fun st => geA st (.d (.int i)) (.d (.int j))) k ⟨env, st⟩ Q (Run (k (.d (.bl (decide (j ≤ i))))) ⟨env, st⟩ Q) := ⟨rl_ge⟩
instance sl_eqI {i j : Int} : St (lft fun st => eqA st (.d (.int i)) (.d (.int j))) k ⟨env, st⟩ Q (Run (k (.d (.bl (decide (i = j))))) ⟨env, st⟩ Q) := ⟨rl_eqI⟩
instance sl_neBl {a b : Bool} : St (lft fun st => neA st (.d (.bl a)) (.d (.bl b))) k ⟨env, st⟩ Q (Run (k (.d (.bl (!decide (a = b))))) ⟨env, st⟩ Q) := ⟨rl_neBl⟩
instance sl_eqBl {a b : Bool} : St (lft fun st => eqA st (.d (.bl a)) (.d (.bl b))) k ⟨env, st⟩ Q (Run (k (.d (.bl (decide (a = b))))) ⟨env, st⟩ Q) := ⟨rl_eqBl⟩
instance sl_eqS {i j : Str} : St (lft fun st => eqA st (.d (.str i)) (.d (.str j))) k ⟨env, st⟩ Q (Run (k (.d (.bl (decide (i = j))))) ⟨env, st⟩ Q) := ⟨rl_eqS⟩
instance sl_neI {i j : Int} : St (lft fun st => neA st (.d (.int i)) (.d (.int j))) k ⟨env, st⟩ Q (Run (k (.d (.bl (!decide (i = j))))) ⟨env, st⟩ Q) := ⟨rl_neI⟩
instance sl_neS {i j : Str} : St (lft fun st => neA st (.d (.str i)) (.d (.str j))) k ⟨env, st⟩ Q (Run (k (.d (.bl (!decide (i = j))))) ⟨env, st⟩ Q) := ⟨rl_neS⟩
instance sl_isBl {a b : Bool} : St (lft fun st => isBl st (.d (.bl a)) (.d (.bl b))) k ⟨env, st⟩ Q (Run (k (.d (.bl (decide (a = b))))) ⟨env, st⟩ Q) := ⟨rl_isBl⟩
instance sl_isnBl {a b : Bool} : St (lft fun st => isnBl st (.d (.bl a)) (.d (.bl b))) k ⟨env, st⟩ Q (Run (k (.d (.bl (!decide (a = b))))) ⟨env, st⟩ Q) := ⟨rl_isnBl⟩
instance sl_isN {x : W} : St (lft fun st => isN st x (.d .non)) k ⟨env, st⟩ Q (Run (k (.d (.bl (isNonB x)))) ⟨env, st⟩ Q) := ⟨rl_isN⟩
instance sl_isnN {x : W} : St (lft fun st => isnN st x (.d .non)) k ⟨env, st⟩ Q (Run (k (.d (.bl (!isNonB x)))) ⟨env, st⟩ Q) := ⟨rl_isnN⟩
instance sl_ninC {c : Nat} {z : Str} : St (lft fun st => ninA st (.d (.str (chr1 c))) (.d (.str z))) k ⟨env, st⟩ Q (Run (k (.d (.bl (!decide (c ∈ z.cps.toList))))) ⟨env, st⟩ Q) := ⟨rl_ninC⟩
instance sl_inC {c : Nat} {z : Str} : St (lft fun st => inA st (.d (.str (chr1 c))) (.d (.str z))) k ⟨env, st⟩ Q (Run (k (.d (.bl (decide (c ∈ z.cps.toList))))) ⟨env, st⟩ Q) := ⟨rl_inC⟩
instance sl_intB {b : Bool} : St (lft fun st => intW st [.d (.bl b)]) k ⟨env, st⟩ Q (Run (k (.d (.int (if b then 1 else 0)))) ⟨env, st⟩ Q) := ⟨rl_intB⟩
instance sl_lenL {ds : List D} : St (lft fun st => lenW st [.d (.lst ds)]) k ⟨env, st⟩ Q (Run (k (.d (.int ds.length))) ⟨env, st⟩ Q) := ⟨rl_lenL⟩
instance sl_lenF {ds : List D} : St (lft fun st => lenW st [.d (.fls ds)]) k ⟨env, st⟩ Q (Run (k (.d (.int ds.length))) ⟨env, st⟩ Q) := ⟨rl_lenF⟩
instance sl_lenT {ds : List D} : St (lft fun st => lenW st [.d (.tup ds)]) k ⟨env, st⟩ Q (Run (k (.d (.int ds.length))) ⟨env, st⟩ Q) := ⟨rl_lenT⟩
instance sl_lenSs {zs : List Str} : St (lft fun st => lenW st [.d (strs' zs)]) k ⟨env, st⟩ Q (Run (k (.d (.int zs.length))) ⟨env, st⟩ Q) := ⟨rl_lenSs⟩
instance sl_listSs {zs : List Str} : St (lft fun st => listC false st [.d (strs' zs)]) k ⟨env, st⟩ Q (Run (k (.d (strs' zs))) ⟨env, st⟩ Q) := ⟨rl_listSs⟩
instance sl_listF {ds : List D} : St (lft fun st => listC false st [.d (.lst ds)]) k ⟨env, st⟩ Q (Run (k (.d (.lst ds))) ⟨env, st⟩ Q) := ⟨rl_listF⟩
instance sl_slSs {zs : List Str} {lo hi : Option Int} : St (lft fun st => sliceA false st (.d (strs' zs)) lo hi) k ⟨env, st⟩ Q (Run (k (.d (strs' (cutW zs lo hi)))) ⟨env, st⟩ Q) := ⟨rl_slSs⟩
instance sl_slI {zs : List Int} {lo hi : Option Int} : St (lft fun st => sliceA false st (.d (ints' zs)) lo hi) k ⟨env, st⟩ Q (Run (k (.d (ints' (cutW zs lo hi)))) ⟨env, st⟩ Q) := ⟨rl_slI⟩
instance sl_slL {zs : List D} {lo hi : Option Int} : St (lft fun st => sliceA false st (.d (.lst zs)) lo hi) k ⟨env, st⟩ Q (Run (k (.d (.lst (cutW zs lo hi)))) ⟨env, st⟩ Q) := ⟨rl_slL⟩
instance sl_slF {zs : List D} {lo hi : Option Int} : St (lft fun st => sliceA false st (.d (.fls zs)) lo hi) k ⟨env, st⟩ Q (Run (k (.d (.lst (cutW zs lo hi)))) ⟨env, st⟩ Q) := ⟨rl_slF⟩
instance sl_find {a b : Str} : St (lft fun st => findW st (.d (.str a)) [.d (.str b)]) k ⟨env, st⟩ Q (Run (k (.d (.int (Txt.find a b)))) ⟨env, st⟩ Q) := ⟨rl_find⟩
instance sl_newKF : St (lft (newK false [] [])) k ⟨env, st⟩ Q (Run (k (.d (.dct [] []))) ⟨env, st⟩ Q) := ⟨rl_newKF⟩
instance sl_ixC0 {a : Str} {r : List Str} : St (lft fun st => ixA st (.d (strs' (a :: r))) (.d (.int 0))) k ⟨env, st⟩ Q (Run (k (.d (.str a))) ⟨env, st⟩ Q) := ⟨rl_ixC0⟩
instance sl_ixC1 {a b : Str} {r : List Str} : St (lft fun st => ixA st (.d (strs' (a :: b :: r))) (.d (.int 1))) k ⟨env, st⟩ Q (Run (k (.d (.str b))) ⟨env, st⟩ Q) := ⟨rl_ixC1⟩
instance sl_ixC2 {a b c : Str} {r : List Str} : St (lft fun st => ixA st (.d (strs' (a :: b :: c :: r))) (.d (.int 2))) k ⟨env, st⟩ Q (Run (k (.d (.str c))) ⟨env, st⟩ Q) := ⟨rl_ixC2⟩
/-! ends -/
instance se_lnx {N : SS → Prop} {k : Fl → EM β} : Se (pur .nx) s (LoopQ N k Q) (N s) := ⟨lq_nx⟩
instance se_lcnt {N : SS → Prop} {k : Fl → EM β} : Se (pur .cnt) s (LoopQ N k Q) (N s) := ⟨lq_cnt⟩
instance se_lbrk {N : SS → Prop} {k : Fl → EM β} : Se (pur .brk) s (LoopQ N k Q) (Run (k .nx) s Q) := ⟨lq_brk⟩
instance se_lret {N : SS → Prop} {k : Fl → EM β} {w : W} : Se (pur (.ret w)) s (LoopQ N k Q) (Run (k (.ret w)) s Q) := ⟨lq_ret⟩
instance se_cno {N : SS → Prop} {Y : W → SS → Prop} : Se (pur none) s (CompQ N Y) (N s) := ⟨cq_no⟩
instance se_cyes {N : SS → Prop} {Y : W → SS → Prop} {w : W} : Se (pur (some w)) s (CompQ N Y) (Y w s) := ⟨cq_yes⟩
instance se_rd {P : D → Prop} {d : D} : Se (pur (.ret (.d d))) s (RetP P) (P d) := ⟨rp_d⟩
instance se_rnx {P : D → Prop} : Se (pur .nx) s (RetP P) (P .non) := ⟨rp_nx⟩
instance se_ev {Y : W → Prop} {w : W} : Se (pur w) s (EvQ s Y) (Y w) := ⟨ev_ok⟩
instance se_jnx {P : SS → Prop} : Se (pur .nx) s (JoinQ P) (P s) := ⟨jq_nx⟩
instance se_val {α : Type} {a : α} {Y : α → Prop} : Se (pur a) s (ValQ s Y) (Y a) := ⟨vq⟩
instance se_fnx {P : W → Store → Prop} : Se (pur .nx) ⟨env, st⟩ (RetF P) (P (.d .non) st) := ⟨rf_nx⟩
instance se_fret {P : W → Store → Prop} {w : W} : Se (pur (.ret w)) ⟨env, st⟩ (RetF P) (P w st) := ⟨rf_ret⟩
/-! which kind of step it is -/
theorem gd_lft {α : Type} {f : Store → Option (α × Store)} {k : α → EM β} (h : Run (bnd (lft f) k) s Q) : Run (bnd (lft f) k) s Q := h
theorem gd_ite {α : Type} {b : Bool} {m1 m2 : EM α} {k : α → EM β} (h : Run (bnd (ite2 b m1 m2) k) s Q) : Run (bnd (ite2 b m1 m2) k) s Q := h
theorem gd_ix {x y : W} (h : Run (bnd (lft fun st => ixA st x y) k) s Q) : Run (bnd (lft fun st => ixA st x y) k) s Q := h
theorem gd_add {own : Bool} {x y : W} (h : Run (bnd (lft fun st => addA own st x y) k) s Q) : Run (bnd (lft fun st => addA own st x y) k) s Q := h
theorem gd_int {f : Int → Int → Option D} {x y : W} (h : Run (bnd (lft fun st => intF f st x y) k) s Q) : Run (bnd (lft fun st => intF f st x y) k) s Q := h
theorem gd_mul {own : Bool} {x y : W} (h : Run (bnd (lft fun st => mulA own st x y) k) s Q) : Run (bnd (lft fun st => mulA own st x y) k) s Q := h
end
end EV
/-! EV27: exceptions that are caught, as values. -/
namespace L2
open PySem PySem.Spec PyProof.Rows
section
variable {X : Cx} {pins : List (Addr × Obj)} {σ : St} {H : Hp} {s : Shared} {a : Addr} {o : HO}
/-- an object that stands is tracked from now on -/
theorem Inv.track (I : Inv X pins σ H s) (hs : ∀ ob, X.s_0.heap.get? a = some ob → False) (na : H a = none) (nL : a ≠ X.env.locals) (nC : ∀ x c, X.env.cells.lookup x = some c → c ≠ a) (np : ∀ p ∈ X.pn ++ pins, p.1 ≠ a) (ok : ObjOk X.prog X.w (upd H a o) s.heap a o) : Inv X pins σ (upd H a o) s := by
  have ne : ∀ {b : Addr} {u : HO}, H b = some u → b ≠ a := fun h e => by rw [e, na] at h; cases h
  refine ⟨I.ok, I.os, I.bare, ⟨I.base.keep, I.base.slot, fun b ob e n hx => ?_, I.base.there, fun b xs e => ?_, fun b ob u e => ?_, fun b ps e => ?_⟩, I.loc, I.cell, ?_, fun x c e => ?_, fun p hp => ?_, fun b u e => ?_, I.len⟩
  · rw [upd_ne (fun q : b = a => hs ob (by rw [← q]; exact e))]
    exact I.base.free b ob e n hx
  · have := I.base.tups b xs e
    rw [upd_ne (ne this)]
    exact this
  · have := I.base.frzs b ob u e
    rw [upd_ne (ne this)]
    exact this
  · obtain ⟨more, this⟩ := I.base.tbls b ps e
    exact ⟨more, by rw [upd_ne (ne this)]; exact this⟩
  · rw [upd_ne (Ne.symm nL)]
    exact I.free
  · rw [upd_ne (nC x c e)]
    exact I.freeC x c e
  · obtain ⟨h1, h2, h3, h4, h5⟩ := I.pin p hp
    exact ⟨h1, by rw [upd_ne (np p hp)]; exact h2, h3, h4, h5⟩
  · by_cases hb : b = a
    · subst hb
      rw [upd_same] at e
      cases e
      exact ok
    · rw [upd_ne hb] at e
      exact (I.hok b u e).stay (fun _ _ _ q => q) (fun c q => by rw [upd_ne (ne q)]; exact q) fun c xs q => by rw [upd_ne (ne q)]; exact q
end
/-- what the clauses wish -/
def wManyV (K : PySem.W.Frag) (Wout : WX) (D : Ends) : List (Value × Nat × (Addr → TS)) → WX
  | [] => Wout
  | (c, i, ts) :: r => fun cls d σ H => ∃ b, PySem.W.exmOne K cls c = some b ∧
      (b = true → ∀ a, H a = none → ts a { nx := fun σ' H' => D.nx (σ'.set i none) H', rt := D.rt, bk := fun σ' H' => D.bk (σ'.set i none) H', ct := fun σ' H' => D.ct (σ'.set i none) H' } (σ.set i (some (.ref a))) (upd H a (excT a cls d))) ∧
      (b = false → wManyV K Wout D r cls d σ H)
inductive HdsV (X : Cx) : List ExceptHandler → List (Value × Nat × (Addr → TS)) → Prop
  | nil : HdsV X [] []
  | cons {x n : Str} {c : Value} {i : Nat} {ts : Addr → TS} {b₀ : Stmt} {suite : List Stmt} {np pos' : Pos} {hds : List ExceptHandler} {l : List (Value × Nat × (Addr → TS))} (hc : Names X x c) (hi : X.N[i]? = some n) (hln : X.env.kindOf n = some .local)
      (hsu : ∀ (a : Addr) (pn : List (Addr × Obj)), PSs (X.suite a pn) (b₀ :: suite) (ts a)) (r : HdsV X hds l) :
      HdsV X (.ExceptHandler (some (.Name x np)) (some n) (b₀ :: suite) pos' :: hds) ((c, i, ts) :: l)
section
variable {X : Cx} {body : List Stmt} {h₀ : ExceptHandler} {hds : List ExceptHandler} {l : List (Value × Nat × (Addr → TS))} {pos : Pos} {tb : WX → TS} {Wout : WX}
theorem ps_tryV (hs : X.stack = X.env :: X.outer) (hf : X.env.frame = some X.env.locals) (hex : X.ex = []) (hN : X.N.Nodup) (tk : L2N.Takes X Wout)
    (hb : ∀ (W : WX) (pn : List (Addr × Obj)) (xe : Value → Shared → Prop), L2N.Takes (X.tr pn xe) W → PassesOwn (model X.prog X.w) X.A X.env xe → PSs (X.tr pn xe) body (tb W))
    (hh : HdsV X (h₀ :: hds) l) : PS X (.Try body (h₀ :: hds) [] [] pos) (fun D σ H => tb (wManyV X.K Wout D l) D σ H) := by
  refine ⟨fun pins s σ H D I h => ?_⟩
  have ok := I.ok
  have hfr : X.A.frames = some (X.env :: X.outer) := by rw [ok.frames, hs]
  refine wpAny_Try_except ?_
  refine wpAny_mono ((hb (wManyV X.K Wout D l) (X.pn ++ pins) (fun e s₁ => wpAny (model X.prog X.w) X.A (noteFrame e X.env) (fun _ s₂ => wpAny (model X.prog X.w) X.A (setFlight e none) (fun _ s₃ =>
    wpAny (model X.prog X.w) X.A (handleBy e X.env (h₀ :: hds)) (SP X pins D) X.xe s₃) X.xe s₂) X.xe s₁) (fun u s' xx => ?_) PassesOwn.looking).run [] s σ H D (I.toTry _) h) (fun f s1 hsp => ?_) (fun e s1 he => he)
  · -- the catch
    obtain ⟨a, B, sI, pins', σ', H', cls, d, rfl, J', nb, up, sky, na, os, ag, w⟩ := xx
    have J : Inv X pins σ' H' sI := J'.ofTry ok
    have sky' : Sky B (X.env :: X.outer) a (L2N.Zn cls d) X.env.locals s'.heap := by rw [← hs]; exact sky
    show wpAny (model X.prog X.w) X.A (noteFrame (.ref a) X.env) _ _ _
    refine L2N.Sky.land L2N.Zn.steady hfr hf sky' fun h3 fl3 up3 => ?_
    have J3 : Inv X pins σ' H' { s' with heap := h3 } := J.landed nb fl3.1 (up.trans up3) os ag
    obtain ⟨oe3, vs3, he3, hz3, hd3⟩ := fl3.there
    have notFr : ∀ {h : Heap} {o : Obj} {vs : Array Value}, h.FunFrames B (X.env :: X.outer) → h.get? a = some o → o.data = .fields vs → a ∉ frs (X.env :: X.outer) := fun {h o vs} ff e dd hm => by
      obtain ⟨_, o', e', hnf⟩ := ff.mem hm
      rw [e] at e'; cases e'
      exact hnf _ dd
    have nfr := notFr fl3.2.2.1 he3 hd3
    have nL : a ≠ X.env.locals := fun z => nfr (List.mem_filterMap.mpr ⟨X.env, List.mem_cons_self, by rw [hf, z]⟩)
    have nF : a ∉ X.fs := fun hm => by
      obtain ⟨e, he, q⟩ := List.mem_filterMap.mp hm
      exact nfr (List.mem_filterMap.mpr ⟨e, List.mem_cons_of_mem _ he, q⟩)
    have hBa : B.get? a = none := fl3.2.1
    have new : ∀ ob, sI.heap.get? a = some ob → False := fun ob e => by
      have := nb a ob e (by rw [hs]; exact nfr)
      rw [hBa] at this
      cases this
    have hs0 : ∀ ob, X.s_0.heap.get? a = some ob → False := fun ob e => by
      obtain ⟨o', e1⟩ := J.base.there a ob e (by rw [hex]; exact List.not_mem_nil)
      exact new o' e1
    have nC : ∀ x c, X.env.cells.lookup x = some c → c ≠ a := fun x c e z => by
      obtain ⟨v, hc⟩ := J.cell x c e
      subst z
      obtain ⟨ob, q, _⟩ := hc
      exact new ob q
    have np : ∀ p ∈ X.pn ++ pins, p.1 ≠ a := fun p hp z => new p.2 (by rw [← z]; exact (J.pin p hp).1)
    have S3 := J3.suite he3 hd3 na nL nF
    have go : ∀ {hds' : List ExceptHandler} {l' : List (Value × Nat × (Addr → TS))}, HdsV X hds' l' → wManyV X.K Wout D l' cls d σ' H' →
        wpAny (model X.prog X.w) X.A (handleBy (.ref a) X.env hds') (SP X pins D) X.xe { s' with heap := h3 } := by
      intro hds' l' hk
      induction hk with
      | nil =>
        intro w
        refine wpAny_handleBy_nil ?_
        obtain ⟨k1, k2, k3, oe, vs, T, oT, ts', he, hz, hd, h1, hr⟩ := id fl3
        unfold PySem.passOn
        refine wpAny_bind (wpAny_field he hd h1 ?_)
        rw [if_neg (show ¬ ((Value.ref T == Value.none) = true) from by simp)]
        have fin : wpAny (model X.prog X.w) X.A (setFlight (.ref a) X.env.frame) (fun _ s4 => wpAny (model X.prog X.w) X.A (throw (.ref a) : Sem Flow) (SP X pins D) X.xe s4) X.xe { s' with heap := h3 } := by
          rw [hf]
          refine HandSPX.setFlight_upZ fl3 fun h4 hh4 up4 => wpAny_throw (tk _ _ ?_)
          exact ⟨a, B, sI, pins, σ', H', cls, d, rfl, J, nb, (up.trans up3).trans up4, .inr (.inr (by rw [hs]; exact hh4)), na, os, ag, w⟩
        first
          | exact wpAny_bind (wpAny_pure (wpAny_bind fin))
          | exact wpAny_bind fin
      | @cons x n c i ts b₀ suite np0 pos' hds2 l2 hc hi hln hsu r ih =>
        intro w
        have hloc : Loc X.env.scope n := .inl hln
        obtain ⟨b, hb1, hyes, hno⟩ := w
        refine wpAny_handleBy_cons (codeAny_handlers_test ?_) (by intro q; cases q)
        have LT : PySem.W.Looks (model X.prog X.w) h3 (typeOf (.ref a)) cls := fun A Q E s k q => wpAny_typeOf_ref (k _ _ he3) (by rw [hz3.1]; exact q)
        have LM := PySem.W.exm_one (M := model X.prog X.w) (J3.kIn) LT hb1
        have test : ∀ {Q : Value → Shared → Prop} {E : Value → Shared → Prop}, Q c { s' with heap := h3 } → wpAny (model X.prog X.w) (X.A.mark (some (.ref a))) (eval (.Name x np0) X.env) Q E { s' with heap := h3 } := fun {Q E} q => by
          obtain ⟨hg, hdbg, hm | ⟨hm, hv, hnn⟩⟩ := hc
          · exact ld_glob (X := X.suite a ((a, oe3) :: (X.pn ++ pins))) S3 hg hm q hdbg
          · exact ld_blt (X := X.suite a ((a, oe3) :: (X.pn ++ pins))) S3 hg hm hv q hnn hdbg
        refine test (LM.here ?_)
        cases b with
        | true =>
          refine codeAny_handlers_suite_as ?_
          refine HandSPX.lands_againZ fl3 fun h4 fl4 up4 => ?_
          have J4 : Inv X pins σ' H' { s' with heap := h4 } := J.landed nb fl4.1 ((up.trans up3).trans up4) os ag
          obtain ⟨oe4, vs4, he4, hz4, hd4⟩ := fl4.there
          have J5 : Inv X pins σ' (upd H' a (excT a cls d)) { s' with heap := h4 } := J4.track hs0 na nL nC np (excT_ok he4 hz4 hd4)
          have S5 : Inv (X.suite a (X.pn ++ pins)) [] σ' (upd H' a (excT a cls d)) { s' with heap := h4 } :=
            ⟨J5.ok.suite _ _, J5.os, J5.bare, J5.base, J5.loc, J5.cell, J5.free, J5.freeC, fun p hp => J5.pin p (by rw [List.append_nil] at hp; exact hp), J5.hok, J5.len⟩
          refine store_ok (X := X.suite a (X.pn ++ pins)) (v := .ref a) S5 hN hi hloc rfl (fun s5 S6 => ?_) (.inr hln)
          refine wpAny_mono ((hsu a (X.pn ++ pins)).run [] s5 _ _ _ S6 (hyes rfl a na)) (fun f s6 hsp => ?_) (fun _ _ z => False.elim z)
          have end_ : ∀ {σ6 : St} {H6 : Hp} {Q : Shared → Prop}, Inv (X.suite a (X.pn ++ pins)) [] σ6 H6 s6 → (∀ s7, Inv X pins (σ6.set i none) H6 s7 → Q s7) →
              wpAny (model X.prog X.w) X.A (do bindName X.env n .none; unbindBehindTheSuite X.env n pos') (fun _ s7 => Q s7) X.xe s6 := fun {σ6 H6 Q} S7 hq =>
            gone_ok (X := X) (pins := pins) ⟨ok, S7.os, S7.bare, S7.base, S7.loc, S7.cell, S7.free, S7.freeC, fun p hp => S7.pin p (by rw [List.append_nil]; exact hp), S7.hok, S7.len⟩ hN hi hln hq
          cases f with
          | next =>
            obtain ⟨σ6, H6, S7, q6⟩ := hsp
            exact end_ S7 fun s7 J7 => ⟨_, _, J7, q6⟩
          | brk =>
            obtain ⟨σ6, H6, S7, q6⟩ := hsp
            exact end_ S7 fun s7 J7 => ⟨_, _, J7, q6⟩
          | cont =>
            obtain ⟨σ6, H6, S7, q6⟩ := hsp
            exact end_ S7 fun s7 J7 => ⟨_, _, J7, q6⟩
          | ret u =>
            obtain ⟨v6, σ6, H6, S7, r6, q6⟩ := hsp
            exact end_ S7 fun s7 J7 => ⟨_, _, _, J7, r6, q6⟩
        | false =>
          show wpAny _ X.A (handleBy (.ref a) X.env hds2) _ _ _
          exact ih (hno rfl)
    exact go hh w
  · cases f with
    | next =>
      obtain ⟨σ', H', J', q⟩ := hsp
      exact wpAny_execs_nil ⟨σ', H', J'.ofTry ok, q⟩
    | brk =>
      obtain ⟨σ', H', J', q⟩ := hsp
      exact ⟨σ', H', J'.ofTry ok, q⟩
    | cont =>
      obtain ⟨σ', H', J', q⟩ := hsp
      exact ⟨σ', H', J'.ofTry ok, q⟩
    | ret u =>
      obtain ⟨v, σ', H', J', r, q⟩ := hsp
      exact ⟨v, σ', H', J'.ofTry ok, r, q⟩
end
end L2
namespace EV
open PySem PySem.Spec PyProof.Rows L2
/-- a clause: the classes that it catches, its name's place, its suite -/
abbrev Hd := List Nat × Nat × EM Fl
def hdK (i : Nat) (h : EM Fl) (C : Nat) (ks : List Nat) (ds : List D) : EM Fl := fun s => match h ⟨s.env.set i (some (.d (.exc C ks ds))), s.st⟩ with
  | some (.ok f, s2) => some (.ok f, ⟨s2.env.set i none, s2.st⟩)
  | _ => none
def runH : List Hd → Nat → List Nat → List D → EM Fl
  | [], C, ks, ds => thr C ks ds
  | (cs, i, h) :: r, C, ks, ds => if cs.contains C then hdK i h C ks ds else runH r C ks ds
/-- try: m, by the clauses; known: the classes that may come -/
def tryS (known : List Nat) (m : EM Fl) (hds : List Hd) : EM Fl := fun s => match m s with
  | some (.ex C ks ds, s1) => if known.contains C then runH hds C ks ds s1 else none
  | some (.ok f, s1) => some (.ok f, s1)
  | none => none
def ExL (c : Kx) (cv : Value) (known cs : List Nat) : Prop := ∀ k ∈ known, ∀ C, c.ct[k]? = some C → PySem.W.exmOne c.K (.ref C) cv = some (cs.contains k)
/-- what stands at the name's place is the exception at a -/
def HotL (i : Nat) (a : Addr) (σ : L2.St) : Prop := ∀ v, σ[i]? = some (some v) → v = .ref a
/-- a suite, run where the exception's name is the exception's -/
structure ESsh (i : Nat) (a : Addr) (c : Kx) (X : Cx) (U : WX) (sts : List Stmt) (m : EM Fl) : Prop where
  K : X.K = c.K
  ps : PSs X sts (fun D σ H => HotL i a σ ∧ tS c U m D σ H)
theorem ESs.h {i : Nat} {a : Addr} {c : Kx} {X : Cx} {U : WX} {sts : List Stmt} {m : EM Fl} (h : ESs c X U sts m) : ESsh i a c X U sts m := ⟨h.K, PSs.imp h.ps fun _ _ _ q => q.2⟩
inductive HdE (c : Kx) (X : Cx) (known : List Nat) : List ExceptHandler → List Hd → List (Value × Nat × (Addr → TS)) → Prop
  | nil : HdE c X known [] [] []
  | cons {x n : Str} {cv : Value} {i : Nat} {b₀ : Stmt} {suite : List Stmt} {np pos' : Pos} {hds : List ExceptHandler} {l : List Hd} {lv : List (Value × Nat × (Addr → TS))} {cs : List Nat} {h : EM Fl} (hc : Names X x cv) (hi : X.N[i]? = some n) (hln : X.env.kindOf n = some .local)
      (he : ExL c cv known cs) (hsu : ∀ (a : Addr) (pn : List (Addr × Obj)), ESsh i a c (X.suite a pn) (fun _ _ _ _ => False) (b₀ :: suite) h) (r : HdE c X known hds l lv) :
      HdE c X known (.ExceptHandler (some (.Name x np)) (some n) (b₀ :: suite) pos' :: hds) ((cs, i, h) :: l) ((cv, i, fun a D σ H => HotL i a σ ∧ tS c (fun _ _ _ _ => False) h D σ H) :: lv)
theorem HdE.hdsV {c : Kx} {X : Cx} {known : List Nat} {hds : List ExceptHandler} {l : List Hd} {lv : List (Value × Nat × (Addr → TS))} (h : HdE c X known hds l lv) : HdsV X hds lv := by
  induction h with
  | nil => exact .nil
  | cons hc hi hln he hsu r ih => exact .cons hc hi hln (fun a pn => (hsu a pn).ps) ih
theorem env_gone {c : Kx} {ρ : Rho} {G H : Hp} {σ : L2.St} {s : SS} {i : Nat} (hR : R c ρ G σ H s) : R c ρ G (σ.set i none) H ⟨s.env.set i none, s.st⟩ := by
  refine ⟨hR.rs, fun j w e => ?_, by simp [hR.len]⟩
  rcases get_set _ _ _ _ _ e with ⟨_, z, _⟩ | ⟨ne, z⟩
  · cases z
  · obtain ⟨v, h1, h2⟩ := hR.env j w z
    exact ⟨v, by rw [List.getElem?_set_ne (Ne.symm ne)]; exact h1, h2⟩
theorem hot_set {i : Nat} {a : Addr} {σ : L2.St} {v : V} (e : (σ.set i (some (V.ref a)))[i]? = some (some v)) : v = .ref a := by
  by_cases hi : i < σ.length
  · rw [List.getElem?_set_self hi] at e
    cases e
    rfl
  · rw [List.getElem?_eq_none (by rw [List.length_set]; omega)] at e
    cases e
section
variable {c : Kx} {X : Cx} {U : WX} {body : List Stmt} {h₀ : ExceptHandler} {hds : List ExceptHandler} {m : EM Fl} {pos : Pos}
theorem es_try {known : List Nat} {l : List Hd} {lv : List (Value × Nat × (Addr → TS))} (hK : X.K = c.K) (hs : X.stack = X.env :: X.outer) (hf : X.env.frame = some X.env.locals) (hex : X.ex = []) (hN : X.N.Nodup) (tk : L2N.Takes X U)
    (hb : ∀ (W : WX) (pn : List (Addr × Obj)) (xe : Value → Shared → Prop), L2N.Takes (X.tr pn xe) W → PassesOwn (model X.prog X.w) X.A X.env xe → ESs c (X.tr pn xe) W body m)
    (hh : HdE c X known (h₀ :: hds) l lv) : ES c X U (.Try body (h₀ :: hds) [] [] pos) (tryS known m l) := by
  refine ⟨hK, PS.imp (ps_tryV hs hf hex hN tk (fun W pn xe tk' hp => (hb W pn xe tk' hp).ps) hh.hdsV) fun D σ H ⟨ρ, G, s, hR, w⟩ => ⟨ρ, G, s, hR, ?_⟩⟩
  unfold Ws tryS at w
  unfold Ws
  cases e : m s with
  | none => simp only [e] at w
  | some p =>
    obtain ⟨o, s1⟩ := p
    cases o with
    | ok f =>
      simp only [e] at w
      exact w
    | ex C ks ds =>
      simp only [e] at w
      intro ρ1 G1 σ1 H1 cls d S1 R1 x
      by_cases hkn : known.contains C = true
      · rw [if_pos hkn] at w
        have hkn : C ∈ known := by simpa using hkn
        obtain ⟨Ca, hCa, rfl, hx⟩ := x
        have go : ∀ {hds' : List ExceptHandler} {l' : List Hd} {lv' : List (Value × Nat × (Addr → TS))}, HdE c X known hds' l' lv' →
            Ws c U (fun _ : SS => runH l' C ks ds s1) ρ G H s (kD c D) → wManyV X.K U D lv' (.ref Ca) d σ1 H1 := by
          intro hds' l' lv' hk
          induction hk with
          | nil =>
            intro w
            unfold Ws runH thr at w
            exact w ρ1 G1 σ1 H1 (.ref Ca) d S1 R1 ⟨Ca, hCa, rfl, hx⟩
          | @cons x n cv i b₀ suite np pos' hds l lv cs h hc hi hln he hsu r ih =>
            intro w
            unfold Ws runH at w
            refine ⟨cs.contains C, by rw [hK]; exact he C hkn Ca hCa, fun hb a na => ?_, fun hb => ih (by rw [if_neg (by rw [hb]; exact Bool.false_ne_true)] at w; unfold Ws; exact w)⟩
            rw [if_pos hb] at w
            obtain ⟨S2, r2⟩ := new_frozen (o := excT a (.ref Ca) d) R1.rs na
            have hrep : RepD c (upd G1 a (excT a (.ref Ca) d)) (.exc C ks ds) (.ref a) := by
              rcases hx with ⟨rfl, rfl, rfl⟩ | ⟨dx, vs, rfl, hl, hdx, hr⟩
              · exact .exc0 hCa upd_same
              · exact .excD hCa upd_same (S2.same _ _ hdx) hl (hr.mono S2.same)
            have R2 : R c ρ1 (upd G1 a (excT a (.ref Ca) d)) (σ1.set i (some (.ref a))) (upd H1 a (excT a (.ref Ca) d)) ⟨s1.env.set i (some (.d (.exc C ks ds))), s1.st⟩ :=
              ⟨r2, (R1.env.mono S2.rho S2.same).set (w := .d (.exc C ks ds)) R1.len hrep, by simp [R1.len]⟩
            refine ⟨fun v e => ?_, ρ1, _, _, R2, ?_⟩
            · exact hot_set e
            unfold hdK at w
            unfold Ws
            cases e2 : h ⟨s1.env.set i (some (.d (.exc C ks ds))), s1.st⟩ with
            | none => simp only [e2] at w
            | some p2 =>
              obtain ⟨o2, s2⟩ := p2
              cases o2 with
              | ex _ _ _ => simp only [e2] at w
              | ok f =>
                simp only [e2] at w
                intro ρ3 G3 σ3 H3 S3 R3
                have w3 := w ρ3 G3 (σ3.set i none) H3 ((S1.trans hR.rs.len S2).trans hR.rs.len S3) (env_gone R3)
                cases f with
                | nx => exact w3
                | ret u => exact w3
                | brk => exact w3
                | cnt => exact w3
        exact go hh (by unfold Ws; exact w)
      · rw [if_neg hkn] at w
        exact w.elim
end
/-! fields of exceptions -/
def XfL (c : Kx) (f : Str) (known : List Nat) : Prop := ∀ k ∈ known, ∀ C, c.ct[k]? = some C → XfC c.K C ∧ PySem.W.findIn c.K (.ref C) f = some none
def xfldK (known : List Nat) (n i : Nat) (w : W) : EM W := fun s => match w with
  | .d (.exc C ks ds) => if known.contains C && ks.all (fun k => decide (k < n)) then match fget ks (ds.map .d) i with
    | some y => some (.ok y, s)
    | none => none
    else none
  | _ => none
def xfldE (known : List Nat) (n i : Nat) (m : EM W) : EM W := bnd m (xfldK known n i)
section
variable {c : Kx} {X : Cx} {U : WX} {e : Expr} {me : EM W} {pos : Pos}
theorem ee_xfld {known : List Nat} {n i : Nat} {f : Str} (hn : n ≤ c.fn.length) (hf : c.fn[i]? = some f) (hx : XfL c f known) (h : EE c X U e me) (ha : attributeBase e f X.env (eval e X.env) = eval e X.env := by rfl) : EE c X U (.Attribute e f pos) (xfldE known n i me) :=
  EE.mk1 h.K (pe_xfT h.pe ha) fun ρ G s σ H Q hR w => ⟨ρ, G, s, hR, (Wp.bnd hR w).imp fun z ρ1 G1 H1 s1 ⟨S1, R1, w1⟩ v rv => by
    cases z with
    | loc _ => exact w1.none rfl
    | d x =>
      cases x with
      | exc C ks ds =>
        by_cases hb : (known.contains C && ks.all (fun k => decide (k < n))) = true
        · cases e2 : fget ks (ds.map .d) i with
          | none => exact w1.none (by unfold xfldK; simp only [e2, hb]; rfl)
          | some y =>
            have es : xfldK known n i (.d (.exc C ks ds)) s1 = some (.ok y, s1) := by unfold xfldK; simp only [e2, hb]; rfl
            obtain ⟨hb1, hb2⟩ := Bool.and_eq_true_iff.mp hb
            have hkn : C ∈ known := by simpa using hb1
            have hks : ∀ k ∈ ks, k < c.fn.length := fun k hk => Nat.lt_of_lt_of_le (of_decide_eq_true (List.all_eq_true.mp hb2 k hk)) hn
            have hi : i < c.fn.length := (List.getElem?_eq_some_iff.mp hf).1
            have en : c.nm i = f := by
              unfold Kx.nm
              rw [List.getD_eq_getElem?_getD, hf]
              rfl
            cases rv with
            | exc0 hC hg => cases e2
            | excD hC hg hdx hl hr =>
              obtain ⟨h1, u, h2, h3⟩ := fget_ok hi hks (RepWs.ofD (ρ := ρ1) hr) e2
              rw [en] at h2
              obtain ⟨T, no⟩ := hx C hkn _ hC
              exact ⟨_, _, _, _, u, rfl, R1.rs.sub _ _ hg, R1.rs.sub _ _ hdx, h2, by rw [h.K]; exact T, by rw [h.K]; exact no, w1.same R1 es u h3⟩
        · exact w1.none (by unfold xfldK; simp only [hb]; rfl)
      | _ => exact w1.none rfl⟩
theorem TyFact.ofXc {u : Value} {k : Nat} {C : Addr} {b : Bool} (hC : c.ct[k]? = some C) (i : ExcC c.K C) (h : PySem.W.kitOne c.K (.ref C) u = some b) : TyFact c u (.xc k) b := fun C' e => by
  rw [hC] at e
  cases e
  exact ⟨i, h⟩
end
/-! running -/
section
variable {β : Type} {env : List (Option W)} {st : Store} {s : SS} {Q : Out β → SS → Prop}
def TryQ (hds : List Hd) (k : Fl → EM β) (Q : Out β → SS → Prop) (known : List Nat) : Out Fl → SS → Prop := fun o s => match o with
  | .ok f => Run (k f) s Q
  | .ex C ks ds => known.contains C = true ∧ Run (bnd (runH hds C ks ds) k) s Q
theorem rb_try {known : List Nat} {m : EM Fl} {hds : List Hd} {k : Fl → EM β} (h : Run (bnd m pur) s (TryQ hds k Q known)) : Run (bnd (tryS known m hds) k) s Q := by
  obtain ⟨o, s1, e, h⟩ := run_bnd h
  cases o with
  | ok f =>
    obtain ⟨o2, s2, e2, q⟩ := h
    refine ⟨o2, s2, ?_, q⟩
    unfold bnd tryS
    simp only [e]
    exact e2
  | ex C ks ds =>
    obtain ⟨hk, o2, s2, e2, q⟩ := h
    refine ⟨o2, s2, ?_, q⟩
    rw [← e2]
    unfold bnd tryS
    simp only [e, hk, if_true]
theorem rb_hdT {cs : List Nat} {i C : Nat} {ks : List Nat} {ds : List D} {h : EM Fl} {r : List Hd} {k : Fl → EM β} {env' : List (Option W)} (hc : cs.contains C = true) (e : env.set i (some (.d (.exc C ks ds))) = env')
    (q : Run (bnd h pur) ⟨env', st⟩ (fun o s => match o with | .ok f => Run (k f) ⟨s.env.set i none, s.st⟩ Q | .ex _ _ _ => False)) : Run (bnd (runH ((cs, i, h) :: r) C ks ds) k) ⟨env, st⟩ Q := by
  subst e
  obtain ⟨o, s1, e1, q⟩ := run_bnd q
  cases o with
  | ex _ _ _ => exact q.elim
  | ok f =>
    obtain ⟨o2, s2, e2, q⟩ := q
    refine ⟨o2, s2, ?_, q⟩
    rw [← e2]
    unfold bnd runH
    rw [if_pos hc]
    unfold hdK
    simp only [e1]
theorem rb_hdF {cs : List Nat} {i C : Nat} {ks : List Nat} {ds : List D} {h : EM Fl} {r : List Hd} {k : Fl → EM β} (hc : cs.contains C = false) (q : Run (bnd (runH r C ks ds) k) s Q) : Run (bnd (runH ((cs, i, h) :: r) C ks ds) k) s Q := by
  obtain ⟨o, s1, e, q⟩ := q
  refine ⟨o, s1, ?_, q⟩
  rw [← e]
  unfold bnd
  have : runH ((cs, i, h) :: r) C ks ds s = runH r C ks ds s := by
    show (if cs.contains C then hdK i h C ks ds else runH r C ks ds) s = _
    rw [hc]
    rfl
  rw [this]
theorem rb_xfld {known : List Nat} {n i : Nat} {m : EM W} {k : W → EM β} (h : Run (bnd m fun w => bnd (xfldK known n i w) k) s Q) : Run (bnd (xfldE known n i m) k) s Q := rb_bnd h
theorem rl_xfld {known : List Nat} {n i C : Nat} {ks : List Nat} {ds : List D} {y : W} {k : W → EM β} (h1 : (known.contains C && ks.all (fun k => decide (k < n))) = true) (h2 : fget ks (ds.map .d) i = some y) (h : Run (k y) s Q) : Run (bnd (xfldK known n i (.d (.exc C ks ds))) k) s Q :=
  rb_eq (by unfold xfldK; simp only [h1, h2, if_true]) h
instance st_xfld {known : List Nat} {n i : Nat} {m : EM W} {k : W → EM β} : St (xfldE known n i m) k s Q (Run (bnd m fun w => bnd (xfldK known n i w) k) s Q) := ⟨rb_xfld⟩
/-- a call that ends in an exception -/
theorem rb_gPx {np : Nat} {F : FP} {ws : List W} {ds : List D} {C : Nat} {ks : List Nat} {es : List D} {k : W → EM β} (e : allD ws = some ds) (hn : ds.length = np) (h : F ds = some (.ex C ks es)) (hk : Q (.ex C ks es) s) : Run (bnd (gP np F (ws ++ [])) k) s Q := by
  refine ⟨.ex C ks es, s, ?_, hk⟩
  have e := allD_eq e
  subst e
  refine bnd_ex ?_
  unfold gP
  rw [List.append_nil, List.length_map, if_pos hn]
  unfold callP treesE
  rw [bnd_pur, allD_map]
  show outP (F ds) s = _
  rw [h]
  rfl
end
/-- a def that ends in an exception -/
def RetX (C : Nat) (ks : List Nat) (es : List D) : Out Fl → SS → Prop := fun o _ => o = .ex C ks es
theorem fx_eq {n : Nat} {b : EM Fl} {ds es : List D} {C : Nat} {ks : List Nat} (env : List (Option W)) (e : initS n (ds.map .d) [] = ⟨env, []⟩) (h : Run (bnd b pur) ⟨env, []⟩ (RetX C ks es)) : pureP (bodyF n b) ds = some (.ex C ks es) := by
  obtain ⟨o, s', e1, h⟩ := run_bnd h
  have h : o = .ex C ks es := h
  subst h
  unfold pureP bodyF
  rw [e, e1]
end EV
/-! EV28: raising without fields, with three fields; classes of exceptions asked for. -/
namespace L2
open PySem PySem.Spec PyProof.Rows
section
variable {X : Cx} {C : Addr} {bmB : List Value} {B newId initId : String}
/-- X() -/
theorem pmk_own0 {x : Str} {p pos : Pos} (F : ExcBaseFacts B newId initId bmB) (q : PySem.W.excIn X.K C bmB newId = true) (gC : X.mg x = some (.ref C)) (kC : PySem.W.keepIn X.K (.ref C) = true) (r : Raises X (.ref C)) (hg : Gl X x)
    (hdb : (x == ("__debug__" : Str)) = false := by decide) : L2N.PMk X (.Call (.Name x p) [] [] pos) (fun _ H Q => Q (.ref C) none H) := by
  intro pins s σ H Q I h
  refine wpAny_Call_Name_kw (ld_glob I hg gC ?_ hdb)
  refine PySem.W.callWith_K0 I.kIn kC ?_
  show wpAny _ _ (call (.ref C) []) _ _ _
  obtain ⟨bm, N, nm, qn, bs, hdct, sn, sub, ab, col, dd, k0, k1, k2, k3, k5, mN, hC, hN, hni, T⟩ := exc_obj I.kIn q
  refine wpAny_call_exc_subT F T hC hN hni (fun h' e hm => ?_) (by show 0 ≤ sizeLine; omega)
  exact L2N.mk_of I hm r h (I.hok.gone hm.new)
end
/-- lists of unlike lengths -/
def rNeLen (K : PySem.W.Frag) : R2 := fun x y H Q => ∃ a b xs ys, x = .ref a ∧ y = .ref b ∧ SqL K H a xs ∧ SqL K H b ys ∧ xs.length ≠ ys.length ∧ Q (.bl true) H
theorem op_neLen {X : Cx} (hu : X.A.units + 64 < cLine) : OpR X (compareOp .NotEq) (rNeLen X.K) := by
  intro pins s σ H x y v u Q I rx ry h
  obtain ⟨a, b, xs, ys, rfl, rfl, ha, hb, hl, q⟩ := h
  cases (show v = Value.ref a from rx)
  cases (show u = Value.ref b from ry)
  obtain ⟨us, r1, p1, _⟩ := I.list ha
  obtain ⟨ws, r2, p2, _⟩ := I.list hb
  exact SeqAt.RcNeAt.lists_lengths p1.isList p2.isList (by rw [List.size_toArray, List.size_toArray, ← r1.length, ← r2.length]; exact bne_iff_ne.mpr hl) (by omega) _ _ _ _ ⟨.bl true, H, I, rfl, q⟩
end L2
namespace EV
open PySem PySem.Spec PyProof.Rows L2
/-- xs != [] of any items -/
def neZ (st : Store) (x y : W) : Option (W × Store) := match listW st x, listW st y with
  | some ws, some us => if ws.length = us.length then neA st x y else some (.d (.bl true), st)
  | _, _ => neA st x y
theorem op_neZ {X : Cx} (hu : X.A.units + 64 < cLine) : OpR X (compareOp .NotEq) (fun x y H Q => (rNe x y H Q ∨ rNeD X.K x y H Q) ∨ rNeLen X.K x y H Q) := (op_neA hu).or (op_neLen hu)
theorem s2_neZ {c : Kx} : S2 c (fun x y H Q => (rNe x y H Q ∨ rNeD c.K x y H Q) ∨ rNeLen c.K x y H Q) neZ := fun ρ G H st x y w st' vx vy Q r rx ry e q => by
  unfold neZ at e
  split at e
  · rename_i ws us e1 e2
    split at e
    · exact .inl (s2_neA ρ G H st x y w st' vx vy Q r rx ry e q)
    · rename_i hne
      cases e
      obtain ⟨a, vs, rfl, h1, h3⟩ := listW_ok r rx e1
      obtain ⟨b, vs2, rfl, h4, h6⟩ := listW_ok r ry e2
      exact .inr ⟨a, b, vs, vs2, rfl, rfl, h1, h4, by rw [h3.len, h6.len]; exact hne, q _ ρ G H Stp.refl r (.bl true)⟩
  · exact .inl (s2_neA ρ G H st x y w st' vx vy Q r rx ry e q)
theorem rl_neZ {β : Type} {env : List (Option W)} {st : Store} {Q : Out β → SS → Prop} {k : W → EM β} {x : W} {ws : List W} (e : listW st x = some ws) (h0 : ws = [] → eqB st x (.d (.lst [])) = some true) (h : Run (k (.d (.bl (!ws.isEmpty)))) ⟨env, st⟩ Q) : Run (bnd (lft fun st => neZ st x (.d (.lst []))) k) ⟨env, st⟩ Q := by
  refine rb_lft ?_ h
  unfold neZ
  have e2 : listW st (.d (.lst [])) = some [] := rfl
  simp only [e, e2]
  cases ws with
  | nil => simp only [List.length_nil, if_true, neA, h0 rfl]; rfl
  | cons _ _ => rfl
theorem es_raise0 {X : Cx} {c : Kx} {U : WX} {k : Nat} {C : Addr} {x : Str} {bmB : List Value} {newId initId B : String} {p pos pos' : Pos} (hK : X.K = c.K) (hcalm : X.calm = true) (tk : L2N.Takes X U) (hk : c.ct[k]? = some C) (F : ExcBaseFacts B newId initId bmB) (q : PySem.W.excIn X.K C bmB newId = true)
    (kC : PySem.W.keepIn X.K (.ref C) = true) (h1 : PySem.W.subIn X.K (.ref C) (.type "BaseException") = some true) (h2 : PySem.W.typeIn X.K (.ref C) = some (.type "type")) (hg : Gl X x) (hm : X.mg x = some (.ref C))
    (hdb : (x == ("__debug__" : Str)) = false := by decide) : ES c X U (.Raise (some (.Call (.Name x p) [] [] pos)) none pos') (raiseS k [] anil) := by
  refine ⟨hK, PS.imp (L2N.ps_raise hcalm tk (pmk_own0 F q hm kC (raises_own h1 h2) hg hdb)) fun D σ H ⟨ρ, G, s, hR, w⟩ => ?_⟩
  have w : Ws c U (thr k [] []) ρ G H s (kD c D) := w
  exact w ρ G σ H (.ref C) none Stp.refl hR ⟨C, hk, rfl, .inl ⟨rfl, rfl, rfl⟩⟩
/-- an `__init__` of an exception that keeps its three arguments -/
def spX3 (C : Addr) (f1 f2 f3 : Str) : Sp := fun vs H Q _ => ∃ a y1 y2 y3, vs = [.ref a, y1, y2, y3] ∧ H a = some (exo a C none) ∧ ∀ dx, H dx = none → dx ≠ a → Q .non (upd (upd H dx (exd dx [(f3, y3), (f2, y2), (f1, y1)])) a (exo a C (some dx)))
theorem fn_x3 {P : Program} {w : World} {K : PySem.W.Frag} {mg : Str → Option Value} {base : Heap} {x qual f1 f2 f3 : Str} {sd : Stmt} {fI C : Addr} {N ps : List Str} (D : DefAt K x qual sd fI ps) (S : FnScope N ps (defScope sd)) (T : OexC K C)
    (n1 : PySem.W.findIn K (.ref C) f1 = some none) (n2 : PySem.W.findIn K (.ref C) f2 = some none) (n3 : PySem.W.findIn K (.ref C) f3 = some none) (hl : ps.length = 4)
    (hb : ∀ (cdv : Value) (A : Around) (outer : List Env) (s : Shared) (H : Hp) (E : XK), PSs (cxOf (L2N.CX P w) P w K mg base N qual (defScope sd) fI cdv A outer s H E) (defBody sd) (tSeq (tOst K f1 (tVar 0) (tVar 1)) (tSeq (tOst K f2 (tVar 0) (tVar 2)) (tOst K f3 (tVar 0) (tVar 3))))) : FnS P w K mg base 1 fI (spX3 C f1 f2 f3) [] := by
  obtain ⟨fd, F, b⟩ := D.ex
  refine ⟨fd, ps, [], okAny (k := 0) F S (fun vs H Q E h => ?_) (fun cdv A outer s H vs Q E hr h => ⟨_, hb cdv A outer s H E, ?_⟩), F.kp, b, .nil⟩
  · obtain ⟨a, y1, y2, y3, rfl, _⟩ := h
    exact hl.symm
  · obtain ⟨a, y1, y2, y3, rfl, ha, q⟩ := h
    refine ⟨y1, rfl, .ref a, rfl, a, C, rfl, T, n1, .inl ⟨ha, fun dx hdx hne => ?_⟩⟩
    refine ⟨y2, rfl, .ref a, rfl, a, C, rfl, T, n2, .inr ⟨dx, _, upd_same, by rw [upd_ne hne, upd_same], Nat.le_of_ble_eq_true rfl, ?_⟩⟩
    refine ⟨y3, rfl, .ref a, rfl, a, C, rfl, T, n3, .inr ⟨dx, _, by rw [upd_ne (Ne.symm hne), upd_same], upd_same, Nat.le_of_ble_eq_true rfl, ?_⟩⟩
    have e : upd (upd (upd (upd H dx (exd dx [(f1, y1)])) a (exo a C (some dx))) dx (exd dx [(f2, y2), (f1, y1)])) dx (exd dx [(f3, y3), (f2, y2), (f1, y1)]) = upd (upd H dx (exd dx [(f3, y3), (f2, y2), (f1, y1)])) a (exo a C (some dx)) := by
      funext b
      by_cases h1 : b = dx
      · rw [h1, upd_same, upd_ne hne, upd_same]
      · rw [upd_ne h1, upd_ne h1]
        by_cases h2 : b = a
        · rw [h2, upd_same, upd_same]
        · rw [upd_ne h2, upd_ne h2, upd_ne h1, upd_ne h1]
    exact e ▸ q dx hdx hne
theorem es_raise3 {X : Cx} {c : Kx} {U : WX} {k i1 i2 i3 j : Nat} {C fI : Addr} {f1 f2 f3 x : Str} {e1 e2 e3 : Expr} {p pos pos' : Pos} {m : EM (List W)} (hcalm : X.calm = true) (tk : L2N.Takes X U) (hk : c.ct[k]? = some C) (hf1 : c.fn[i1]? = some f1) (hf2 : c.fn[i2]? = some f2) (hf3 : c.fn[i3]? = some f3) (T : OexC X.K C)
    (iC : PySem.W.findIn X.K (.ref C) "__init__" = some (some (.ref fI))) (tI : PySem.W.typeIn X.K (.ref fI) = some (.type "function")) (Fn : FnS X.prog X.w X.K X.mg X.base j fI (spX3 C f1 f2 f3) []) (hr : Room (j + 1) X.A) (hg : Gl X x) (hm : X.mg x = some (.ref C)) (ha : EA c X U [e1, e2, e3] m)
    (hdb : (x == ("__debug__" : Str)) = false := by decide) (he : starEach [e1, e2, e3] X.env = (false, eval e1 X.env) :: starEach [e2, e3] X.env := by rfl) (hpl : (backTo pos (starEach [e2, e3] X.env)).any (·.1) = false := by rfl) : ES c X U (.Raise (some (.Call (.Name x p) [e1, e2, e3] [] pos)) none pos') (raiseS k [i3, i2, i1] (bnd m fun ws => pur ws.reverse)) := by
  obtain ⟨fd, ps, ds, F, kp, b, dd⟩ := Fn.ex
  refine ⟨ha.K, PS.imp (L2N.ps_raise hcalm tk (pmk_oexN T iC tI F hr b dd (passes_no rfl) hg hm ha.pa hdb he hpl)) fun D σ H ⟨ρ, G, s, hR, w⟩ => ?_⟩
  have w : Ws c U (bnd m fun ws => bnd (treesK ws.reverse) fun ds => if ds.length = [i3, i2, i1].length then thr k [i3, i2, i1] ds else non) ρ G H s (kD c D) := by
    have e2 : raiseS k [i3, i2, i1] (bnd m fun ws => pur ws.reverse) = bnd m fun ws => bnd (treesK ws.reverse) fun ds => if ds.length = [i3, i2, i1].length then thr k [i3, i2, i1] ds else non := by
      unfold raiseS
      rw [treesE_eq, bnd_assoc, bnd_assoc]
      rfl
    rw [← e2]
    exact w
  refine ⟨ρ, G, s, hR, (Ws.bndE hR w).imp fun ws ρ1 G1 H1 s1 ⟨S1, R1, w1⟩ vs rvs => ?_⟩
  cases ew : allD ws.reverse with
  | none => exact w1.none (by unfold treesK; rw [ew]; rfl)
  | some ds =>
    have e4 := allD_eq ew
    have e3 : (bnd (treesK ws.reverse) fun ds => if ds.length = [i3, i2, i1].length then (thr k [i3, i2, i1] ds : EM Fl) else non) = if ds.length = [i3, i2, i1].length then thr k [i3, i2, i1] ds else non := by
      unfold treesK
      rw [ew]
      rfl
    rw [e3] at w1
    by_cases hl : ds.length = [i3, i2, i1].length
    · rw [if_pos hl] at w1
      obtain ⟨d3, d2, d1, rfl⟩ : ∃ d3 d2 d1, ds = [d3, d2, d1] := by
        match ds, hl with
        | [d3, d2, d1], _ => exact ⟨d3, d2, d1, rfl⟩
      have ews : ws = [.d d1, .d d2, .d d3] := by
        have := congrArg List.reverse e4
        simpa using this
      subst ews
      have rd := RepWs.toD (ds := [d1, d2, d3]) rvs
      obtain ⟨y1, y2, y3, rfl, r1, r2, r3⟩ : ∃ y1 y2 y3, vs = [y1, y2, y3] ∧ RepD c G1 d1 y1 ∧ RepD c G1 d2 y2 ∧ RepD c G1 d3 y3 := by
        cases rd with
        | cons r1 t =>
          cases t with
          | cons r2 t =>
            cases t with
            | cons r3 t => cases t; exact ⟨_, _, _, rfl, r1, r2, r3⟩
      refine ⟨by simp, fun a ha0 => ⟨a, y1, y2, y3, rfl, upd_same, fun dx hdx hne => ⟨rfl, dx, [(f3, y3), (f2, y2), (f1, y1)], upd_same, by rw [upd_ne hne, upd_same], ?_, ?_⟩⟩⟩
      · rw [upd_ne hne] at hdx
        exact hdx
      · rw [upd_ne hne] at hdx
        have eq : upd (del (upd (upd (upd H1 a (exo a C none)) dx (exd dx [(f3, y3), (f2, y2), (f1, y1)])) a (exo a C (some dx))) a) dx (.xd [(f3, y3), (f2, y2), (f1, y1)]) = upd H1 dx (.xd [(f3, y3), (f2, y2), (f1, y1)]) := by
          funext b
          by_cases hb : b = dx
          · rw [hb, upd_same, upd_same]
          · rw [upd_ne hb, upd_ne hb]
            by_cases hba : b = a
            · rw [hba, del_same, ha0]
            · rw [del_ne hba, upd_ne hba, upd_ne hb, upd_ne hba]
        rw [eq]
        obtain ⟨S2, r0⟩ := new_frozen (o := .xd [(f3, y3), (f2, y2), (f1, y1)]) R1.rs hdx
        have en : ∀ {i : Nat} {f : Str}, c.fn[i]? = some f → c.nm i = f := fun {i f} hf => by
          unfold Kx.nm
          rw [List.getD_eq_getElem?_getD, hf]
          rfl
        refine w1 ρ1 _ σ _ (.ref C) (some dx) S2 ⟨r0, R1.env.mono S2.rho S2.same, R1.len⟩ ⟨C, hk, rfl, .inr ⟨dx, [y3, y2, y1], rfl, rfl, ?_, .cons (r3.mono S2.same) (.cons (r2.mono S2.same) (.cons (r1.mono S2.same) .nil))⟩⟩
        show upd G1 dx (.xd _) dx = some (.xd [(c.nm i3, y3), (c.nm i2, y2), (c.nm i1, y1)])
        rw [upd_same, en hf1, en hf2, en hf3]
    · rw [if_neg hl] at w1
      exact w1.none rfl
/-- a built-in class, asked of an own one -/
theorem kit_bt {K : PySem.W.Frag} {C : Addr} {T : String} {b : Bool} (hm : PySem.W.kitMeta T = true) (h : PySem.W.subIn K (.ref C) (.type T) = some b) : PySem.W.kitOne K (.ref C) (.type T) = some b := by
  unfold PySem.W.kitOne
  rw [if_neg (by simp)]
  unfold PySem.W.kitCls
  simp only [hm, if_true]
  exact h
theorem ExcC.xf {K : PySem.W.Frag} {C : Addr} (h : ExcC K C) : XfC K C := ⟨h.hg, h.hk, h.hs, h.hd⟩
/-- an except clause's class, of the classes that may come -/
theorem ExL.nil {c : Kx} {cv : Value} {cs : List Nat} : ExL c cv [] cs := fun _ h => by cases h
theorem ExL.cons {c : Kx} {cv : Value} {k : Nat} {ks cs : List Nat} {C0 : Addr} (hC : c.ct[k]? = some C0) (h : PySem.W.exmOne c.K (.ref C0) cv = some (cs.contains k)) (r : ExL c cv ks cs) : ExL c cv (k :: ks) cs := fun j hj C e => by
  rcases List.mem_cons.mp hj with rfl | hj
  · rw [hC] at e
    cases e
    exact h
  · exact r j hj C e
theorem XfL.nil {c : Kx} {f : Str} : XfL c f [] := fun _ h => by cases h
theorem XfL.cons {c : Kx} {f : Str} {k : Nat} {ks : List Nat} {C0 : Addr} (hC : c.ct[k]? = some C0) (h : XfC c.K C0) (h2 : PySem.W.findIn c.K (.ref C0) f = some none) (r : XfL c f ks) : XfL c f (k :: ks) := fun j hj C e => by
  rcases List.mem_cons.mp hj with rfl | hj
  · rw [hC] at e
    cases e
    exact ⟨h, h2⟩
  · exact r j hj C e
/-! own objects handed as they stand, to a def that tells an atom -/
def allS (st : Store) : List W → Option (List D)
  | [] => some []
  | w :: r => match snapD st w, allS st r with
    | some d, some ds => some (d :: ds)
    | _, _ => none
def atomD : D → Bool
  | .non | .bl _ | .int _ | .str _ => true
  | _ => false
def gS (np : Nat) (F : FP) (ws : List W) : EM W := fun s => if ws.length = np then match allS s.st ws with
    | some ds => match F ds with
      | some (.ok d) => if atomD d then some (.ok (.d d), s) else none
      | _ => none
    | none => none
  else none
theorem allS_ok {c : Kx} {ρ : Rho} {G H : Hp} {st : Store} (r : RS c ρ G H st) : ∀ {ws : List W} {vs : List V} {ds : List D}, RepWs c ρ G ws vs → allS st ws = some ds → RepDs c H ds vs ∧ ds.length = ws.length
  | [], _, _, h, e => by cases h; cases e; exact ⟨.nil, rfl⟩
  | w :: ws, _, ds, ⟨v, vs, q, hv, t⟩, e => by
    subst q
    unfold allS at e
    cases h1 : snapD st w with
    | none => simp only [h1] at e; cases e
    | some d =>
      cases h2 : allS st ws with
      | none => simp only [h1, h2] at e; cases e
      | some ds' =>
        simp only [h1, h2] at e
        cases e
        obtain ⟨G', s', r'⟩ := snap_ok r hv h1
        obtain ⟨t1, t2⟩ := allS_ok r t h2
        exact ⟨.cons (r'.mono s') t1, congrArg (· + 1) t2⟩
theorem spA_S {c : Kx} {np : Nat} {F : FP} : SpA c (spP c np F) (gS np F) := fun U ρ G H σ s ws vs Q hR r w => by
  by_cases hl : ws.length = np
  · cases e : allS s.st ws with
    | none => exact w.none (by unfold gS; rw [if_pos hl, e])
    | some ds =>
      obtain ⟨rd, el⟩ := allS_ok hR.rs r e
      refine ⟨H, ds, Same.refl _, rd, by rw [el]; exact hl, ?_⟩
      cases q : F ds with
      | none => exact w.none (by unfold gS; rw [if_pos hl, e]; simp only [q])
      | some o =>
        cases o with
        | ex C ks es => exact w.none (by unfold gS; rw [if_pos hl, e]; simp only [q])
        | ok d =>
          by_cases ha : atomD d = true
          · intro v G' H' g rd'
            have sH := g.sH
            have es : gS np F ws s = some (.ok (.d d), s) := by unfold gS; rw [if_pos hl, e]; simp only [q, ha, if_true]
            have rs : RS c ρ G H' s.st := ⟨hR.rs.sub.trans sH, hR.rs.len, fun n p o hp ho => by
              obtain ⟨b1, b2, b3⟩ := hR.rs.own n p o hp ho
              exact ⟨b1, b2, b3.mono (Rle.refl _) (Same.refl _) (fun o e => sH _ o e) (fun o e => sH _ o e)⟩, hR.rs.inj⟩
            have S : Stp ρ G H s.st ρ G H' s.st := ⟨Same.refl _, Rle.refl _, fun _ o' _ h => ⟨o', h⟩, fun a u h _ => sH a u h, fun a u h => ⟨u, sH a u h⟩, fun a u h h' => (by rw [h] at h'; cases h'), fun n p h h' => absurd (List.getElem?_eq_some_iff.mp h').1 (by omega)⟩
            refine Wp.okE es w ρ G H' S ⟨rs, hR.env, hR.len⟩ v ?_
            show RepD c G d v
            cases d with
            | non => cases rd'; exact .non
            | bl b => cases rd'; exact .bl b
            | int i => cases rd'; exact .int i
            | str z => cases rd'; exact .str z
            | _ => cases ha
          · exact w.none (by unfold gS; rw [if_pos hl, e]; simp only [q, ha]; rfl)
  · exact w.none (by unfold gS; rw [if_neg hl])
theorem rb_gS {β : Type} {np : Nat} {F : FP} {ws : List W} {ds : List D} {d : D} {env : List (Option W)} {st : Store} {Q : Out β → SS → Prop} {k : W → EM β} (e : allS st ws = some ds) (hn : ws.length = np) (h : F ds = some (.ok d)) (ha : atomD d = true) (hk : Run (k (.d d)) ⟨env, st⟩ Q) : Run (bnd (gS np F (ws ++ [])) k) ⟨env, st⟩ Q := by
  refine rb_eq (s1 := ⟨env, st⟩) (a := W.d d) ?_ hk
  rw [List.append_nil]
  unfold gS
  simp only [e, h, ha, if_true, if_pos hn]
theorem allS_1 {st : Store} {n : Nat} {ws : List W} {ds : List D} (e : st[n]? = some (some (.lst ws))) (e2 : allD ws = some ds) : allS st [.loc n] = some [.lst ds] := by
  unfold allS
  rw [snap_lst e e2]
  rfl
end EV
/-! EV29: the less and the greater of two whole numbers. -/
namespace EV
open PySem PySem.Spec PyProof.Rows L2
def min2W (st : Store) : List W → Option (W × Store)
  | [.d (.int i), .d (.int j)] => some (.d (.int (if j < i then j else i)), st)
  | _ => none
def max2W (st : Store) : List W → Option (W × Store)
  | [.d (.int i), .d (.int j)] => some (.d (.int (if j > i then j else i)), st)
  | _ => none
theorem sn_min2 {c : Kx} : SN c (fun xs H Q => ∃ i j, xs = [.int i, .int j] ∧ Q (.int (if j < i then j else i)) H) min2W := fun ρ G H st xs w st' vs Q r rv e q => by
  unfold min2W at e
  split at e
  · cases e
    obtain ⟨v1, r1, rfl, h1, h2⟩ := rv
    obtain ⟨v2, r2, rfl, h3, h4⟩ := h2
    have h4 : r2 = [] := h4
    subst h4
    cases h1
    cases h3
    exact ⟨_, _, rfl, q _ ρ G H Stp.refl r (.int _)⟩
  · cases e
theorem sn_max2 {c : Kx} : SN c (fun xs H Q => ∃ i j, xs = [.int i, .int j] ∧ Q (.int (if j > i then j else i)) H) max2W := fun ρ G H st xs w st' vs Q r rv e q => by
  unfold max2W at e
  split at e
  · cases e
    obtain ⟨v1, r1, rfl, h1, h2⟩ := rv
    obtain ⟨v2, r2, rfl, h3, h4⟩ := h2
    have h4 : r2 = [] := h4
    subst h4
    cases h1
    cases h3
    exact ⟨_, _, rfl, q _ ρ G H Stp.refl r (.int _)⟩
  · cases e
section
variable {β : Type} {env : List (Option W)} {st : Store} {Q : Out β → SS → Prop} {k : W → EM β}
theorem rl_min2 {i j : Int} (h : Run (k (.d (.int (if j < i then j else i)))) ⟨env, st⟩ Q) : Run (bnd (lft fun st => min2W st [.d (.int i), .d (.int j)]) k) ⟨env, st⟩ Q := rb_lft rfl h
theorem rl_max2 {i j : Int} (h : Run (k (.d (.int (if j > i then j else i)))) ⟨env, st⟩ Q) : Run (bnd (lft fun st => max2W st [.d (.int i), .d (.int j)]) k) ⟨env, st⟩ Q := rb_lft rfl h
end
end EV
/-! EV30: calls of defs within an except suite (the exception is tracked), a list made over a range there. -/
namespace EV
open PySem PySem.Spec PyProof.Rows L2
/-- room, whatever is handled -/
structure RoomT (k : Nat) (A : Around) : Prop where
  low : A.depth + 3 * k + 5 < recursionLimit
  few : A.units + 16 * k + 200 < cLine
theorem RoomT.mono {j k : Nat} {A : Around} (r : RoomT k A) (h : j ≤ k) : RoomT j A := ⟨by have := r.low; omega, by have := r.few; omega⟩
theorem RoomT.deeper {k : Nat} {A : Around} (r : RoomT (k + 1) A) (env : Env) : RoomT k (A.deeper env) := by
  obtain ⟨h1, h2⟩ := r
  refine ⟨?_, ?_⟩
  · show A.depth + 1 + 3 * k + 5 < _
    omega
  · show A.units + 3 + 16 * k + 200 < _
    omega
theorem RoomT.marked {k : Nat} {A : Around} (r : Room k A) (h : Option Value) : RoomT k (A.mark h) := ⟨r.dp, r.un⟩
theorem RoomT.here {k : Nat} {A : Around} (r : RoomT k A) : A.depth < recursionLimit := by
  have := r.low
  omega
theorem RoomT.units {k : Nat} {A : Around} (r : RoomT k A) : A.units + 64 < cLine := by
  have := r.few
  omega
theorem room65T {k : Nat} {A : Around} (r : RoomT k A) : A.units + 65 < cLine := by
  have := r.few
  omega
/-- what a def promises, whatever is handled -/
structure FnT (P : Program) (w : World) (K : PySem.W.Frag) (mg : Str → Option Value) (base : Heap) (CXk : CXT) (k : Nat) (f : Addr) (fd : FuncData) (ps : List Str) (spc : Sp) : Prop where
  arity : ∀ vs H Q E, spc vs H Q E → vs.length = ps.length
  runs : ∀ (A : Around) (outer : List Env) (s : Shared) (H : Hp) (args : Args) (us : List Value) (vs : List V) (Q : VK) (E : XK), RoomT k A → Env0 P w K mg base A outer s H →
    BindsTo s fd args (ps.zip us) → Vals vs us → spc vs H Q E → codeAny (model P w) A (.call (.ref f) args) (CR CXk outer P w H s Q E) s
/-- the context of such a def's body -/
abbrev cxT (CXk : CXT) (P : Program) (w : World) (K : PySem.W.Frag) (mg : Str → Option Value) (base : Heap) (N : List Str) (qual : Str) (sc : Scope) (f : Addr) (cd : Value) (A : Around) (outer : List Env) (s : Shared) (H : Hp) (E : XK) : Cx :=
  { cxOf CXk P w K mg base N qual sc f cd A outer s H E with calm := false }
theorem env0_mark {P : Program} {w : World} {K : PySem.W.Frag} {mg : Str → Option Value} {base : Heap} {A : Around} {outer : List Env} {s : Shared} {H : Hp} (e : Env0 P w K mg base A outer s H) :
    Env0 P w K mg base { A with handled := none } outer s H := ⟨e.frames, e.mod, e.bs, e.bsz, e.funs, e.frf, e.hok, e.bare⟩
theorem startT {CXk : CXT} {P : Program} {w : World} {K : PySem.W.Frag} {mg : Str → Option Value} {base : Heap} {N ps : List Str} {qual : Str} {sc : Scope} {f : Addr} {cd : Value} {A : Around} {outer : List Env} {s s1 : Shared} {H : Hp} {E : XK} {us : List Value} {vs : List V}
    (S : FnScope N ps sc) (e0 : Env0 P w K mg base A outer s H) (hl : vs.length = ps.length) (r : Vals vs us)
    (x : InCallC s s.heap.objs.size (bindL (envOfC qual sc s.heap.objs.size f cd).kindOf (ps.zip us) fun _ => none) (cellsFrom (s.heap.objs.size + 1) sc.names []) (bindC (envOfC qual sc s.heap.objs.size f cd).kindOf (ps.zip us) fun _ => none) s1) :
    L2.Inv (cxT CXk P w K mg base N qual sc f cd A outer s H E) [] (L2.start N vs) H s1 := by
  have I := inv_start (CX := CXk) (E := E) (A := { A with handled := none }) S rfl (env0_mark e0) hl r x
  have k := I.ok
  exact ⟨⟨k.mod, k.kind, k.glob, k.blt, k.above, k.inj, k.has, k.cab, fun z => Bool.noConfusion z, Around.frames_deeper e0.frames, k.stk, k.exf, k.bs, k.bsz, k.noex, k.exfs, k.funs, k.frf⟩,
    I.os, I.bare, I.base, I.loc, I.cell, I.free, I.freeC, I.pin, I.hok, I.len⟩
theorem fnT_of {CXk : CXT} {P : Program} {w : World} {K : PySem.W.Frag} {mg : Str → Option Value} {base : Heap} {k : Nat} {f : Addr} {nm qual : Str} {prm : Arguments} {bd : List Stmt} {sc : Scope} {dV kV dc m cdv t oc : Value} {an od : Option Addr}
    {osl : Array (Option Value)} {N ps : List Str} {spc : Sp} (look : K.lookup f = some ⟨oc, od, .func (PySem.W.fnOf nm qual prm bd sc dV kV dc m an cdv t), osl⟩) (code : PySem.W.codeIn K cdv qual = true) (S : FnScope N ps sc)
    (arity : ∀ vs H Q E, spc vs H Q E → vs.length = ps.length)
    (body : ∀ (A : Around) (outer : List Env) (s : Shared) (H : Hp) (vs : List V) (Q : VK) (E : XK), RoomT k (A.deeper (envOfC qual sc s.heap.objs.size f cdv)) → spc vs H Q E →
      ∃ rd, PSs (cxT CXk P w K mg base N qual sc f cdv A outer s H E) bd rd ∧ rd { nx := fun _ Hn => Q .non Hn, rt := Q } (L2.start N vs) H) :
    FnT P w K mg base CXk (k + 1) f (PySem.W.fnOf nm qual prm bd sc dV kV dc m an cdv t) ps spc := by
  refine ⟨arity, fun A outer s H args us vs Q E room e0 bind rel asks => ?_⟩
  have many := arity _ _ _ _ asks
  have inK : K.In s.heap := e0.mod.kin.keeps fun b o z => (e0.bs b o z).1
  have noLim : s.heap.NoLimit := e0.mod.nolimit.keeps fun b o z => (e0.bs b o z).1
  have kinds : ∀ y ∈ ps.zip us, sc.names.lookup y.1 = some .local ∨ (sc.names.lookup y.1 = some .cell ∧ ((cellsFrom (s.heap.objs.size + 1) sc.names []).lookup y.1).isSome = true) := fun ⟨n, v⟩ hy =>
    (S.par n (List.of_mem_zip hy).1).elim .inl fun q => .inr ⟨q, PySem.W.cellsFrom_some _ _ _ (.inl q)⟩
  refine codeAny_call_function room.here (inK _ _ look) rfl S.co S.gen rfl (PySem.W.codeRec_of inK code) (bind _ _ _ _ ?_)
  refine wpAny_newFunctionEnv_cells S.kind kinds fun env he s1 x => ?_
  subst he
  refine ⟨noLim.keeps x.toInCall.keep, codeAny_func ?_⟩
  obtain ⟨rd, run, wish⟩ := body A outer s H vs Q E (room.deeper _) asks
  have J := startT (CXk := CXk) (E := E) S e0 many rel x
  refine wpAny_mono (run.run [] s1 (L2.start N vs) H _ J wish) (fun fl s' got => ?_) fun e s' z => z
  have ends : ∀ {σ' : L2.St} {H' : Hp} {v : V} {u : Value}, L2.Inv (cxT CXk P w K mg base N qual sc f cdv A outer s H E) [] σ' H' s' → RelV v u → Q v H' → CE outer P w H s Q u s' :=
    fun {σ' H' v u} J2 rv q => ⟨v, H', J2.os, J2.bare, J2.base, J2.hok, rv, q⟩
  cases fl with
  | brk =>
    obtain ⟨_, _, _, z⟩ := got
    exact z.elim
  | cont =>
    obtain ⟨_, _, _, z⟩ := got
    exact z.elim
  | next =>
    obtain ⟨σ', H', J2, q⟩ := got
    exact ends (v := V.non) (u := Value.none) J2 rfl q
  | ret u =>
    obtain ⟨v, σ', H', J2, rv, q⟩ := got
    exact ends J2 rv q
/-- at f stands a def that keeps spc, whatever is handled -/
structure FnST (P : Program) (w : World) (K : PySem.W.Frag) (mg : Str → Option Value) (base : Heap) (k : Nat) (f : Addr) (spc : Sp) : Prop where
  ex : ∃ (fd : FuncData) (ps : List Str), FnT P w K mg base (L2N.CX P w) k f fd ps spc ∧ PySem.W.keepIn K (.ref f) = true ∧ Binds K fd ps []
theorem FnST.mono {P : Program} {w : World} {K : PySem.W.Frag} {mg : Str → Option Value} {base : Heap} {j k : Nat} {f : Addr} {spc : Sp} (h : FnST P w K mg base j f spc) (hk : j ≤ k) : FnST P w K mg base k f spc := by
  obtain ⟨fd, ps, F, a, b⟩ := h.ex
  exact ⟨fd, ps, ⟨F.arity, fun A outer s H args us vs Q E r => F.runs A outer s H args us vs Q E (r.mono hk)⟩, a, b⟩
theorem FnST.P {P : Program} {w : World} {mg : Str → Option Value} {base : Heap} {c : Kx} {k : Nat} {f : Addr} {np : Nat} {F : FF} (h : FnST P w c.K mg base k f (spF c np F)) : FnST P w c.K mg base k f (spP c np (pureP F)) := by
  obtain ⟨fd, ps, F, a, b⟩ := h.ex
  exact ⟨fd, ps, ⟨fun vs H Q E q => F.arity vs H Q E (spP_of q), fun A outer s H args us vs Q E r e0 bi rel q => F.runs A outer s H args us vs Q E r e0 bi rel (spP_of q)⟩, a, b⟩
abbrev cxET (P : Program) (w : World) (c : Kx) (mg : Str → Option Value) (base : Heap) (N : List Str) (qual : Str) (st : Stmt) (f : Addr) (cdv : Value) (A : Around) (outer : List Env) (s : Shared) (H : Hp) (E : XK) : Cx :=
  cxT (L2N.CX P w) P w c.K mg base N qual (defScope st) f cdv A outer s H E
theorem FnST.of {P : Program} {w : World} {mg : Str → Option Value} {base : Heap} {c : Kx} {x qual : Str} {sd : Stmt} {f : Addr} {N ps : List Str} {k : Nat} {m : EM Fl} (D : DefAt c.K x qual sd f ps) (S : FnScope N ps (defScope sd)) (hn : ps.length ≤ N.length)
    (hb : ∀ (cdv : Value) (A : Around) (outer : List Env) (s : Shared) (H : Hp) (E : XK), RoomT k (A.deeper (envOfC qual (defScope sd) s.heap.objs.size f cdv)) → ESs c (cxET P w c mg base N qual sd f cdv A outer s H E) (wx E) (defBody sd) m) :
    FnST P w c.K mg base (k + 1) f (spF c ps.length (bodyF N.length m)) := by
  obtain ⟨fd, F, b⟩ := D.ex
  obtain ⟨co, cd, vK, dc, mm, an, cdv, t, os, rfl, look, code⟩ := F.ex
  exact ⟨_, ps, fnT_of look code S (fun vs H Q E h => h.len) fun A outer s H vs Q E hr h => ⟨_, (hb cdv A outer s H E hr).ps, wish_of h⟩, F.kp, b⟩
section
variable {X : Cx} {c : Kx} {U : WX} {k : Nat} {f : Addr} {spc : Sp} {x : Str} {p pos : Pos} {e : Expr} {es : List Expr} {m : EM (List W)} {g : List W → EM W}
theorem run_T {pins : List (Addr × Obj)} {σ : L2.St} {H : Hp} {s : Shared} {Q : VK} {us : List Value} {vs : List V} (F : FnST X.prog X.w X.K X.mg X.base k f spc) (room : RoomT k X.A) (tk : L2N.Takes X U)
    (I : L2.Inv X pins σ H s) (rel : Vals vs us) (asks : spc vs H Q (WE U σ)) : wpAny (model X.prog X.w) X.A (call (.ref f) us) (EP X pins σ Q) X.xe s := by
  obtain ⟨fd, ps, Fn, _, bi⟩ := F.ex
  have many : us.length = ps.length := rel.length.symm.trans (Fn.arity _ _ _ _ asks)
  have b := bi s us I.kIn (by rw [List.append_nil]; exact many)
  rw [List.append_nil] at b
  refine wpAny_call (codeAny_mono (Fn.runs X.A X.stack s H ⟨us, []⟩ us vs Q (WE U σ) room I.env0 b rel asks) fun res s' got => ?_)
  match res, got with
  | .error er, got => exact L2N.passAt tk σ pins H s er s' I got
  | .ok (.ret u), got => exact I.after got
  | .ok .next, got => exact got.elim
  | .ok .brk, got => exact got.elim
  | .ok .cont, got => exact got.elim
theorem pe_clT {t : TA} (F : FnST X.prog X.w X.K X.mg X.base k f spc) (room : RoomT k X.A) (tk : L2N.Takes X U) (hg : Gl X x) (hm : X.mg x = some (.ref f)) (ha : PA X (e :: es) t)
    (hdb : (x == ("__debug__" : Str)) = false := by decide) (he : starEach (e :: es) X.env = (false, eval e X.env) :: starEach es X.env := by rfl) (hpl : (backTo pos (starEach es X.env)).any (·.1) = false := by rfl) :
    PE X (.Call (.Name x p) (e :: es) [] pos) (tCl spc [] U t) := ⟨fun pins s σ H Q I h => by
  have kp : PySem.W.keepIn X.K (.ref f) = true := by
    obtain ⟨_, _, _, kp, _⟩ := F.ex
    exact kp
  refine wpAny_Call_Name_kw (ld_glob I hg hm (PySem.W.callWith_K (h₀ := X.base) I.ok.mod.kin kp ?_ he hpl) hdb)
  refine thn (ha.run pos pins s σ H _ I h) fun us s1 ⟨vs, H1, I1, r, q⟩ => ⟨I1.kIn, run_T F room tk I1 r ?_⟩
  have q : spc (vs ++ []) H1 Q (WE U σ) := q
  rw [List.append_nil] at q
  exact q⟩
theorem ee_callT (hs : SpA c spc g) (F : FnST X.prog X.w X.K X.mg X.base k f spc) (room : RoomT k X.A) (tk : L2N.Takes X U) (hg : Gl X x) (hm : X.mg x = some (.ref f)) (ha : EA c X U (e :: es) m)
    (hdb : (x == ("__debug__" : Str)) = false := by decide) (he : starEach (e :: es) X.env = (false, eval e X.env) :: starEach es X.env := by rfl) (hpl : (backTo pos (starEach es X.env)).any (·.1) = false := by rfl) :
    EE c X U (.Call (.Name x p) (e :: es) [] pos) (callE g [] m) :=
  EE.mk1 ha.K (pe_clT F room tk hg hm ha.pa hdb he hpl) fun ρ G s σ H Q hR w => wp_cl (dvs := []) hs DefOk.nil hR w
end
end EV
/-! EV31: a list made over a range while a tracked exception is handled. -/
namespace EV
open PySem PySem.Spec PyProof.Rows L2
/-- the range's turns, ended only where the exception at a is tracked -/
def ItrT (lo : Int) (n : Nat) (a : Addr) : It := ⟨(Itr lo n).go, (Itr lo n).yld, fun i H => n ≤ i ∧ ∃ cls d, H a = some (excT a cls d)⟩
abbrev RgI (lo : Int) (n : Nat) (it : Addr) (i : Nat) (h : Heap) : Prop := IsRangeIter h it (lo + (i : Nat) * 1) ((n : Int) - (i : Nat)) 1
section
variable {X : Cx} {pins : List (Addr × Obj)} {s : Shared} {σ : L2.St} {H : Hp} {E : Value → Shared → Prop}
theorem turnT_item {tg : Expr} {it : Addr} {lo : Int} {n i : Nat} (I : L2.Inv X pins σ H s) (own : FpOk X pins H it) (st : RgI lo n it i s.heap) (lt : i < n) :
    wpAny (model X.prog X.w) X.A (pyNext (.ref it)) (fun r s1 => ∃ u, r = some u ∧
      wpAny (model X.prog X.w) X.A (letOwnedTupleGo tg (.ref it) u) (fun _ s2 => L2.Inv X pins σ H s2 ∧ RelV (.int (lo + i)) u ∧ RgI lo n it (i + 1) s2.heap) E s1) E s := by
  obtain ⟨f0, f1, f2, f3, f4, f5⟩ := own
  refine wpAny_pyNext_range_item st (by omega) fun h2 st2 sb => ?_
  have next : RgI lo n it (i + 1) h2 := by
    have a1 : lo + (i : Int) * 1 + 1 = lo + ((i + 1 : Nat) : Int) * 1 := by omega
    have a2 : (n : Int) - (i : Int) - 1 = (n : Int) - ((i + 1 : Nat) : Int) := by omega
    show IsRangeIter h2 it (lo + ((i + 1 : Nat) : Int) * 1) ((n : Int) - ((i + 1 : Nat) : Int)) 1
    rw [← a1, ← a2]
    exact st2
  have J : L2.Inv X pins σ H { s with heap := h2, toks := s.toks + 1 } := I.turned (fun b o ne z => (sb.2 b ne).trans z) f0 f1 f3 f4 f5
  refine ⟨_, rfl, go_of (s := { s with heap := h2, toks := s.toks + 1 }) (n := "range_iterator") next rfl rfl (by decide) ⟨J, ⟨s.toks, ?_⟩, next⟩⟩
  rw [Int.mul_one]
theorem turnT_done {it a : Addr} {lo : Int} {n i : Nat} (hot : X.A.handled = some (.ref a)) (I : L2.Inv X pins σ H s) (own : FpOk X pins H it) (st : RgI lo n it i s.heap) (stop : (ItrT lo n a).stop i H) :
    wpAny (model X.prog X.w) X.A (pyNext (.ref it)) (fun r s1 => r = none ∧ L2.Inv X pins σ H s1) E s := by
  obtain ⟨f0, f1, f2, f3, f4, f5⟩ := own
  obtain ⟨le, cls, d, tracked⟩ := stop
  obtain ⟨o, ho, hz, vs, hv⟩ := excT_at I.hok tracked
  exact HotX.pyNext_range_end_hot (x1 := a) ⟨hot, o, vs, ho, hv, hz.2.2 vs hv⟩ st (by omega) fun h2 eb => ⟨rfl, I.turned (t' := s.toks) (fun b o _ z => eb b o z) f0 f1 f3 f4 f5⟩
/-- a range has come, as an iterator -/
def RgE (X : Cx) (pins : List (Addr × Obj)) (σ : L2.St) (a : Addr) (R : It → Hp → Prop) (v : Value) (s2 : Shared) : Prop :=
  ∃ (it : Addr) (lo : Int) (n : Nat) (H2 : Hp), v = .ref it ∧ L2.Inv X pins σ H2 s2 ∧ RgI lo n it 0 s2.heap ∧ FpOk X pins H2 it ∧ R (ItrT lo n a) H2
structure PIT (X : Cx) (a : Addr) (iter : Expr) (wi : TI) : Prop where
  run : ∀ (pins : List (Addr × Obj)) (s : Shared) (σ : L2.St) (H : Hp) (R : It → Hp → Prop), L2.Inv X pins σ H s → wi σ H R →
    wpAny (model X.prog X.w) X.A (eval iter X.env) (fun v s1 => wpAny (model X.prog X.w) X.A (pyIter v) (RgE X pins σ a R) X.xe s1) X.xe s
theorem pit_range1 {a : Addr} {e : Expr} {t : TA} {p pos : Pos} (hg : Gl X "range") (hm : X.mg "range" = none) (ha : PA X [e] t) (hs : starEach [e] X.env = [(false, eval e X.env)] := by rfl) :
    PIT X a (.Call (.Name "range" p) [e] [] pos) (fun σ H R => t σ H fun vs H1 => ∃ j : Int, vs = [.int j] ∧ -(2 ^ 62) ≤ j ∧ j < 2 ^ 62 ∧ R (ItrT 0 j.toNat a) H1) := by
  refine ⟨fun pins s σ H R I h => ?_⟩
  refine Call_ (ld_blt I hg hm boot_range (PyProof.Rows.callWith_type1 (thn (ha.run pos pins s σ H _ I h) fun us s1 ⟨vs, H1, I1, rel, j, e, q1, q2, q⟩ => ?_) hs rfl))
  subst e
  cases rel with
  | cons r rr =>
    cases rr
    obtain ⟨t1, rfl⟩ := r
    refine call_range_1 ?_
    refine wpAny_pyIter_range (IsRange.new ..) (small_one (by omega) (by omega) q1 q2) ?_
    refine ⟨_, 0, j.toNat, H1, rfl, (I1.kept fun b o z => Heap.get?_push_of_some _ z).kept fun b o z => Heap.get?_push_of_some _ z, ?_, ?_, q⟩
    · have a1 : (0 : Int) + ((0 : Nat) : Int) * 1 = 0 := by simp
      have a2 : ((j.toNat : Nat) : Int) - ((0 : Nat) : Int) = Builtin.Range.rangeSize 0 j 1 := by
        rw [rangeSize_one]
        split <;> omega
      show IsRangeIter _ _ ((0 : Int) + ((0 : Nat) : Int) * 1) (((j.toNat : Nat) : Int) - ((0 : Nat) : Int)) 1
      rw [a1, a2]
      exact Heap.get?_push_size _ rfl
    · refine Inv.fpOk (s := { s1 with heap := s1.heap.push _, toks := s1.toks }) (I1.kept fun b o z => Heap.get?_push_of_some _ z) (Nat.le_refl _) ?_
      exact (I1.hok.kept (h' := s1.heap.push _) fun b o z => Heap.get?_push_of_some _ z).fresh (Nat.le_refl _)
end
end EV
/-! EV32: the comprehension over such a range; the suite's rules. -/
namespace EV
open PySem PySem.Spec PyProof.Rows L2
section
variable {X : Cx}
theorem pe_lcT {a : Addr} {elt tg iter : Expr} {ifs : List Expr} {scope : Scope} {own : List (Str × Nat)} {pos : Pos} {wi : TI} {g : TG} {tt : TT} {te : TE} (hot : X.A.handled = some (.ref a)) (nd : X.N.Nodup) (hi : PIT X a iter wi) (ok : BlkOk X.N X.env.scope scope own)
    (hg : ∀ (s : Shared) (H : Hp) (C : Addr) (cl : List (Str × Addr)) (fp : List Addr), PG (X.blk s H scope (compEnvC scope cl C X.env) fp) tg g)
    (ht : ∀ (s : Shared) (H : Hp) (C : Addr) (cl : List (Str × Addr)) (fp : List Addr), PTs (X.blk s H scope (compEnvC scope cl C X.env) fp) ifs tt)
    (he : ∀ (s : Shared) (H : Hp) (C : Addr) (cl : List (Str × Addr)) (fp : List Addr), PE (X.blk s H scope (compEnvC scope cl C X.env) fp) elt te)
    (hs : ∀ x, foldedSetIterable iter X.env x = pure x := by intro _; rfl) : PE X (.ListComp elt [⟨tg, iter, ifs, 0⟩] scope pos) (tLc wi g tt te (own.map (·.2))) := by
  refine ⟨fun pins s0 σ H0 Q I0 want => ?_⟩
  rw [eval_ListComp]
  have caught : ∀ y ∈ scope.names, y.2 = .free → ∃ c, X.env.cells.lookup y.1 = some c := fun y hy e => (ok.free y hy e).elim (fun k => I0.ok.has _ (.inl k)) fun k => I0.ok.has _ (.inr k)
  refine wpAny_comprehension_free (use := none) rfl hs (closure_ok caught) ok.kind (fun y hy e => by rw [ok.uniq y hy, e]) (thn (hi.run pins s0 σ H0 _ I0 want) fun xv s1 hx => thn hx fun itv s2 came => ?_)
  obtain ⟨it, lo, n, H2, rfl, I2, st2, own2, q⟩ := came
  refine wpAny_newObj_type (newEnv_comp ?_) (by show 0 ≤ sizeLine; decide)
  generalize hD : s2.heap.objs.size = L
  have newL : H2 L = none := I2.hok.fresh (Nat.le_of_eq hD)
  obtain ⟨W, ⟨m0, w0⟩, turn⟩ := q L newL
  generalize hs3 : ({ s2 with heap := s2.heap.push { cls := .type "list", data := .seq ([] : List Value).toArray } } : Shared) = u3
  have heap3 : u3.heap = s2.heap.push { cls := .type "list", data := .seq ([] : List Value).toArray } := by rw [← hs3]
  have I3 : L2.Inv X pins σ (upd H2 L (.lst [])) u3 := by
    rw [← hs3]
    refine I2.laid (t' := s2.toks) (fun b o z => Heap.get?_push_of_some _ z) (Nat.le_of_eq hD) ⟨Nat.zero_le _, [], 0, .nil, ?_⟩
    rw [← hD]
    exact Heap.get?_push_size _ rfl
  have small : it < s2.heap.objs.size := Heap.lt_size st2
  have own3 : ∀ b ∈ [it], FpOk X pins (upd H2 L (.lst [])) b ∧ b < u3.heap.objs.size := fun b hb => by
    obtain rfl : b = it := by simpa using hb
    refine ⟨⟨?_, own2.2⟩, by rw [heap3, Heap.size_push]; exact Nat.lt_succ_of_lt small⟩
    rw [upd_ne (by rw [← hD]; exact Nat.ne_of_lt small)]
    exact own2.1
  have st3 : RgI lo n it 0 u3.heap := by
    rw [heap3]
    exact Heap.get?_push_of_some _ st2
  have I4 := block_start I3 ok nd own3
  have pg := hg u3 (upd H2 L (.lst [])) u3.heap.objs.size (cellsFrom (u3.heap.objs.size + 1) scope.names (cloFrom X.env.cells scope.names [])) [it]
  have pt := ht u3 (upd H2 L (.lst [])) u3.heap.objs.size (cellsFrom (u3.heap.objs.size + 1) scope.names (cloFrom X.env.cells scope.names [])) [it]
  have pe := he u3 (upd H2 L (.lst [])) u3.heap.objs.size (cellsFrom (u3.heap.objs.size + 1) scope.names (cloFrom X.env.cells scope.names [])) [it]
  show codeAny _ _ (.compStart (.ListComp elt [⟨tg, iter, ifs, 0⟩] scope pos) 0 (.ref it) (.ref L) (compEnvC scope (cellsFrom (u3.heap.objs.size + 1) scope.names (cloFrom X.env.cells scope.names [])) u3.heap.objs.size X.env)) (compPost (model X.prog X.w) X.A X.xe none (EP X pins σ Q) (.ref L) u3.heap.objs.size) { u3 with heap := pushCells (u3.heap.push { cls := .type "dict", data := .dict #[] }) scope.names }
  generalize hce : compEnvC scope (cellsFrom (u3.heap.objs.size + 1) scope.names (cloFrom X.env.cells scope.names [])) u3.heap.objs.size X.env = ev at I4 pg pt pe ⊢
  have evL : ev.locals = u3.heap.objs.size := by subst hce; rfl
  have none3 : (upd H2 L (.lst [])) it = none := (own3 it (by simp)).1.1
  generalize hH3 : upd H2 L (.lst []) = H3 at I3 I4 pg pt pe w0 none3 own3
  generalize hs4 : ({ u3 with heap := pushCells (u3.heap.push { cls := .type "dict", data := .dict #[] }) scope.names } : Shared) = u4 at I4 ⊢
  have st4 : RgI lo n it 0 u4.heap := by
    rw [← hs4]
    exact pushCells_keeps _ _ _ _ (Heap.get?_push_of_some _ st3)
  have mine : ∀ {σ' : L2.St} {H' : Hp} {s' : Shared}, L2.Inv (X.blk u3 H3 scope ev [it]) [] σ' H' s' → H' it = none → FpOk (X.blk u3 H3 scope ev [it]) [] H' it := fun {σ' H' s'} J no =>
    ⟨no, (J.ok.exf it (by simp)).1, J.ok.exfs it (by simp), .inl (by simp), fun x c e => (J.ok.exf it (by simp)).2 x c e, fun p hp => absurd (show p ∈ ([] : List (Addr × Obj)) ++ [] from hp) (by simp)⟩
  have last : ∀ (s' : Shared) (m : Str → Option Value) (H' : Hp), L2.Inv X pins σ H' s' → Q (.ref L) H' → s'.heap.Ns u3.heap.objs.size m → FpOk X pins H' u3.heap.objs.size →
      compPost (model X.prog X.w) X.A X.xe none (EP X pins σ Q) (.ref L) u3.heap.objs.size (.ok .next) s' := fun s' m H' J qq hn f => ⟨m, hn, fun h2 sb => by
    obtain ⟨f0, f1, f2, f3, f4, f5⟩ := f
    exact ⟨.ref L, H', J.turned (t' := s'.toks) (fun b o ne z => (sb.2 b ne).trans z) f0 f1 f3 f4 f5, rfl, qq⟩⟩
  have loop : codeAny (model X.prog X.w) X.A (.compLoop (.ListComp elt [⟨tg, iter, ifs, 0⟩] scope pos) 0 (.ref it) (.ref L) ev) (compPost (model X.prog X.w) X.A X.xe none (EP X pins σ Q) (.ref L) u3.heap.objs.size) u4 := by
    refine compLoop_any (fun k s' => ∃ i H', L2.Inv (X.blk u3 H3 scope ev [it]) [] (L2.wipe σ (own.map (·.2))) H' s' ∧ RgI lo n it i s'.heap ∧ H' it = none ∧ W i k H') ?_ m0 ⟨0, H3, I4, st4, none3, w0⟩
    rintro k u5 ⟨i, H5, I5, st5, n5, w5⟩
    rcases turn i k H5 w5 with ⟨stop, qq⟩ | ⟨go, Nx, nx, step⟩
    · refine thnF (turnT_done (X := X.blk u3 H3 scope ev [it]) (E := fun _ _ => False) hot I5 (mine I5 n5) st5 stop) fun r u6 ⟨hr, I6⟩ => ?_
      subst hr
      have I7 : L2.Inv X pins σ H5 u6 := I3.call' (ch := [it]) I6.os I6.base I6.hok I6.bare fun b hb => by
        obtain ⟨⟨_, z1, z2, z3, z4, z5⟩, _⟩ := own3 b hb
        exact ⟨z3, z1, z4, z5⟩
      have noC : H5 u3.heap.objs.size = none := by
        have z : H5 ev.locals = none := I6.free
        rwa [evL] at z
      obtain ⟨m, hn, _⟩ := I6.loc
      have hn : u6.heap.Ns ev.locals m := hn
      rw [evL] at hn
      exact last u6 m H5 I7 qq hn (I3.fpOk (Nat.le_refl _) noC)
    · refine thnF (turnT_item (X := X.blk u3 H3 scope ev [it]) (tg := tg) (E := fun _ _ => False) I5 (mine I5 n5) st5 go) fun r u6 ⟨u, hr, h6⟩ => ?_
      subst hr
      refine thnF h6 fun _ u7 ⟨I7, r7, st7⟩ => ?_
      have pinned := I7.pinned (fp := [it]) (fun b hb => by
        obtain rfl : b = it := by simpa using hb
        exact mine I7 n5) (fun b hb => by
        obtain rfl : b = it := by simpa using hb
        exact ⟨_, st7, fun v z => by
          have z : Data.fields _ = Data.cell v := z
          cases z⟩)
      refine thnF (pg.run _ u7 _ H5 _ u _ pinned r7 (step _ H5 ⟨rfl, rfl⟩)) fun _ u8 ⟨σ8, H8, I8, back, q8⟩ => ?_
      refine thnF (pt.run _ u8 σ8 H8 _ I8 q8) fun b u9 ⟨H9, I9, q9⟩ => ?_
      have turned : ∀ {s' : Shared} {H' : Hp}, L2.Inv (X.blk u3 H3 scope ev [it]) ([] ++ pinsAt [it] u7.heap) σ8 H' s' → Nx H' →
          ∃ m, m < k ∧ ∃ i H', L2.Inv (X.blk u3 H3 scope ev [it]) [] (L2.wipe σ (own.map (·.2))) H' s' ∧ RgI lo n it i s'.heap ∧ H' it = none ∧ W i m H' := fun {s' H'} J x => by
        obtain ⟨m2, lt, w2⟩ := nx H' x
        have stays := J.pin (it, _) (List.mem_append_right _ (List.mem_append_right _ (mem_pinsAt (by simp) st7)))
        refine ⟨m2, lt, i + 1, H', (J.unpinned (pins := [])).weak (by rw [← back, wipe_length]) (fun j v e => ?_), stays.1, stays.2.1, w2⟩
        rw [← back] at e
        exact (wipe_some e).1
      cases b with
      | true =>
        simp only [if_true] at q9 ⊢
        refine thnF (pe.run _ u9 σ8 H9 _ I9 q9) fun z u10 ⟨yv, H10, I10, r10, acc, isL, lens, x⟩ => ?_
        exact app_ok (X := X.blk u3 H3 scope ev [it]) I10 isL lens r10 fun u11 I11 => turned I11 x
      | false =>
        simp only [Bool.false_eq_true, if_false] at q9 ⊢
        exact turned I9 q9
  exact codeAny_compStart_list loop (wpAny_pyIter_rangeiter st4 loop)
end
end EV
/-! EV33: an except suite's rules where the exception's name is known. -/
namespace EV
open PySem PySem.Spec PyProof.Rows L2
def excAt (i : Nat) (env : List (Option W)) : Bool := match env[i]? with
  | some (some (.d (.exc _ _ _))) => true
  | _ => false
/-- range(n) in a suite whose exception's name is at i -/
def range1T (i : Nat) (m : EM (List W)) : EM (List D) := bnd m fun ws s => match ws with
  | [.d (.int j)] => if (j < 1000000000 ∧ -1000000000 < j) ∧ excAt i s.env = true then some (.ok (rngL 0 j.toNat), s) else none
  | _ => none
structure EEh (i : Nat) (a : Addr) (c : Kx) (X : Cx) (U : WX) (e : Expr) (m : EM W) : Prop where
  K : X.K = c.K
  pe : PE X e (fun σ H Q => HotL i a σ ∧ tE c U m σ H Q)
structure ETh (i : Nat) (a : Addr) (c : Kx) (X : Cx) (U : WX) (e : Expr) (m : EM Bool) : Prop where
  K : X.K = c.K
  pt : PT X e (fun σ H Q => HotL i a σ ∧ tT c U m σ H Q)
structure EWh (i : Nat) (a : Addr) (c : Kx) (X : Cx) (U : WX) (e : Expr) (m : EM Bool) : Prop where
  K : X.K = c.K
  pw : PW X e (fun σ H Q => HotL i a σ ∧ tT c U m σ H Q)
structure ESh (i : Nat) (a : Addr) (c : Kx) (X : Cx) (U : WX) (st : Stmt) (m : EM Fl) : Prop where
  K : X.K = c.K
  ps : PS X st (fun D σ H => HotL i a σ ∧ tS c U m D σ H)
section
variable {i0 : Nat} {a0 : Addr} {c : Kx} {X : Cx} {U : WX} {a b e elt tg t : Expr} {es rest0 : List Expr} {ma mb : EM W} {m1 m2 : EM Bool} {m r : EM Fl} {pos p : Pos} {st : Stmt} {rest body orelse : List Stmt}
theorem iterT {G : Hp} {lo : Int} {n : Nat} (h : ∃ cls d, G a0 = some (excT a0 cls d)) : Iter c G (ItrT lo n a0) (rngL lo n) where
  go := (iter_range (c := c)).go
  stop := fun H sG => by
    obtain ⟨cls, d, e⟩ := h
    exact ⟨(iter_range (c := c)).stop H sG, cls, d, sG _ _ e⟩
  yld := iter_range.yld
theorem pit_rangeT {m : EM (List W)} (hg : Gl X "range") (hm : X.mg "range" = none) (ha : EA c X U [e] m) (hs : starEach [e] X.env = [(false, eval e X.env)] := by rfl) :
    PIT X a0 (.Call (.Name "range" p) [e] [] pos) (fun σ H Rk => HotL i0 a0 σ ∧ tI c U (range1T i0 m) σ H Rk) := by
  have base := pit_range1 (a := a0) (p := p) (pos := pos) hg hm ha.pa hs
  refine ⟨fun pins s σ H R I h => base.run pins s σ H R I ?_⟩
  obtain ⟨hot, ρ, G, s2, hR, w⟩ := h
  refine ⟨ρ, G, s2, hR, (Wp.bnd hR w).imp fun ws ρ1 G1 H1 s1 ⟨S1, R1, w1⟩ vs rvs => ?_⟩
  unfold Wp at w1
  dsimp only at w1
  split at w1
  · exact w1.elim
  · rename_i x s' e1
    split at e1
    · rename_i j _
      split at e1
      · rename_i hj
        simp only [Option.some.injEq, Prod.mk.injEq, Out.ok.injEq] at e1
        obtain ⟨rfl, rfl⟩ := e1
        obtain ⟨v, rfl, rv⟩ := one_rep rvs
        cases rv
        refine ⟨j, rfl, by omega, by omega, w1 ρ1 G1 H1 Stp.refl R1 _ (iterT ?_)⟩
        have q := hj.2
        unfold excAt at q
        split at q
        · rename_i C ks ds env1
          obtain ⟨v, h1, h2⟩ := R1.env _ _ env1
          obtain rfl := hot v h1
          cases h2 with
          | exc0 hC hg => exact ⟨_, _, hg⟩
          | excD hC hg hdx hl hr => exact ⟨_, _, hg⟩
        · cases q
      · cases e1
    · cases e1
  · rename_i C ks ds s' e1
    split at e1
    · split at e1 <;> cases e1
    · cases e1
section
variable {scope : Scope} {own : List (Str × Nat)} {ifs : List Expr} {m : EM (List W)} {tgt : Tg} {tt : EM Bool} {el : EM W} {ownr : Bool}
theorem ee_lcT (hot : X.A.handled = some (.ref a0)) (nd : X.N.Nodup) (hg0 : Gl X "range") (hm0 : X.mg "range" = none) (ha : EA c X U [e] m) (ok : BlkOk X.N X.env.scope scope own) (hsub : ∀ i ∈ tgt.is, i ∈ own.map (·.2))
    (hg : ∀ (s : Shared) (H : Hp) (C : Addr) (cl : List (Str × Addr)) (fp : List Addr), EG c (X.blk s H scope (compEnvC scope cl C X.env) fp) tg tgt)
    (ht : ∀ (s : Shared) (H : Hp) (C : Addr) (cl : List (Str × Addr)) (fp : List Addr), ETs c (X.blk s H scope (compEnvC scope cl C X.env) fp) ifs tt)
    (he : ∀ (s : Shared) (H : Hp) (C : Addr) (cl : List (Str × Addr)) (fp : List Addr), EE c (X.blk s H scope (compEnvC scope cl C X.env) fp) U0 elt el)
    (hs1 : starEach [e] X.env = [(false, eval e X.env)] := by rfl) (hs : ∀ x, foldedSetIterable (.Call (.Name "range" p) [e] [] pos) X.env x = pure x := by intro _; rfl) {pos2 : Pos} :
    EEh i0 a0 c X U (.ListComp elt [⟨tg, .Call (.Name "range" p) [e] [] pos, ifs, 0⟩] scope pos2) (compE (own.map (·.2)) (range1T i0 m) tgt tt el ownr) := by
  refine ⟨ha.K, ⟨fun pins s σ H Q I h => ?_⟩⟩
  obtain ⟨at0, ρ, G, s2, hR, w⟩ := h
  exact (pe_lcT hot nd (pit_rangeT (i0 := i0) hg0 hm0 ha hs1) ok (fun s H C cl fp => (hg s H C cl fp).pg) (fun s H C cl fp => (ht s H C cl fp).pt) (fun s H C cl fp => (he s H C cl fp).pe) hs).run pins s σ H Q I ⟨at0, wp_lc hsub hR w⟩
end
theorem handled_suite (X : Cx) (a : Addr) (pn : List (Addr × Obj)) : (X.suite a pn).A.handled = some (.ref a) := rfl
theorem takes0T {X : Cx} : L2N.Takes X (fun _ _ _ _ => False) := fun u s' x => by
  obtain ⟨_, _, _, _, _, _, _, _, _, _, _, _, _, _, _, _, w⟩ := x
  exact w.elim
theorem tE_more {σ : L2.St} {H : Hp} {Q Q' : VK} (h : tE c U ma σ H Q) (q : ∀ v H', Q v H' → Q' v H') : tE c U ma σ H Q' := by
  obtain ⟨ρ, G, s, hR, w⟩ := h
  exact ⟨ρ, G, s, hR, w.imp fun x ρ1 G1 H1 s1 k v rv => q _ _ (k v rv)⟩
theorem et_cmpT {op : CmpOp} {f2 : R2} {f : Store → W → W → Option (W × Store)} (ho : OpR X (compareOp op) f2) (hm : behindInMarks op b = false) (hs : S2 c f2 f) (ha : EE c X U a ma) (hb : EEh i0 a0 c X U b mb) :
    ETh i0 a0 c X U (.Compare a [op] [b] pos) (toB (op2 f ma mb)) := by
  refine ⟨ha.K, ⟨fun pins s σ H Q I h => ?_⟩⟩
  obtain ⟨at0, ρ, G, s2, hR, w⟩ := h
  refine (pt_cmpR ho ha.pe hb.pe hm).run pins s σ H Q I ?_
  have k := wp_op2 hs hR (wp_toB hR w)
  have k : tE c U ma σ H fun x H1 => tE c U mb σ H1 fun y H2 => f2 x y H2 _ := k
  exact tE_more k fun v H1 z => ⟨at0, z⟩
theorem ew_orT (h : ETh i0 a0 c X U a m1) (h2 : EWt c X U (.BoolOp .Or (b :: rest0) pos) m2) : EWh i0 a0 c X U (.BoolOp .Or (a :: b :: rest0) pos) (orB m1 m2) := by
  refine ⟨h.K, ⟨fun wh pins s σ H Q I k => ?_⟩⟩
  obtain ⟨at0, ρ, G, s2, hR, w⟩ := k
  refine (pw_or h.pt h2.pw).run wh pins s σ H Q I ⟨at0, ρ, G, s2, hR, (Wp.bnd hR w).imp fun x ρ1 G1 H1 s1 ⟨S1, R1, w1⟩ => ?_⟩
  cases x with
  | true => exact iteT (Wp.pur R1 w1)
  | false => exact iteF ⟨ρ1, G1, s1, R1, w1⟩
theorem EWh.et (h : EWh i0 a0 c X U e m1) : ETh i0 a0 c X U e m1 := ⟨h.K, h.pw.pt⟩
theorem es_ifT (ht : ETh i0 a0 c X U t m1) (h1 : ESs c X U body m) (h2 : ESs c X U orelse r) : ESh i0 a0 c X U (.If t body orelse pos) (ifE m1 m r) := by
  refine ⟨ht.K, ⟨fun pins s σ H D I k => ?_⟩⟩
  obtain ⟨at0, ρ, G, s2, hR, w⟩ := k
  refine (ps_if ht.pt h1.ps h2.ps).run pins s σ H D I ⟨at0, ρ, G, s2, hR, (Ws.bndE hR w).imp fun x ρ1 G1 H1 s1 ⟨S1, R1, w1⟩ => ?_⟩
  cases x with
  | true => exact iteT ⟨ρ1, G1, s1, R1, w1⟩
  | false => exact iteF ⟨ρ1, G1, s1, R1, w1⟩
theorem ess_consT (h : ESh i0 a0 c X U st m) (hr : ESs c X U rest r) : ESsh i0 a0 c X U (st :: rest) (sq m r) := by
  refine ⟨h.K, ⟨fun pins s σ H D I k => ?_⟩⟩
  obtain ⟨at0, ρ, G, s2, hR, w⟩ := k
  exact (pss_cons h.ps hr.ps).run pins s σ H D I ⟨at0, ρ, G, s2, hR, wp_sq hR w⟩
end
/-! x is True, x is False, whatever x is -/
def rIsA : R2 := fun x y H Q => ∃ k : Bool, y = .bl k ∧ Q (.bl (decide (x = .bl k))) H
theorem op_isAB {X : Cx} : OpR X (compareOp .Is) rIsA := by
  intro pins s σ H x y v u Q I rx ry h
  obtain ⟨k, rfl, q⟩ := h
  cases (show u = Value.bool k from ry)
  have other : plainIs v (.bool k) = true → v ≠ .bool k → decide (x = V.bl k) = false → wpAny (model X.prog X.w) X.A (compareOp .Is v (.bool k)) (EP X pins σ Q) X.xe s := fun a n e =>
    wpAny_is_other a n ⟨.bl false, H, I, rfl, by rw [← e]; exact q⟩
  cases x with
  | non => cases (show v = Value.none from rx); exact other rfl (fun z => nomatch z) rfl
  | bl a =>
    cases (show v = Value.bool a from rx)
    by_cases e : a = k
    · subst e
      exact wpAny_is_self rfl ⟨.bl true, H, I, rfl, by simpa using q⟩
    · exact other rfl (fun z => e (Value.bool.inj z)) (decide_eq_false fun z => e (V.bl.inj z))
  | int i => obtain ⟨t, rfl⟩ := rx; exact other rfl (fun z => nomatch z) rfl
  | str z => obtain ⟨t, rfl⟩ := rx; exact other rfl (fun z => nomatch z) rfl
  | byt z => obtain ⟨t, rfl⟩ := rx; exact other rfl (fun z => nomatch z) rfl
  | flt z => obtain ⟨t, rfl⟩ := rx; exact other rfl (fun z => nomatch z) rfl
  | ref a => cases (show v = Value.ref a from rx); exact other rfl (fun z => nomatch z) rfl
  | ty n => cases (show v = Value.type n from rx); exact other rfl (fun z => nomatch z) rfl
def blB (k : Bool) : W → Bool
  | .d (.bl a) => decide (a = k)
  | _ => false
def isAB (st : Store) (x y : W) : Option (W × Store) := match y with
  | .d (.bl k) => some (.d (.bl (blB k x)), st)
  | _ => none
theorem blB_ok {c : Kx} {ρ : Rho} {G : Hp} {x : W} {v : V} {k : Bool} (rx : RepW c ρ G x v) : decide (v = .bl k) = blB k x := by
  cases x with
  | d x => cases rx <;> simp [blB]
  | loc n => obtain ⟨p, _, rfl⟩ := rx; simp [blB]
theorem s2_isAB {c : Kx} : S2 c rIsA isAB := fun ρ G H st x y w st' vx vy Q r rx ry e q => by
  unfold isAB at e
  split at e
  · cases e
    cases ry
    exact ⟨_, rfl, by rw [blB_ok rx]; exact q _ ρ G H Stp.refl r (.bl _)⟩
  · cases e
theorem rl_isAB {β : Type} {env : List (Option W)} {st : Store} {Q : Out β → SS → Prop} {x : W} {b : Bool} {k : W → EM β} (h : Run (k (.d (.bl (blB b x)))) ⟨env, st⟩ Q) : Run (bnd (lft fun st => isAB st x (.d (.bl b))) k) ⟨env, st⟩ Q := rb_lft rfl h
instance sl_isAB {β : Type} {env : List (Option W)} {st : Store} {Q : Out β → SS → Prop} {x : W} {b : Bool} {k : W → EM β} : St (lft fun st => isAB st x (.d (.bl b))) k ⟨env, st⟩ Q (Run (k (.d (.bl (blB b x)))) ⟨env, st⟩ Q) := ⟨rl_isAB⟩
/-! running -/
section
variable {β : Type} {env : List (Option W)} {st : Store} {Q : Out β → SS → Prop}
theorem rb_range1T {i : Nat} {j : Int} {m : EM (List W)} {k : List D → EM β} {s : SS} (h : Run (bnd m fun ws => bnd (fun s => match ws with
  | [.d (.int j)] => if (j < 1000000000 ∧ -1000000000 < j) ∧ excAt i s.env = true then some (.ok (rngL 0 j.toNat), s) else none
  | _ => none) k) s Q) : Run (bnd (range1T i m) k) s Q := rb_bnd h
end
end EV
namespace Sem
open PySem EV
def q_Breach : List (Ty × Bool) := [(.xc 9, false), (.xc 10, false), (.xc 11, false), (.xc 12, false), (.xc 13, false), (.xc 14, false), (.xc 15, true), (.xc 16, false), (.xc 17, false), (.xc 18, false), (.xc 19, false)]
def q_CalmRoom : List (Ty × Bool) := [(.xc 9, false), (.xc 10, false), (.xc 11, false), (.xc 12, true), (.xc 13, false), (.xc 14, false), (.xc 15, false), (.xc 16, false), (.xc 17, false), (.xc 18, false), (.xc 19, false)]
def q_NoChange : List (Ty × Bool) := [(.xc 9, false), (.xc 10, false), (.xc 11, false), (.xc 12, false), (.xc 13, false), (.xc 14, false), (.xc 15, false), (.xc 16, false), (.xc 17, false), (.xc 18, true), (.xc 19, false)]
def q_NoDeed : List (Ty × Bool) := [(.xc 9, false), (.xc 10, false), (.xc 11, false), (.xc 12, false), (.xc 13, true), (.xc 14, false), (.xc 15, false), (.xc 16, false), (.xc 17, false), (.xc 18, false), (.xc 19, false)]
def q_NoName : List (Ty × Bool) := [(.xc 9, false), (.xc 10, false), (.xc 11, true), (.xc 12, false), (.xc 13, false), (.xc 14, false), (.xc 15, false), (.xc 16, false), (.xc 17, false), (.xc 18, false), (.xc 19, false)]
def q_NoPair : List (Ty × Bool) := [(.xc 9, false), (.xc 10, false), (.xc 11, false), (.xc 12, false), (.xc 13, false), (.xc 14, false), (.xc 15, false), (.xc 16, false), (.xc 17, true), (.xc 18, false), (.xc 19, false)]
def q_NoRow : List (Ty × Bool) := [(.xc 9, false), (.xc 10, false), (.xc 11, false), (.xc 12, false), (.xc 13, false), (.xc 14, false), (.xc 15, false), (.xc 16, false), (.xc 17, false), (.xc 18, false), (.xc 19, true)]
def q_NoStand : List (Ty × Bool) := [(.xc 9, false), (.xc 10, false), (.xc 11, false), (.xc 12, false), (.xc 13, false), (.xc 14, false), (.xc 15, false), (.xc 16, true), (.xc 17, false), (.xc 18, false), (.xc 19, false)]
def q_NoText : List (Ty × Bool) := [(.xc 9, false), (.xc 10, true), (.xc 11, false), (.xc 12, false), (.xc 13, false), (.xc 14, false), (.xc 15, false), (.xc 16, false), (.xc 17, false), (.xc 18, false), (.xc 19, false)]
def q_TooMany : List (Ty × Bool) := [(.xc 9, false), (.xc 10, false), (.xc 11, false), (.xc 12, false), (.xc 13, false), (.xc 14, true), (.xc 15, false), (.xc 16, false), (.xc 17, false), (.xc 18, false), (.xc 19, false)]
def q_ValueError : List (Ty × Bool) := [(.xc 9, true), (.xc 10, true), (.xc 11, true), (.xc 12, true), (.xc 13, true), (.xc 14, true), (.xc 15, true), (.xc 16, true), (.xc 17, true), (.xc 18, true), (.xc 19, true)]
def q_bool : List (Ty × Bool) := [(.bi "NoneType", false), (.bi "bool", true), (.bi "int", false), (.bi "str", false), (.bi "list", false), (.bi "tuple", false), (.bi "dict", false)]
def q_int : List (Ty × Bool) := [(.bi "NoneType", false), (.bi "bool", true), (.bi "int", true), (.bi "str", false), (.bi "list", false), (.bi "tuple", false), (.bi "dict", false)]
def b_law_refuse : EM Fl := (sq (ifE (toB (op2 eqA (var 0) (cst (.int 0)))) (raiseS 10 [12] (acons (var 1) anil)) (pur .nx)) (sq (ifE (toB (op2 eqA (var 0) (cst (.int 1)))) (raiseS 11 [13] (acons (var 1) anil)) (pur .nx)) (sq (ifE (toB (op2 eqA (var 0) (cst (.int 2)))) (raiseS 12 [13] (acons (var 1) anil)) (pur .nx)) (sq (ifE (toB (op2 eqA (var 0) (cst (.int 3)))) (raiseS 13 [13] (acons (var 1) anil)) (pur .nx)) (sq (ifE (toB (op2 eqA (var 0) (cst (.int 4)))) (raiseS 14 [] anil) (pur .nx)) (sq (ifE (toB (op2 eqA (var 0) (cst (.int 5)))) (raiseS 15 [15, 14, 1] (bnd (acons (var 1) (acons (var 2) (acons (var 3) anil))) fun ws => pur ws.reverse)) (pur .nx)) (sq (ifE (toB (op2 eqA (var 0) (cst (.int 6)))) (raiseS 16 [] anil) (pur .nx)) (sq (ifE (toB (op2 eqA (var 0) (cst (.int 7)))) (raiseS 17 [] anil) (pur .nx)) (sq (ifE (toB (op2 eqA (var 0) (cst (.int 8)))) (raiseS 18 [12] (acons (var 1) anil)) (pur .nx)) (raiseS 19 [] anil))))))))))
def F_law_refuse : FP := pureP (bodyF 4 b_law_refuse)
def O_law_refuse : FO := pureO (bodyF 4 b_law_refuse)
def b_law_alike : EM Fl := (sq (ifE (toB (op2 isN (var 1) (cst .non))) (retS (op2 isN (var 0) (cst .non))) (pur .nx)) (sq (ifE (toB (op2 isAB (var 1) (cst (.bl true)))) (retS (op2 isAB (var 0) (cst (.bl true)))) (pur .nx)) (sq (ifE (toB (op2 isAB (var 1) (cst (.bl false)))) (retS (op2 isAB (var 0) (cst (.bl false)))) (pur .nx)) (sq (ifE (toB (bnd (var 1) fun w => lft fun st => isiW q_int st [w, .d .non])) (retS (anV (bnd (var 0) fun w => lft fun st => isiW q_int st [w, .d .non]) (anV (ntV (bnd (var 0) fun w => lft fun st => isiW q_bool st [w, .d .non])) (op2 eqA (var 0) (var 1))))) (pur .nx)) (retS (op2 eqA (var 0) (var 1)))))))
def F_law_alike : FP := pureP (bodyF 2 b_law_alike)
def O_law_alike : FO := pureO (bodyF 2 b_law_alike)
def b_law_fields : EM Fl := (sq (ifE (toB (op2 inA (var 1) (tupE (acons (cst (.int 0)) (acons (cst (.int 8)) anil))))) (retS (callE (gP 2 F_law_alike) [] (acons (xfldE [10, 18] 37 12 (var 0)) (acons (var 2) anil)))) (pur .nx)) (sq (ifE (toB (op2 inA (var 1) (tupE (acons (cst (.int 1)) (acons (cst (.int 2)) (acons (cst (.int 3)) anil)))))) (retS (callE (gP 2 F_law_alike) [] (acons (xfldE [11, 12, 13] 37 13 (var 0)) (acons (var 2) anil)))) (pur .nx)) (sq (ifE (toB (op2 eqA (var 1) (cst (.int 5)))) (retS (anV (callE (gP 2 F_law_alike) [] (acons (xfldE [15] 37 1 (var 0)) (acons (var 2) anil))) (anV (callE (gP 2 F_law_alike) [] (acons (xfldE [15] 37 14 (var 0)) (acons (var 3) anil))) (callE (gP 2 F_law_alike) [] (acons (xfldE [15] 37 15 (var 0)) (acons (var 4) anil)))))) (pur .nx)) (retS (cst (.bl true))))))
def F_law_fields : FP := pureP (bodyF 5 b_law_fields)
def O_law_fields : FO := pureO (bodyF 5 b_law_fields)
def b_law_classes : EM Fl := (sq (asgS (.name 1) (lstE false (acons (bnd (var 0) fun w => lft fun st => isiW q_NoText st [w, .d .non]) (acons (bnd (var 0) fun w => lft fun st => isiW q_NoName st [w, .d .non]) (acons (bnd (var 0) fun w => lft fun st => isiW q_CalmRoom st [w, .d .non]) (acons (bnd (var 0) fun w => lft fun st => isiW q_NoDeed st [w, .d .non]) anil)))))) (sq (asgS (.name 1) (op2 (addA false) (var 1) (lstE false (acons (bnd (var 0) fun w => lft fun st => isiW q_TooMany st [w, .d .non]) (acons (bnd (var 0) fun w => lft fun st => isiW q_Breach st [w, .d .non]) (acons (bnd (var 0) fun w => lft fun st => isiW q_NoStand st [w, .d .non]) anil)))))) (retS (op2 (addA false) (var 1) (lstE false (acons (bnd (var 0) fun w => lft fun st => isiW q_NoPair st [w, .d .non]) (acons (bnd (var 0) fun w => lft fun st => isiW q_NoChange st [w, .d .non]) (acons (bnd (var 0) fun w => lft fun st => isiW q_NoRow st [w, .d .non]) anil))))))))
def F_law_classes : FP := pureP (bodyF 2 b_law_classes)
def O_law_classes : FO := pureO (bodyF 2 b_law_classes)
def b_law_right : EM Fl := (sq (tryS [10, 11, 12, 13, 14, 15, 16, 17, 18, 19] (exprS (callE (gP 4 F_law_refuse) [] (acons (var 0) (acons (var 1) (acons (var 2) (acons (var 3) anil)))))) [([9, 10, 11, 12, 13, 14, 15, 16, 17, 18, 19], 4, (sq (ifE (orB (toB (op2 neA (callE (gP 1 F_law_classes) [] (acons (var 4) anil)) (compE [5] (range1T 4 (acons (cst (.int 10)) anil)) (.name 5) (pur true) (op2 eqA (var 0) (var 5)) false))) (ntB (toB (bnd (var 4) fun w => lft fun st => isiW q_ValueError st [w, .d .non])))) (retS (cst (.bl false))) (pur .nx)) (retS (callE (gP 5 F_law_fields) [] (acons (var 4) (acons (var 0) (acons (var 1) (acons (var 2) (acons (var 3) anil)))))))))]) (retS (cst (.bl false))))
def F_law_right : FP := pureP (bodyF 6 b_law_right)
def O_law_right : FO := pureO (bodyF 6 b_law_right)
def b_law_thing : EM Fl := (sq (asgS (.name 1) (cst (.str " !\"#$&'()*+,-./0123456789:;<=>?@ABCDEFGHIJKLMNOPQRSTUVWXYZ[\\]^_`"))) (sq (asgS (.name 1) (op2 (addA false) (var 1) (cst (.str "abcdefghijklmnopqrstuvwxyz{|}~")))) (sq (asgS (.name 2) (op2 (intF modI) (var 0) (cst (.int 8)))) (sq (asgS (.name 3) (bmE "str" joinW (cst (.str "")) (acons (compE [4] (range1E (acons (op2 (intF modI) (op2 (intF divI) (var 0) (cst (.int 8))) (cst (.int 9))) anil)) (.name 4) (pur true) (op2 ixA (var 1) (op2 (intF modI) (op2 (intF divI) (var 0) (op2 (addA false) (cst (.int 8)) (var 4))) (callB lenW (acons (var 1) anil)))) false) anil))) (sq (ifE (toB (op2 eqA (var 2) (cst (.int 0)))) (retS (cst .non)) (pur .nx)) (sq (ifE (toB (op2 eqA (var 2) (cst (.int 1)))) (retS (op2 eqA (op2 (intF modI) (op2 (intF divI) (var 0) (cst (.int 8))) (cst (.int 2))) (cst (.int 0)))) (pur .nx)) (sq (ifE (toB (op2 eqA (var 2) (cst (.int 2)))) (retS (tupE (acons (var 3) (acons (var 0) anil)))) (pur .nx)) (sq (ifE (toB (op2 eqA (var 2) (cst (.int 3)))) (retS (op2 subA (cst (.int 0)) (var 0))) (pur .nx)) (sq (ifE (toB (op2 eqA (var 2) (cst (.int 4)))) (retS (op2 (addA false) (op2 (mulA false) (op2 (addA false) (var 0) (cst (.int 1))) (op2 (intF powI) (cst (.int 10)) (cst (.int 50)))) (var 0))) (pur .nx)) (sq (ifE (toB (op2 eqA (var 2) (cst (.int 5)))) (retS (op2 (intF modI) (op2 (intF divI) (var 0) (cst (.int 8))) (cst (.int 3)))) (pur .nx)) (retS (var 3))))))))))))
def F_law_thing : FP := pureP (bodyF 5 b_law_thing)
def O_law_thing : FO := pureO (bodyF 5 b_law_thing)
def b_law_stream : EM Fl := (sq (asgS (.name 2) (lstE true anil)) (sq (asgS (.name 3) (op2 (intF modI) (var 0) (cst (.int 2147483647)))) (sq (forS (range1E (acons (var 1) anil)) (.name 4) (sq (asgS (.name 3) (op2 (intF modI) (op2 (addA false) (op2 (addA false) (op2 (mulA false) (var 3) (cst (.int 48271))) (op2 (mulA false) (op2 (mulA false) (cst (.int 7919)) (var 4)) (var 4))) (cst (.int 11))) (cst (.int 2147483647)))) (exprS (bmE "list" appendW (var 2) (acons (op2 (intF divI) (var 3) (cst (.int 5))) anil))))) (retS (var 2)))))
def F_law_stream : FP := pureP (bodyF 5 b_law_stream)
def O_law_stream : FO := pureO (bodyF 5 b_law_stream)
def b_law : EM Fl := (sq (forS (itemsE (slE false (var 0) (partE (some (cst (.int 0)))) (partE (some (cst (.int 30)))))) (.name 1) (sq (asgS (.name 2) (callE (gP 2 F_law_stream) [] (acons (var 1) (acons (cst (.int 4)) anil)))) (ifE (ntB (toB (callE (gP 4 F_law_right) [] (acons (op2 (intF modI) (op2 ixA (var 2) (cst (.int 0))) (cst (.int 10))) (acons (callE (gP 1 F_law_thing) [] (acons (op2 ixA (var 2) (cst (.int 1))) anil)) (acons (callE (gP 1 F_law_thing) [] (acons (op2 ixA (var 2) (cst (.int 2))) anil)) (acons (callE (gP 1 F_law_thing) [] (acons (op2 ixA (var 2) (cst (.int 3))) anil)) anil))))))) (retS (cst (.bl false))) (pur .nx)))) (retS (cst (.bl true))))
def F_law : FP := pureP (bodyF 3 b_law)
def O_law : FO := pureO (bodyF 3 b_law)
end Sem
namespace Math
open PySem EV Sem
local macro_rules | `(tactic| walk_at "go") => `(tactic| repeat (first
  | with_reducible refine St.run ?_
  | with_reducible refine Se.run ?_
  | (with_reducible refine gd_lft ?_; first 
        | (with_reducible refine gd_ix ?_; first 
        | with_reducible refine rl_ixI (by first | omega | (decide +kernel)) ?_ 
        | with_reducible refine rl_ixI' ?_ ?_ 
        | with_reducible refine rl_ixSk (by with_unfolding_all rfl) ?_ 
        | with_reducible refine rl_ixSs (by first | omega | (decide +kernel)) ?_ 
        | with_reducible refine rl_ixSs' ?_ ?_ 
        | with_reducible refine rl_ixZ (by omega) ?_ 
        | with_reducible refine rl_ixZ' ?_ ?_ 
        | with_reducible refine rl_ixT (by with_unfolding_all rfl) ?_ 
        | with_reducible refine rl_ixL (by with_unfolding_all rfl) ?_ 
        | with_reducible refine rl_ixO (by with_unfolding_all rfl) (by with_unfolding_all rfl) ?_) 
        | (with_reducible refine gd_add ?_; first 
        | with_reducible refine rl_addL (by decide) ?_ 
        | with_reducible refine rl_addS (by first | omega | (decide +kernel)) ?_ 
        | with_reducible refine rl_addS' ?_ ?_ 
        | with_reducible refine rl_addL' ?_ ?_) 
        | (with_reducible refine gd_int ?_; first 
        | with_reducible refine rl_mod (by decide) ?_ 
        | with_reducible refine rl_div (by decide) ?_ 
        | with_reducible refine rl_pow (by decide) ?_ 
        | with_reducible refine rl_mod (by first | omega | (decide +kernel)) ?_ 
        | with_reducible refine rl_div (by first | omega | (decide +kernel)) ?_ 
        | with_reducible refine rl_mod' ?_ ?_ 
        | with_reducible refine rl_div' ?_ ?_) 
        | (with_reducible refine gd_mul ?_; first 
        | with_reducible refine rl_mulI (Or.inr (by decide)) ?_ 
        | with_reducible refine rl_mulI (Or.inl (by decide)) ?_ 
        | with_reducible refine rl_mulI (by first | omega | (decide +kernel)) ?_ 
        | with_reducible refine rl_mulI' ?_ ?_ 
        | with_reducible refine rl_mulS' ?_ ?_) 
        | with_reducible refine rl_newF (by dsimp only [allD, Option.map] <;> exact rfl) ?_ 
        | with_reducible refine rl_append (by with_unfolding_all rfl) (by exact lt_len (by with_unfolding_all rfl)) (by dsimp only [List.set] <;> exact rfl) ?_ 
        | with_reducible refine rl_append' (by with_unfolding_all rfl) (by dsimp only [List.set] <;> exact rfl) ?_ ?_ 
        | with_reducible refine rl_splitR (by assumption) ?_ 
        | with_reducible refine rl_lenS (by first | omega | (decide +kernel)) ?_ 
        | with_reducible refine rl_lenS' ?_ ?_ 
        | with_reducible refine rl_slS (by first | omega | (decide +kernel)) ?_ 
        | with_reducible refine rl_slS' ?_ ?_ 
        | with_reducible refine rl_isi (by with_unfolding_all rfl) ?_ 
        | with_reducible refine rl_clear (by with_unfolding_all rfl) (by dsimp only [List.set] <;> exact rfl) ?_ 
        | with_reducible refine rl_inT ?_ 
        | with_reducible refine rl_inL ?_ 
        | with_reducible refine rl_ninT ?_ 
        | with_reducible refine rl_ninL ?_ 
        | with_reducible refine rl_newKO (by dsimp only [List.length_cons, List.length_nil, Nat.reduceAdd] <;> exact rfl) (by dsimp only [List.cons_append, List.nil_append] <;> exact rfl) ?_ 
        | with_reducible refine rl_dclear (by with_unfolding_all rfl) (by dsimp only [List.set] <;> exact rfl) ?_ 
        | with_reducible refine rl_newO (by dsimp only [List.length_cons, List.length_nil, Nat.reduceAdd] <;> exact rfl) (by dsimp only [List.cons_append, List.nil_append] <;> exact rfl) ?_)
  | (with_reducible refine gd_ite ?_; first 
        | with_reducible refine rb_iteDT rfl ?_ 
        | with_reducible refine rb_iteDnT rfl ?_ 
        | with_reducible refine rb_iteP (by decide) ?_ 
        | with_reducible refine rb_iteN (by decide) ?_)
  | with_reducible refine rb_asgT rfl (by dsimp only [setAll, List.map, List.set] <;> exact rfl) ?_
  | with_reducible refine rb_lstK (by exact Nat.le_of_ble_eq_true (by with_unfolding_all rfl)) ?_
  | with_reducible refine rb_bmK (by with_unfolding_all rfl) ?_
  | with_reducible refine rb_wip (by dsimp only [wipeO, List.set] <;> exact rfl) ?_
  | with_reducible refine rb_fldD (by with_unfolding_all rfl) ?_
  | with_reducible refine rb_fldK (by with_unfolding_all rfl) (by with_unfolding_all rfl) ?_
  | with_reducible refine rb_methK (by with_unfolding_all rfl) (by with_unfolding_all rfl) ?_
  | with_reducible refine rl_sfld (by with_unfolding_all rfl) (by with_unfolding_all rfl) (by dsimp [List.set, fput] <;> exact rfl) ?_
  | with_reducible refine rb_isD (by first | assumption | with_unfolding_all rfl) ?_
  | with_reducible refine rb_ren (by assumption) ?_
  | with_reducible refine rb_ren dct_sw ?_
  | with_reducible refine rb_treesK (by dsimp only [allD, Option.map] <;> exact rfl) ?_
  | with_reducible refine rb_tupK (by exact Nat.le_of_ble_eq_true (by with_unfolding_all rfl)) ?_
  | with_reducible refine rb_rg1 (by first | omega | (decide +kernel)) ?_
  | with_reducible refine rb_rg2 (by first | omega | (decide +kernel)) ?_
  | with_reducible refine rb_gPe (by dsimp only [allD, Option.map] <;> exact rfl) rfl (by assumption) ?_
  | with_reducible refine rb_gO (by dsimp only [allD, Option.map] <;> exact rfl) rfl (by assumption) (by dsimp only [List.length_cons, List.length_nil, Nat.reduceAdd] <;> exact rfl) (by dsimp only [List.cons_append, List.nil_append] <;> exact rfl) ?_))
local macro_rules | `(tactic| walk_at "len") => `(tactic| first
  | omega
  | (decide +kernel)
  | grind [L2.cutS_length, Str.length_append, chr1_len])
local macro_rules | `(tactic| walk_at "ok") => `(tactic| first
  | with_reducible assumption
  | ((with_reducible refine okS_app ?_ ?_) <;> walk_at "ok")
  | ((with_reducible refine okS_cut ?_) <;> walk_at "ok")
  | ((with_reducible refine okS_num ?_) <;> omega)
  | ((with_reducible refine okS_chr ?_) <;> omega)
  | (decide +kernel))
local macro_rules | `(tactic| walk_at "br") => `(tactic| first
  | with_reducible refine rb_iteDn (fun h1 => ?_) fun h1 => ?_
  | with_reducible refine rb_iteD (fun h1 => ?_) fun h1 => ?_
  | with_reducible refine rb_ite (fun h1 => ?_) fun h1 => ?_
  | refine rb_mkK rfl ?_)
local macro_rules | `(tactic| walk_at "known") => `(tactic| repeat' (first | (with_reducible refine rb_iteP rfl ?_; walk_at "go") | (with_reducible refine rb_iteN rfl ?_; walk_at "go")))
abbrev nats (xs : List Int) : Prop := ∀ x ∈ xs, 0 ≤ x ∧ x < 429496730
theorem stream_ok (c m : Int) (hm : 0 ≤ m ∧ m < 1000) : ∃ d, F_law_stream [.int c, .int m] = some (.ok d) ∧ ∃ xs : List Int, d = ints' xs ∧ xs.length = m.toNat ∧ nats xs := by
  unfold F_law_stream
  refine fp_run [some (.d (.int c)), some (.d (.int m)), none, none, none] rfl ?_
  unfold b_law_stream
  walk_at "go"
  unfold rngL
  refine rb_loop (f := fun (i : Nat) => D.int (0 + (i : Int))) (fun l s => ∃ (n : Int) (z : Option W) (ws : List W) (xs : List Int), s = ⟨[some (.d (.int c)), some (.d (.int m)), some (.loc 0), some (.d (.int n)), z], [some (.lst ws)]⟩ ∧ ws = iw xs ∧
    0 ≤ n ∧ nats xs ∧ xs.length + l.length = m.toNat ∧ (∀ b ∈ l, b < 1000)) ?_ ?_ _ _ ⟨_, _, _, [], rfl, rfl, by omega, (fun _ h => nomatch h), by simp, (fun b h => by have := List.mem_range.mp h; omega)⟩
  · rintro a l s ⟨n, z, ws, xs, rfl, rfl, hn, hx, hl, hb⟩
    have hl : xs.length + (l.length + 1) = m.toNat := hl
    have ha := hb a List.mem_cons_self
    walk_at "go"
    · refine ⟨_, _, _, _, rfl, iw_snoc, by omega, ?_, by simp; omega, fun b h => hb b (List.mem_cons_of_mem _ h)⟩
      intro x h
      rcases List.mem_append.mp h with h | h
      · exact hx x h
      · rw [List.mem_singleton.mp h]
        omega
    · rw [iw_len]; omega
  · rintro s ⟨n, z, ws, xs, rfl, rfl, hn, hx, hl, hb⟩
    walk_at "go"
    exact rp_lst rfl (allD_iw xs) ⟨xs, rfl, by simpa using hl, hx⟩
def someS : Str := Str.ofString " !\"#$&'()*+,-./0123456789:;<=>?@ABCDEFGHIJKLMNOPQRSTUVWXYZ[\\]^_`" ++ Str.ofString "abcdefghijklmnopqrstuvwxyz{|}~"
theorem someS_len : someS.length = 94 := by decide +kernel
theorem someS_at (i : Nat) : someS.cps.toList.getD i 0 < 1114112 := by
  have h : ∀ x ∈ someS.cps.toList, x < 1114112 := by decide +kernel
  rw [List.getD_eq_getElem?_getD]
  cases e : someS.cps.toList[i]? with
  | none => exact (by decide : (0 : Nat) < 1114112)
  | some x => exact h x (List.mem_of_getElem? e)
theorem clen (z : Str) : z.cps.toList.length = z.length := rfl
theorem sum_one : ∀ {zs : List Str}, (∀ z ∈ zs, z.length = 1) → (zs.map fun x => x.length).sum = zs.length
  | [], _ => rfl
  | z :: zs, h => by
    have h1 := h z List.mem_cons_self
    have h2 := sum_one fun y hy => h y (List.mem_cons_of_mem _ hy)
    simp only [List.map_cons, List.sum_cons, h1, h2, List.length_cons]
    omega
theorem ones_ok {α : Type} {l : List α} {ws : List W} (h : All2 (fun _ w => ∃ c, c < 1114112 ∧ w = W.d (.str (chr1 c))) l ws) : ∃ zs : List Str, ws = sw zs ∧ zs.length = l.length ∧ (∀ z ∈ zs, okS z) ∧ ∀ z ∈ zs, z.length = 1 := by
  induction h with
  | nil => exact ⟨[], rfl, rfl, (fun _ h => nomatch h), fun _ h => nomatch h⟩
  | cons h _ ih =>
    obtain ⟨c, hc, rfl⟩ := h
    obtain ⟨zs, rfl, e, h, h1⟩ := ih
    refine ⟨chr1 c :: zs, rfl, congrArg (· + 1) e, fun z hz => ?_, fun z hz => ?_⟩
    · rcases List.mem_cons.mp hz with e | e
      · rw [e]
        exact okS_chr hc
      · exact h z e
    · rcases List.mem_cons.mp hz with e | e
      · rw [e]
        rfl
      · exact h1 z e
/-- what a refusal may be made with -/
inductive Thing : D → Prop
  | non : Thing .non
  | bl (b : Bool) : Thing (.bl b)
  | int (i : Int) : Thing (.int i)
  | str {z : Str} (h : okS z) : Thing (.str z)
  | tup {z : Str} (h : okS z) (i : Int) : Thing (.tup [.str z, .int i])
theorem thing_ok (n : Int) (hn : 0 ≤ n ∧ n < 429496730) : ∃ d, F_law_thing [.int n] = some (.ok d) ∧ Thing d := by
  unfold F_law_thing
  refine fp_run [some (.d (.int n)), none, none, none, none] rfl ?_
  unfold b_law_thing
  walk_at "go"
  unfold rngL
  refine rb_compS (f := fun (i : Nat) => D.int (0 + (i : Int))) (fun _ w => ∃ c, c < 1114112 ∧ w = W.d (.str (chr1 c))) (by dsimp only [List.set] <;> exact rfl) (by rw [List.length_range]; omega) ?_ ?_
  · intro a ha env1 e
    dsimp only [List.set] at e
    subst e
    have ha := List.mem_range.mp ha
    walk_at "go"
    · exact ⟨_, someS_at _, rfl⟩
    · have e : (Str.ofString " !\"#$&'()*+,-./0123456789:;<=>?@ABCDEFGHIJKLMNOPQRSTUVWXYZ[\\]^_`" ++ Str.ofString "abcdefghijklmnopqrstuvwxyz{|}~").length = 94 := someS_len
      rw [e]
      have := Int.emod_nonneg (n / (8 + (0 + (a : Int)))) (show (94 : Int) ≠ 0 by omega)
      have := Int.emod_lt_of_pos (n / (8 + (0 + (a : Int)))) (show (0 : Int) < 94 by omega)
      refine ⟨⟨?_, ?_⟩, ?_⟩ <;> first | assumption | omega
    all_goals first | omega | (decide +kernel)
  · intro ws hws
    obtain ⟨zs, rfl, e, hz, h1⟩ := ones_ok hws
    refine rl_newF (allD_sw zs) ?_
    walk_at "go"
    refine rl_joinE (by rw [sum_one h1, e, List.length_range]; omega) ?_
    have ok : okS (Txt.join "" zs) := okS_join0 hz
    walk_at "go"
    walk_at "br"
    · walk_at "go"
      exact Thing.non
    walk_at "go"
    walk_at "br"
    · walk_at "go"
      exact Thing.bl _
    walk_at "go"
    walk_at "br"
    · walk_at "go"
      exact Thing.tup ok _
    walk_at "go"
    walk_at "br"
    · walk_at "go"
      exact Thing.int _
    walk_at "go"
    walk_at "br"
    · walk_at "go"
      exact Thing.int _
    walk_at "go"
    walk_at "br"
    · walk_at "go"
      exact Thing.int _
    walk_at "go"
    exact Thing.str ok
end Math
namespace Math
open PySem EV Sem
local macro_rules | `(tactic| walk_at "go") => `(tactic| repeat (first
  | with_reducible refine St.run ?_
  | with_reducible refine Se.run ?_
  | (with_reducible refine gd_lft ?_; first 
        | (with_reducible refine gd_ix ?_; first 
        | with_reducible refine rl_ixI (by first | omega | (decide +kernel)) ?_ 
        | with_reducible refine rl_ixI' ?_ ?_ 
        | with_reducible refine rl_ixSk (by with_unfolding_all rfl) ?_ 
        | with_reducible refine rl_ixSs (by first | omega | (decide +kernel)) ?_ 
        | with_reducible refine rl_ixSs' ?_ ?_ 
        | with_reducible refine rl_ixZ (by omega) ?_ 
        | with_reducible refine rl_ixZ' ?_ ?_ 
        | with_reducible refine rl_ixT (by with_unfolding_all rfl) ?_ 
        | with_reducible refine rl_ixL (by with_unfolding_all rfl) ?_ 
        | with_reducible refine rl_ixO (by with_unfolding_all rfl) (by with_unfolding_all rfl) ?_) 
        | (with_reducible refine gd_add ?_; first 
        | with_reducible refine rl_addL (by decide) ?_ 
        | with_reducible refine rl_addS (by first | omega | (decide +kernel)) ?_ 
        | with_reducible refine rl_addS' ?_ ?_ 
        | with_reducible refine rl_addL' ?_ ?_) 
        | (with_reducible refine gd_int ?_; first 
        | with_reducible refine rl_mod (by decide) ?_ 
        | with_reducible refine rl_div (by decide) ?_ 
        | with_reducible refine rl_pow (by decide) ?_ 
        | with_reducible refine rl_mod (by first | omega | (decide +kernel)) ?_ 
        | with_reducible refine rl_div (by first | omega | (decide +kernel)) ?_ 
        | with_reducible refine rl_mod' ?_ ?_ 
        | with_reducible refine rl_div' ?_ ?_) 
        | (with_reducible refine gd_mul ?_; first 
        | with_reducible refine rl_mulI (Or.inr (by decide)) ?_ 
        | with_reducible refine rl_mulI (Or.inl (by decide)) ?_ 
        | with_reducible refine rl_mulI (by first | omega | (decide +kernel)) ?_ 
        | with_reducible refine rl_mulI' ?_ ?_ 
        | with_reducible refine rl_mulS' ?_ ?_) 
        | with_reducible refine rl_newF (by dsimp only [allD, Option.map] <;> exact rfl) ?_ 
        | with_reducible refine rl_append (by with_unfolding_all rfl) (by exact lt_len (by with_unfolding_all rfl)) (by dsimp only [List.set] <;> exact rfl) ?_ 
        | with_reducible refine rl_append' (by with_unfolding_all rfl) (by dsimp only [List.set] <;> exact rfl) ?_ ?_ 
        | with_reducible refine rl_splitR (by assumption) ?_ 
        | with_reducible refine rl_lenS (by first | omega | (decide +kernel)) ?_ 
        | with_reducible refine rl_lenS' ?_ ?_ 
        | with_reducible refine rl_slS (by first | omega | (decide +kernel)) ?_ 
        | with_reducible refine rl_slS' ?_ ?_ 
        | with_reducible refine rl_isi (by with_unfolding_all rfl) ?_ 
        | with_reducible refine rl_clear (by with_unfolding_all rfl) (by dsimp only [List.set] <;> exact rfl) ?_ 
        | with_reducible refine rl_inT ?_ 
        | with_reducible refine rl_inL ?_ 
        | with_reducible refine rl_ninT ?_ 
        | with_reducible refine rl_ninL ?_ 
        | with_reducible refine rl_newKO (by dsimp only [List.length_cons, List.length_nil, Nat.reduceAdd] <;> exact rfl) (by dsimp only [List.cons_append, List.nil_append] <;> exact rfl) ?_ 
        | with_reducible refine rl_dclear (by with_unfolding_all rfl) (by dsimp only [List.set] <;> exact rfl) ?_ 
        | with_reducible refine rl_newO (by dsimp only [List.length_cons, List.length_nil, Nat.reduceAdd] <;> exact rfl) (by dsimp only [List.cons_append, List.nil_append] <;> exact rfl) ?_)
  | (with_reducible refine gd_ite ?_; first 
        | with_reducible refine rb_iteDT rfl ?_ 
        | with_reducible refine rb_iteDnT rfl ?_ 
        | with_reducible refine rb_iteP (by decide) ?_ 
        | with_reducible refine rb_iteN (by decide) ?_)
  | with_reducible refine rb_asgT rfl (by dsimp only [setAll, List.map, List.set] <;> exact rfl) ?_
  | with_reducible refine rb_lstK (by exact Nat.le_of_ble_eq_true (by with_unfolding_all rfl)) ?_
  | with_reducible refine rb_bmK (by with_unfolding_all rfl) ?_
  | with_reducible refine rb_wip (by dsimp only [wipeO, List.set] <;> exact rfl) ?_
  | with_reducible refine rb_fldD (by with_unfolding_all rfl) ?_
  | with_reducible refine rb_fldK (by with_unfolding_all rfl) (by with_unfolding_all rfl) ?_
  | with_reducible refine rb_methK (by with_unfolding_all rfl) (by with_unfolding_all rfl) ?_
  | with_reducible refine rl_sfld (by with_unfolding_all rfl) (by with_unfolding_all rfl) (by dsimp [List.set, fput] <;> exact rfl) ?_
  | with_reducible refine rb_isD (by first | assumption | with_unfolding_all rfl) ?_
  | with_reducible refine rb_ren (by assumption) ?_
  | with_reducible refine rb_ren dct_sw ?_
  | with_reducible refine rb_treesK (by dsimp only [allD, Option.map] <;> exact rfl) ?_
  | with_reducible refine rb_tupK (by exact Nat.le_of_ble_eq_true (by with_unfolding_all rfl)) ?_
  | with_reducible refine rb_rg1 (by first | omega | (decide +kernel)) ?_
  | with_reducible refine rb_rg2 (by first | omega | (decide +kernel)) ?_
  | with_reducible refine rb_gPe (by dsimp only [allD, Option.map] <;> exact rfl) rfl (by assumption) ?_
  | with_reducible refine rb_gO (by dsimp only [allD, Option.map] <;> exact rfl) rfl (by assumption) (by dsimp only [List.length_cons, List.length_nil, Nat.reduceAdd] <;> exact rfl) (by dsimp only [List.cons_append, List.nil_append] <;> exact rfl) ?_))
local macro_rules | `(tactic| walk_at "len") => `(tactic| first
  | omega
  | (decide +kernel)
  | grind [L2.cutS_length, Str.length_append, chr1_len])
local macro_rules | `(tactic| walk_at "ok") => `(tactic| first
  | with_reducible assumption
  | ((with_reducible refine okS_app ?_ ?_) <;> walk_at "ok")
  | ((with_reducible refine okS_cut ?_) <;> walk_at "ok")
  | ((with_reducible refine okS_num ?_) <;> omega)
  | ((with_reducible refine okS_chr ?_) <;> omega)
  | (decide +kernel))
local macro_rules | `(tactic| walk_at "br") => `(tactic| first
  | with_reducible refine rb_iteDn (fun h1 => ?_) fun h1 => ?_
  | with_reducible refine rb_iteD (fun h1 => ?_) fun h1 => ?_
  | with_reducible refine rb_ite (fun h1 => ?_) fun h1 => ?_
  | refine rb_mkK rfl ?_)
local macro_rules | `(tactic| walk_at "known") => `(tactic| repeat' (first | (with_reducible refine rb_iteP rfl ?_; walk_at "go") | (with_reducible refine rb_iteN rfl ?_; walk_at "go")))
theorem alike_ok {d : D} (h : Thing d) : F_law_alike [d, d] = some (.ok (.bl true)) := by
  unfold F_law_alike
  refine fp_eq [some (.d d), some (.d d)] rfl ?_
  unfold b_law_alike
  cases h with
  | non =>
    walk_at "go"
    walk_at "known"
    rfl
  | bl b =>
    cases b
    all_goals (walk_at "go"; walk_at "known"; rfl)
  | int i =>
    walk_at "go"
    walk_at "known"
    exact congrArg D.bl (decide_eq_true rfl)
  | str ok =>
    walk_at "go"
    walk_at "known"
    exact congrArg D.bl (decide_eq_true rfl)
  | tup ok i =>
    walk_at "go"
    walk_at "known"
    refine rl_eqL (n := 2) (okN_tup (okNs_cons (okN_str ok) (okNs_cons okN_int okNs_nil))) (by decide) ?_
    walk_at "go"
    rfl
theorem refuse_0 (a b c : D) : F_law_refuse [.int 0, a, b, c] = some (.ex 10 [12] [a]) := by
  unfold F_law_refuse
  refine fx_eq [some (.d (.int 0)), some (.d a), some (.d b), some (.d c)] rfl ?_
  unfold b_law_refuse
  walk_at "go"
  walk_at "known"
  refine rb_raise ?_
  walk_at "go"
  refine rb_thrS rfl ?_
  rfl
theorem classes_0 (a b c : D) : F_law_classes [.exc 10 [12] [a]] = some (.ok (.lst [.bl true, .bl false, .bl false, .bl false, .bl false, .bl false, .bl false, .bl false, .bl false, .bl false])) := by
  unfold F_law_classes
  refine fp_eq [some (.d (.exc 10 [12] [a])), none] rfl ?_
  unfold b_law_classes
  walk_at "go"
  rfl
theorem fields_0 (a b c : D) (ha : Thing a) (hb : Thing b) (hc : Thing c) : F_law_fields [.exc 10 [12] [a], .int 0, a, b, c] = some (.ok (.bl true)) := by
  unfold F_law_fields
  refine fp_eq [some (.d (.exc 10 [12] [a])), some (.d (.int 0)), some (.d a), some (.d b), some (.d c)] rfl ?_
  unfold b_law_fields
  walk_at "go"
  refine rl_in (b := true) (by decide +kernel) ?_
  walk_at "go"
  walk_at "known"
  refine rl_xfld rfl rfl ?_
  walk_at "go"
  refine rb_gPe rfl rfl (alike_ok ha) ?_
  walk_at "go"
  rfl
theorem refuse_1 (a b c : D) : F_law_refuse [.int 1, a, b, c] = some (.ex 11 [13] [a]) := by
  unfold F_law_refuse
  refine fx_eq [some (.d (.int 1)), some (.d a), some (.d b), some (.d c)] rfl ?_
  unfold b_law_refuse
  walk_at "go"
  walk_at "known"
  refine rb_raise ?_
  walk_at "go"
  refine rb_thrS rfl ?_
  rfl
theorem classes_1 (a b c : D) : F_law_classes [.exc 11 [13] [a]] = some (.ok (.lst [.bl false, .bl true, .bl false, .bl false, .bl false, .bl false, .bl false, .bl false, .bl false, .bl false])) := by
  unfold F_law_classes
  refine fp_eq [some (.d (.exc 11 [13] [a])), none] rfl ?_
  unfold b_law_classes
  walk_at "go"
  rfl
theorem fields_1 (a b c : D) (ha : Thing a) (hb : Thing b) (hc : Thing c) : F_law_fields [.exc 11 [13] [a], .int 1, a, b, c] = some (.ok (.bl true)) := by
  unfold F_law_fields
  refine fp_eq [some (.d (.exc 11 [13] [a])), some (.d (.int 1)), some (.d a), some (.d b), some (.d c)] rfl ?_
  unfold b_law_fields
  walk_at "go"
  refine rl_in (b := false) (by decide +kernel) ?_
  walk_at "go"
  walk_at "known"
  refine rl_in (b := true) (by decide +kernel) ?_
  walk_at "go"
  walk_at "known"
  refine rl_xfld rfl rfl ?_
  walk_at "go"
  refine rb_gPe rfl rfl (alike_ok ha) ?_
  walk_at "go"
  rfl
theorem refuse_2 (a b c : D) : F_law_refuse [.int 2, a, b, c] = some (.ex 12 [13] [a]) := by
  unfold F_law_refuse
  refine fx_eq [some (.d (.int 2)), some (.d a), some (.d b), some (.d c)] rfl ?_
  unfold b_law_refuse
  walk_at "go"
  walk_at "known"
  refine rb_raise ?_
  walk_at "go"
  refine rb_thrS rfl ?_
  rfl
theorem classes_2 (a b c : D) : F_law_classes [.exc 12 [13] [a]] = some (.ok (.lst [.bl false, .bl false, .bl true, .bl false, .bl false, .bl false, .bl false, .bl false, .bl false, .bl false])) := by
  unfold F_law_classes
  refine fp_eq [some (.d (.exc 12 [13] [a])), none] rfl ?_
  unfold b_law_classes
  walk_at "go"
  rfl
theorem fields_2 (a b c : D) (ha : Thing a) (hb : Thing b) (hc : Thing c) : F_law_fields [.exc 12 [13] [a], .int 2, a, b, c] = some (.ok (.bl true)) := by
  unfold F_law_fields
  refine fp_eq [some (.d (.exc 12 [13] [a])), some (.d (.int 2)), some (.d a), some (.d b), some (.d c)] rfl ?_
  unfold b_law_fields
  walk_at "go"
  refine rl_in (b := false) (by decide +kernel) ?_
  walk_at "go"
  walk_at "known"
  refine rl_in (b := true) (by decide +kernel) ?_
  walk_at "go"
  walk_at "known"
  refine rl_xfld rfl rfl ?_
  walk_at "go"
  refine rb_gPe rfl rfl (alike_ok ha) ?_
  walk_at "go"
  rfl
theorem refuse_3 (a b c : D) : F_law_refuse [.int 3, a, b, c] = some (.ex 13 [13] [a]) := by
  unfold F_law_refuse
  refine fx_eq [some (.d (.int 3)), some (.d a), some (.d b), some (.d c)] rfl ?_
  unfold b_law_refuse
  walk_at "go"
  walk_at "known"
  refine rb_raise ?_
  walk_at "go"
  refine rb_thrS rfl ?_
  rfl
theorem classes_3 (a b c : D) : F_law_classes [.exc 13 [13] [a]] = some (.ok (.lst [.bl false, .bl false, .bl false, .bl true, .bl false, .bl false, .bl false, .bl false, .bl false, .bl false])) := by
  unfold F_law_classes
  refine fp_eq [some (.d (.exc 13 [13] [a])), none] rfl ?_
  unfold b_law_classes
  walk_at "go"
  rfl
theorem fields_3 (a b c : D) (ha : Thing a) (hb : Thing b) (hc : Thing c) : F_law_fields [.exc 13 [13] [a], .int 3, a, b, c] = some (.ok (.bl true)) := by
  unfold F_law_fields
  refine fp_eq [some (.d (.exc 13 [13] [a])), some (.d (.int 3)), some (.d a), some (.d b), some (.d c)] rfl ?_
  unfold b_law_fields
  walk_at "go"
  refine rl_in (b := false) (by decide +kernel) ?_
  walk_at "go"
  walk_at "known"
  refine rl_in (b := true) (by decide +kernel) ?_
  walk_at "go"
  walk_at "known"
  refine rl_xfld rfl rfl ?_
  walk_at "go"
  refine rb_gPe rfl rfl (alike_ok ha) ?_
  walk_at "go"
  rfl
theorem refuse_4 (a b c : D) : F_law_refuse [.int 4, a, b, c] = some (.ex 14 [] []) := by
  unfold F_law_refuse
  refine fx_eq [some (.d (.int 4)), some (.d a), some (.d b), some (.d c)] rfl ?_
  unfold b_law_refuse
  walk_at "go"
  walk_at "known"
  refine rb_raise ?_
  walk_at "go"
  refine rb_thrS rfl ?_
  rfl
theorem classes_4 (a b c : D) : F_law_classes [.exc 14 [] []] = some (.ok (.lst [.bl false, .bl false, .bl false, .bl false, .bl true, .bl false, .bl false, .bl false, .bl false, .bl false])) := by
  unfold F_law_classes
  refine fp_eq [some (.d (.exc 14 [] [])), none] rfl ?_
  unfold b_law_classes
  walk_at "go"
  rfl
theorem fields_4 (a b c : D) (ha : Thing a) (hb : Thing b) (hc : Thing c) : F_law_fields [.exc 14 [] [], .int 4, a, b, c] = some (.ok (.bl true)) := by
  unfold F_law_fields
  refine fp_eq [some (.d (.exc 14 [] [])), some (.d (.int 4)), some (.d a), some (.d b), some (.d c)] rfl ?_
  unfold b_law_fields
  walk_at "go"
  refine rl_in (b := false) (by decide +kernel) ?_
  walk_at "go"
  walk_at "known"
  refine rl_in (b := false) (by decide +kernel) ?_
  walk_at "go"
  walk_at "known"
  rfl
theorem refuse_5 (a b c : D) : F_law_refuse [.int 5, a, b, c] = some (.ex 15 [15, 14, 1] [c, b, a]) := by
  unfold F_law_refuse
  refine fx_eq [some (.d (.int 5)), some (.d a), some (.d b), some (.d c)] rfl ?_
  unfold b_law_refuse
  walk_at "go"
  walk_at "known"
  refine rb_raise ?_
  refine rb_bnd ?_
  walk_at "go"
  simp only [List.reverse_cons, List.reverse_nil, List.nil_append, List.cons_append]
  walk_at "go"
  refine rb_thrS rfl ?_
  rfl
theorem classes_5 (a b c : D) : F_law_classes [.exc 15 [15, 14, 1] [c, b, a]] = some (.ok (.lst [.bl false, .bl false, .bl false, .bl false, .bl false, .bl true, .bl false, .bl false, .bl false, .bl false])) := by
  unfold F_law_classes
  refine fp_eq [some (.d (.exc 15 [15, 14, 1] [c, b, a])), none] rfl ?_
  unfold b_law_classes
  walk_at "go"
  rfl
theorem fields_5 (a b c : D) (ha : Thing a) (hb : Thing b) (hc : Thing c) : F_law_fields [.exc 15 [15, 14, 1] [c, b, a], .int 5, a, b, c] = some (.ok (.bl true)) := by
  unfold F_law_fields
  refine fp_eq [some (.d (.exc 15 [15, 14, 1] [c, b, a])), some (.d (.int 5)), some (.d a), some (.d b), some (.d c)] rfl ?_
  unfold b_law_fields
  walk_at "go"
  refine rl_in (b := false) (by decide +kernel) ?_
  walk_at "go"
  walk_at "known"
  refine rl_in (b := false) (by decide +kernel) ?_
  walk_at "go"
  walk_at "known"
  refine rl_xfld rfl rfl ?_
  walk_at "go"
  refine rb_gPe rfl rfl (alike_ok ha) ?_
  walk_at "go"
  refine rl_xfld rfl rfl ?_
  walk_at "go"
  refine rb_gPe rfl rfl (alike_ok hb) ?_
  walk_at "go"
  refine rl_xfld rfl rfl ?_
  walk_at "go"
  refine rb_gPe rfl rfl (alike_ok hc) ?_
  walk_at "go"
  rfl
theorem refuse_6 (a b c : D) : F_law_refuse [.int 6, a, b, c] = some (.ex 16 [] []) := by
  unfold F_law_refuse
  refine fx_eq [some (.d (.int 6)), some (.d a), some (.d b), some (.d c)] rfl ?_
  unfold b_law_refuse
  walk_at "go"
  walk_at "known"
  refine rb_raise ?_
  walk_at "go"
  refine rb_thrS rfl ?_
  rfl
theorem classes_6 (a b c : D) : F_law_classes [.exc 16 [] []] = some (.ok (.lst [.bl false, .bl false, .bl false, .bl false, .bl false, .bl false, .bl true, .bl false, .bl false, .bl false])) := by
  unfold F_law_classes
  refine fp_eq [some (.d (.exc 16 [] [])), none] rfl ?_
  unfold b_law_classes
  walk_at "go"
  rfl
theorem fields_6 (a b c : D) (ha : Thing a) (hb : Thing b) (hc : Thing c) : F_law_fields [.exc 16 [] [], .int 6, a, b, c] = some (.ok (.bl true)) := by
  unfold F_law_fields
  refine fp_eq [some (.d (.exc 16 [] [])), some (.d (.int 6)), some (.d a), some (.d b), some (.d c)] rfl ?_
  unfold b_law_fields
  walk_at "go"
  refine rl_in (b := false) (by decide +kernel) ?_
  walk_at "go"
  walk_at "known"
  refine rl_in (b := false) (by decide +kernel) ?_
  walk_at "go"
  walk_at "known"
  rfl
theorem refuse_7 (a b c : D) : F_law_refuse [.int 7, a, b, c] = some (.ex 17 [] []) := by
  unfold F_law_refuse
  refine fx_eq [some (.d (.int 7)), some (.d a), some (.d b), some (.d c)] rfl ?_
  unfold b_law_refuse
  walk_at "go"
  walk_at "known"
  refine rb_raise ?_
  walk_at "go"
  refine rb_thrS rfl ?_
  rfl
theorem classes_7 (a b c : D) : F_law_classes [.exc 17 [] []] = some (.ok (.lst [.bl false, .bl false, .bl false, .bl false, .bl false, .bl false, .bl false, .bl true, .bl false, .bl false])) := by
  unfold F_law_classes
  refine fp_eq [some (.d (.exc 17 [] [])), none] rfl ?_
  unfold b_law_classes
  walk_at "go"
  rfl
theorem fields_7 (a b c : D) (ha : Thing a) (hb : Thing b) (hc : Thing c) : F_law_fields [.exc 17 [] [], .int 7, a, b, c] = some (.ok (.bl true)) := by
  unfold F_law_fields
  refine fp_eq [some (.d (.exc 17 [] [])), some (.d (.int 7)), some (.d a), some (.d b), some (.d c)] rfl ?_
  unfold b_law_fields
  walk_at "go"
  refine rl_in (b := false) (by decide +kernel) ?_
  walk_at "go"
  walk_at "known"
  refine rl_in (b := false) (by decide +kernel) ?_
  walk_at "go"
  walk_at "known"
  rfl
theorem refuse_8 (a b c : D) : F_law_refuse [.int 8, a, b, c] = some (.ex 18 [12] [a]) := by
  unfold F_law_refuse
  refine fx_eq [some (.d (.int 8)), some (.d a), some (.d b), some (.d c)] rfl ?_
  unfold b_law_refuse
  walk_at "go"
  walk_at "known"
  refine rb_raise ?_
  walk_at "go"
  refine rb_thrS rfl ?_
  rfl
theorem classes_8 (a b c : D) : F_law_classes [.exc 18 [12] [a]] = some (.ok (.lst [.bl false, .bl false, .bl false, .bl false, .bl false, .bl false, .bl false, .bl false, .bl true, .bl false])) := by
  unfold F_law_classes
  refine fp_eq [some (.d (.exc 18 [12] [a])), none] rfl ?_
  unfold b_law_classes
  walk_at "go"
  rfl
theorem fields_8 (a b c : D) (ha : Thing a) (hb : Thing b) (hc : Thing c) : F_law_fields [.exc 18 [12] [a], .int 8, a, b, c] = some (.ok (.bl true)) := by
  unfold F_law_fields
  refine fp_eq [some (.d (.exc 18 [12] [a])), some (.d (.int 8)), some (.d a), some (.d b), some (.d c)] rfl ?_
  unfold b_law_fields
  walk_at "go"
  refine rl_in (b := true) (by decide +kernel) ?_
  walk_at "go"
  walk_at "known"
  refine rl_xfld rfl rfl ?_
  walk_at "go"
  refine rb_gPe rfl rfl (alike_ok ha) ?_
  walk_at "go"
  rfl
theorem refuse_9 (a b c : D) : F_law_refuse [.int 9, a, b, c] = some (.ex 19 [] []) := by
  unfold F_law_refuse
  refine fx_eq [some (.d (.int 9)), some (.d a), some (.d b), some (.d c)] rfl ?_
  unfold b_law_refuse
  walk_at "go"
  walk_at "known"
  refine rb_raise ?_
  walk_at "go"
  refine rb_thrS rfl ?_
  rfl
theorem classes_9 (a b c : D) : F_law_classes [.exc 19 [] []] = some (.ok (.lst [.bl false, .bl false, .bl false, .bl false, .bl false, .bl false, .bl false, .bl false, .bl false, .bl true])) := by
  unfold F_law_classes
  refine fp_eq [some (.d (.exc 19 [] [])), none] rfl ?_
  unfold b_law_classes
  walk_at "go"
  rfl
theorem fields_9 (a b c : D) (ha : Thing a) (hb : Thing b) (hc : Thing c) : F_law_fields [.exc 19 [] [], .int 9, a, b, c] = some (.ok (.bl true)) := by
  unfold F_law_fields
  refine fp_eq [some (.d (.exc 19 [] [])), some (.d (.int 9)), some (.d a), some (.d b), some (.d c)] rfl ?_
  unfold b_law_fields
  walk_at "go"
  refine rl_in (b := false) (by decide +kernel) ?_
  walk_at "go"
  walk_at "known"
  refine rl_in (b := false) (by decide +kernel) ?_
  walk_at "go"
  walk_at "known"
  rfl
end Math
namespace Math
open PySem EV Sem
local macro_rules | `(tactic| walk_at "go") => `(tactic| repeat (first
  | with_reducible refine St.run ?_
  | with_reducible refine Se.run ?_
  | (with_reducible refine gd_lft ?_; first 
        | (with_reducible refine gd_ix ?_; first 
        | with_reducible refine rl_ixI (by first | omega | (decide +kernel)) ?_ 
        | with_reducible refine rl_ixI' ?_ ?_ 
        | with_reducible refine rl_ixSk (by with_unfolding_all rfl) ?_ 
        | with_reducible refine rl_ixSs (by first | omega | (decide +kernel)) ?_ 
        | with_reducible refine rl_ixSs' ?_ ?_ 
        | with_reducible refine rl_ixZ (by omega) ?_ 
        | with_reducible refine rl_ixZ' ?_ ?_ 
        | with_reducible refine rl_ixT (by with_unfolding_all rfl) ?_ 
        | with_reducible refine rl_ixL (by with_unfolding_all rfl) ?_ 
        | with_reducible refine rl_ixO (by with_unfolding_all rfl) (by with_unfolding_all rfl) ?_) 
        | (with_reducible refine gd_add ?_; first 
        | with_reducible refine rl_addL (by decide) ?_ 
        | with_reducible refine rl_addS (by first | omega | (decide +kernel)) ?_ 
        | with_reducible refine rl_addS' ?_ ?_ 
        | with_reducible refine rl_addL' ?_ ?_) 
        | (with_reducible refine gd_int ?_; first 
        | with_reducible refine rl_mod (by decide) ?_ 
        | with_reducible refine rl_div (by decide) ?_ 
        | with_reducible refine rl_pow (by decide) ?_ 
        | with_reducible refine rl_mod (by first | omega | (decide +kernel)) ?_ 
        | with_reducible refine rl_div (by first | omega | (decide +kernel)) ?_ 
        | with_reducible refine rl_mod' ?_ ?_ 
        | with_reducible refine rl_div' ?_ ?_) 
        | (with_reducible refine gd_mul ?_; first 
        | with_reducible refine rl_mulI (Or.inr (by decide)) ?_ 
        | with_reducible refine rl_mulI (Or.inl (by decide)) ?_ 
        | with_reducible refine rl_mulI (by first | omega | (decide +kernel)) ?_ 
        | with_reducible refine rl_mulI' ?_ ?_ 
        | with_reducible refine rl_mulS' ?_ ?_) 
        | with_reducible refine rl_newF (by dsimp only [allD, Option.map] <;> exact rfl) ?_ 
        | with_reducible refine rl_append (by with_unfolding_all rfl) (by exact lt_len (by with_unfolding_all rfl)) (by dsimp only [List.set] <;> exact rfl) ?_ 
        | with_reducible refine rl_append' (by with_unfolding_all rfl) (by dsimp only [List.set] <;> exact rfl) ?_ ?_ 
        | with_reducible refine rl_splitR (by assumption) ?_ 
        | with_reducible refine rl_lenS (by first | omega | (decide +kernel)) ?_ 
        | with_reducible refine rl_lenS' ?_ ?_ 
        | with_reducible refine rl_slS (by first | omega | (decide +kernel)) ?_ 
        | with_reducible refine rl_slS' ?_ ?_ 
        | with_reducible refine rl_isi (by with_unfolding_all rfl) ?_ 
        | with_reducible refine rl_clear (by with_unfolding_all rfl) (by dsimp only [List.set] <;> exact rfl) ?_ 
        | with_reducible refine rl_inT ?_ 
        | with_reducible refine rl_inL ?_ 
        | with_reducible refine rl_ninT ?_ 
        | with_reducible refine rl_ninL ?_ 
        | with_reducible refine rl_newKO (by dsimp only [List.length_cons, List.length_nil, Nat.reduceAdd] <;> exact rfl) (by dsimp only [List.cons_append, List.nil_append] <;> exact rfl) ?_ 
        | with_reducible refine rl_dclear (by with_unfolding_all rfl) (by dsimp only [List.set] <;> exact rfl) ?_ 
        | with_reducible refine rl_newO (by dsimp only [List.length_cons, List.length_nil, Nat.reduceAdd] <;> exact rfl) (by dsimp only [List.cons_append, List.nil_append] <;> exact rfl) ?_)
  | (with_reducible refine gd_ite ?_; first 
        | with_reducible refine rb_iteDT rfl ?_ 
        | with_reducible refine rb_iteDnT rfl ?_ 
        | with_reducible refine rb_iteP (by decide) ?_ 
        | with_reducible refine rb_iteN (by decide) ?_)
  | with_reducible refine rb_asgT rfl (by dsimp only [setAll, List.map, List.set] <;> exact rfl) ?_
  | with_reducible refine rb_lstK (by exact Nat.le_of_ble_eq_true (by with_unfolding_all rfl)) ?_
  | with_reducible refine rb_bmK (by with_unfolding_all rfl) ?_
  | with_reducible refine rb_wip (by dsimp only [wipeO, List.set] <;> exact rfl) ?_
  | with_reducible refine rb_fldD (by with_unfolding_all rfl) ?_
  | with_reducible refine rb_fldK (by with_unfolding_all rfl) (by with_unfolding_all rfl) ?_
  | with_reducible refine rb_methK (by with_unfolding_all rfl) (by with_unfolding_all rfl) ?_
  | with_reducible refine rl_sfld (by with_unfolding_all rfl) (by with_unfolding_all rfl) (by dsimp [List.set, fput] <;> exact rfl) ?_
  | with_reducible refine rb_isD (by first | assumption | with_unfolding_all rfl) ?_
  | with_reducible refine rb_ren (by assumption) ?_
  | with_reducible refine rb_ren dct_sw ?_
  | with_reducible refine rb_treesK (by dsimp only [allD, Option.map] <;> exact rfl) ?_
  | with_reducible refine rb_tupK (by exact Nat.le_of_ble_eq_true (by with_unfolding_all rfl)) ?_
  | with_reducible refine rb_rg1 (by first | omega | (decide +kernel)) ?_
  | with_reducible refine rb_rg2 (by first | omega | (decide +kernel)) ?_
  | with_reducible refine rb_gPe (by dsimp only [allD, Option.map] <;> exact rfl) rfl (by assumption) ?_
  | with_reducible refine rb_gO (by dsimp only [allD, Option.map] <;> exact rfl) rfl (by assumption) (by dsimp only [List.length_cons, List.length_nil, Nat.reduceAdd] <;> exact rfl) (by dsimp only [List.cons_append, List.nil_append] <;> exact rfl) ?_))
local macro_rules | `(tactic| walk_at "len") => `(tactic| first
  | omega
  | (decide +kernel)
  | grind [L2.cutS_length, Str.length_append, chr1_len])
local macro_rules | `(tactic| walk_at "ok") => `(tactic| first
  | with_reducible assumption
  | ((with_reducible refine okS_app ?_ ?_) <;> walk_at "ok")
  | ((with_reducible refine okS_cut ?_) <;> walk_at "ok")
  | ((with_reducible refine okS_num ?_) <;> omega)
  | ((with_reducible refine okS_chr ?_) <;> omega)
  | (decide +kernel))
local macro_rules | `(tactic| walk_at "br") => `(tactic| first
  | with_reducible refine rb_iteDn (fun h1 => ?_) fun h1 => ?_
  | with_reducible refine rb_iteD (fun h1 => ?_) fun h1 => ?_
  | with_reducible refine rb_ite (fun h1 => ?_) fun h1 => ?_
  | refine rb_mkK rfl ?_)
local macro_rules | `(tactic| walk_at "known") => `(tactic| repeat' (first | (with_reducible refine rb_iteP rfl ?_; walk_at "go") | (with_reducible refine rb_iteN rfl ?_; walk_at "go")))
theorem rb_rangeT {β : Type} {i : Nat} {j : Int} {k : List D → EM β} {s : SS} {Q : Out β → SS → Prop} (hx : excAt i s.env = true) (hj : j < 1000000000 ∧ -1000000000 < j) (h : EV.Run (k (rngL 0 j.toNat)) s Q) : EV.Run (bnd (range1T i (acons (cst (.int j)) anil)) k) s Q := by
  refine rb_eq ?_ h
  show (if (j < 1000000000 ∧ -1000000000 < j) ∧ excAt i s.env = true then some (Out.ok (rngL 0 j.toNat), s) else none) = _
  rw [if_pos ⟨hj, hx⟩]
theorem all2_eq {α : Type} {f : α → D} {l : List α} {ws : List W} (h : All2 (fun a w => w = W.d (f a)) l ws) : ws = (l.map f).map W.d := by
  induction h with
  | nil => rfl
  | cons h _ ih => rw [h, ih]; rfl
def tens (K : Int) : List D := (List.range 10).map fun (i : Nat) => D.bl (decide (K = 0 + (i : Int)))
theorem ten_ok {β : Type} {K : Int} {a b c e : D} {k : W → EM β} {Q : Out β → SS → Prop} (h : EV.Run (k (.d (.lst (tens K)))) ⟨[some (.d (.int K)), some (.d a), some (.d b), some (.d c), some (.d e), none], []⟩ Q) :
    EV.Run (bnd (compK [5] (.name 5) (pur true) (op2 eqA (var 0) (var 5)) false (rngL 0 (10 : Int).toNat)) k) ⟨[some (.d (.int K)), some (.d a), some (.d b), some (.d c), some (.d e), none], []⟩ Q := by
  unfold rngL
  refine rb_compS (f := fun (i : Nat) => D.int (0 + (i : Int))) (fun i w => w = W.d (D.bl (decide (K = 0 + (i : Int))))) (by dsimp only [List.set] <;> exact rfl) (by rw [List.length_range]; decide) ?_ ?_
  · intro i hi env1 e1
    dsimp only [List.set] at e1
    subst e1
    walk_at "go"
    rfl
  · intro ws hws
    obtain rfl := all2_eq hws
    refine rl_newF (allD_map _) ?_
    exact h
theorem right_0 (a b c : D) (ha : Thing a) (hb : Thing b) (hc : Thing c) : F_law_right [.int 0, a, b, c] = some (.ok (.bl true)) := by
  unfold F_law_right
  refine fp_eq [some (.d (.int 0)), some (.d a), some (.d b), some (.d c), none, none] rfl ?_
  unfold b_law_right
  walk_at "go"
  refine rb_try ?_
  walk_at "go"
  refine rb_gPx rfl rfl (refuse_0 a b c) ⟨rfl, ?_⟩
  refine rb_hdT rfl (by dsimp only [List.set] <;> exact rfl) ?_
  walk_at "go"
  refine rb_gPe rfl rfl (classes_0 a b c) ?_
  walk_at "go"
  refine rb_rangeT rfl (by decide) ?_
  refine ten_ok ?_
  have e : tens 0 = [.bl true, .bl false, .bl false, .bl false, .bl false, .bl false, .bl false, .bl false, .bl false, .bl false] := rfl
  rw [e]
  refine rl_neL (n := 1) (okN_lst ?_) (by decide) ?_
  · repeat (first | exact okNs_nil | refine okNs_cons okN_bl ?_)
  walk_at "go"
  walk_at "known"
  refine rb_gPe rfl rfl (fields_0 a b c ha hb hc) ?_
  walk_at "go"
  refine run_pur ?_
  show EV.Run _ _ _
  dsimp only [List.set]
  walk_at "go"
  rfl
theorem right_1 (a b c : D) (ha : Thing a) (hb : Thing b) (hc : Thing c) : F_law_right [.int 1, a, b, c] = some (.ok (.bl true)) := by
  unfold F_law_right
  refine fp_eq [some (.d (.int 1)), some (.d a), some (.d b), some (.d c), none, none] rfl ?_
  unfold b_law_right
  walk_at "go"
  refine rb_try ?_
  walk_at "go"
  refine rb_gPx rfl rfl (refuse_1 a b c) ⟨rfl, ?_⟩
  refine rb_hdT rfl (by dsimp only [List.set] <;> exact rfl) ?_
  walk_at "go"
  refine rb_gPe rfl rfl (classes_1 a b c) ?_
  walk_at "go"
  refine rb_rangeT rfl (by decide) ?_
  refine ten_ok ?_
  have e : tens 1 = [.bl false, .bl true, .bl false, .bl false, .bl false, .bl false, .bl false, .bl false, .bl false, .bl false] := rfl
  rw [e]
  refine rl_neL (n := 1) (okN_lst ?_) (by decide) ?_
  · repeat (first | exact okNs_nil | refine okNs_cons okN_bl ?_)
  walk_at "go"
  walk_at "known"
  refine rb_gPe rfl rfl (fields_1 a b c ha hb hc) ?_
  walk_at "go"
  refine run_pur ?_
  show EV.Run _ _ _
  dsimp only [List.set]
  walk_at "go"
  rfl
theorem right_2 (a b c : D) (ha : Thing a) (hb : Thing b) (hc : Thing c) : F_law_right [.int 2, a, b, c] = some (.ok (.bl true)) := by
  unfold F_law_right
  refine fp_eq [some (.d (.int 2)), some (.d a), some (.d b), some (.d c), none, none] rfl ?_
  unfold b_law_right
  walk_at "go"
  refine rb_try ?_
  walk_at "go"
  refine rb_gPx rfl rfl (refuse_2 a b c) ⟨rfl, ?_⟩
  refine rb_hdT rfl (by dsimp only [List.set] <;> exact rfl) ?_
  walk_at "go"
  refine rb_gPe rfl rfl (classes_2 a b c) ?_
  walk_at "go"
  refine rb_rangeT rfl (by decide) ?_
  refine ten_ok ?_
  have e : tens 2 = [.bl false, .bl false, .bl true, .bl false, .bl false, .bl false, .bl false, .bl false, .bl false, .bl false] := rfl
  rw [e]
  refine rl_neL (n := 1) (okN_lst ?_) (by decide) ?_
  · repeat (first | exact okNs_nil | refine okNs_cons okN_bl ?_)
  walk_at "go"
  walk_at "known"
  refine rb_gPe rfl rfl (fields_2 a b c ha hb hc) ?_
  walk_at "go"
  refine run_pur ?_
  show EV.Run _ _ _
  dsimp only [List.set]
  walk_at "go"
  rfl
theorem right_3 (a b c : D) (ha : Thing a) (hb : Thing b) (hc : Thing c) : F_law_right [.int 3, a, b, c] = some (.ok (.bl true)) := by
  unfold F_law_right
  refine fp_eq [some (.d (.int 3)), some (.d a), some (.d b), some (.d c), none, none] rfl ?_
  unfold b_law_right
  walk_at "go"
  refine rb_try ?_
  walk_at "go"
  refine rb_gPx rfl rfl (refuse_3 a b c) ⟨rfl, ?_⟩
  refine rb_hdT rfl (by dsimp only [List.set] <;> exact rfl) ?_
  walk_at "go"
  refine rb_gPe rfl rfl (classes_3 a b c) ?_
  walk_at "go"
  refine rb_rangeT rfl (by decide) ?_
  refine ten_ok ?_
  have e : tens 3 = [.bl false, .bl false, .bl false, .bl true, .bl false, .bl false, .bl false, .bl false, .bl false, .bl false] := rfl
  rw [e]
  refine rl_neL (n := 1) (okN_lst ?_) (by decide) ?_
  · repeat (first | exact okNs_nil | refine okNs_cons okN_bl ?_)
  walk_at "go"
  walk_at "known"
  refine rb_gPe rfl rfl (fields_3 a b c ha hb hc) ?_
  walk_at "go"
  refine run_pur ?_
  show EV.Run _ _ _
  dsimp only [List.set]
  walk_at "go"
  rfl
theorem right_4 (a b c : D) (ha : Thing a) (hb : Thing b) (hc : Thing c) : F_law_right [.int 4, a, b, c] = some (.ok (.bl true)) := by
  unfold F_law_right
  refine fp_eq [some (.d (.int 4)), some (.d a), some (.d b), some (.d c), none, none] rfl ?_
  unfold b_law_right
  walk_at "go"
  refine rb_try ?_
  walk_at "go"
  refine rb_gPx rfl rfl (refuse_4 a b c) ⟨rfl, ?_⟩
  refine rb_hdT rfl (by dsimp only [List.set] <;> exact rfl) ?_
  walk_at "go"
  refine rb_gPe rfl rfl (classes_4 a b c) ?_
  walk_at "go"
  refine rb_rangeT rfl (by decide) ?_
  refine ten_ok ?_
  have e : tens 4 = [.bl false, .bl false, .bl false, .bl false, .bl true, .bl false, .bl false, .bl false, .bl false, .bl false] := rfl
  rw [e]
  refine rl_neL (n := 1) (okN_lst ?_) (by decide) ?_
  · repeat (first | exact okNs_nil | refine okNs_cons okN_bl ?_)
  walk_at "go"
  walk_at "known"
  refine rb_gPe rfl rfl (fields_4 a b c ha hb hc) ?_
  walk_at "go"
  refine run_pur ?_
  show EV.Run _ _ _
  dsimp only [List.set]
  walk_at "go"
  rfl
theorem right_5 (a b c : D) (ha : Thing a) (hb : Thing b) (hc : Thing c) : F_law_right [.int 5, a, b, c] = some (.ok (.bl true)) := by
  unfold F_law_right
  refine fp_eq [some (.d (.int 5)), some (.d a), some (.d b), some (.d c), none, none] rfl ?_
  unfold b_law_right
  walk_at "go"
  refine rb_try ?_
  walk_at "go"
  refine rb_gPx rfl rfl (refuse_5 a b c) ⟨rfl, ?_⟩
  refine rb_hdT rfl (by dsimp only [List.set] <;> exact rfl) ?_
  walk_at "go"
  refine rb_gPe rfl rfl (classes_5 a b c) ?_
  walk_at "go"
  refine rb_rangeT rfl (by decide) ?_
  refine ten_ok ?_
  have e : tens 5 = [.bl false, .bl false, .bl false, .bl false, .bl false, .bl true, .bl false, .bl false, .bl false, .bl false] := rfl
  rw [e]
  refine rl_neL (n := 1) (okN_lst ?_) (by decide) ?_
  · repeat (first | exact okNs_nil | refine okNs_cons okN_bl ?_)
  walk_at "go"
  walk_at "known"
  refine rb_gPe rfl rfl (fields_5 a b c ha hb hc) ?_
  walk_at "go"
  refine run_pur ?_
  show EV.Run _ _ _
  dsimp only [List.set]
  walk_at "go"
  rfl
theorem right_6 (a b c : D) (ha : Thing a) (hb : Thing b) (hc : Thing c) : F_law_right [.int 6, a, b, c] = some (.ok (.bl true)) := by
  unfold F_law_right
  refine fp_eq [some (.d (.int 6)), some (.d a), some (.d b), some (.d c), none, none] rfl ?_
  unfold b_law_right
  walk_at "go"
  refine rb_try ?_
  walk_at "go"
  refine rb_gPx rfl rfl (refuse_6 a b c) ⟨rfl, ?_⟩
  refine rb_hdT rfl (by dsimp only [List.set] <;> exact rfl) ?_
  walk_at "go"
  refine rb_gPe rfl rfl (classes_6 a b c) ?_
  walk_at "go"
  refine rb_rangeT rfl (by decide) ?_
  refine ten_ok ?_
  have e : tens 6 = [.bl false, .bl false, .bl false, .bl false, .bl false, .bl false, .bl true, .bl false, .bl false, .bl false] := rfl
  rw [e]
  refine rl_neL (n := 1) (okN_lst ?_) (by decide) ?_
  · repeat (first | exact okNs_nil | refine okNs_cons okN_bl ?_)
  walk_at "go"
  walk_at "known"
  refine rb_gPe rfl rfl (fields_6 a b c ha hb hc) ?_
  walk_at "go"
  refine run_pur ?_
  show EV.Run _ _ _
  dsimp only [List.set]
  walk_at "go"
  rfl
theorem right_7 (a b c : D) (ha : Thing a) (hb : Thing b) (hc : Thing c) : F_law_right [.int 7, a, b, c] = some (.ok (.bl true)) := by
  unfold F_law_right
  refine fp_eq [some (.d (.int 7)), some (.d a), some (.d b), some (.d c), none, none] rfl ?_
  unfold b_law_right
  walk_at "go"
  refine rb_try ?_
  walk_at "go"
  refine rb_gPx rfl rfl (refuse_7 a b c) ⟨rfl, ?_⟩
  refine rb_hdT rfl (by dsimp only [List.set] <;> exact rfl) ?_
  walk_at "go"
  refine rb_gPe rfl rfl (classes_7 a b c) ?_
  walk_at "go"
  refine rb_rangeT rfl (by decide) ?_
  refine ten_ok ?_
  have e : tens 7 = [.bl false, .bl false, .bl false, .bl false, .bl false, .bl false, .bl false, .bl true, .bl false, .bl false] := rfl
  rw [e]
  refine rl_neL (n := 1) (okN_lst ?_) (by decide) ?_
  · repeat (first | exact okNs_nil | refine okNs_cons okN_bl ?_)
  walk_at "go"
  walk_at "known"
  refine rb_gPe rfl rfl (fields_7 a b c ha hb hc) ?_
  walk_at "go"
  refine run_pur ?_
  show EV.Run _ _ _
  dsimp only [List.set]
  walk_at "go"
  rfl
theorem right_8 (a b c : D) (ha : Thing a) (hb : Thing b) (hc : Thing c) : F_law_right [.int 8, a, b, c] = some (.ok (.bl true)) := by
  unfold F_law_right
  refine fp_eq [some (.d (.int 8)), some (.d a), some (.d b), some (.d c), none, none] rfl ?_
  unfold b_law_right
  walk_at "go"
  refine rb_try ?_
  walk_at "go"
  refine rb_gPx rfl rfl (refuse_8 a b c) ⟨rfl, ?_⟩
  refine rb_hdT rfl (by dsimp only [List.set] <;> exact rfl) ?_
  walk_at "go"
  refine rb_gPe rfl rfl (classes_8 a b c) ?_
  walk_at "go"
  refine rb_rangeT rfl (by decide) ?_
  refine ten_ok ?_
  have e : tens 8 = [.bl false, .bl false, .bl false, .bl false, .bl false, .bl false, .bl false, .bl false, .bl true, .bl false] := rfl
  rw [e]
  refine rl_neL (n := 1) (okN_lst ?_) (by decide) ?_
  · repeat (first | exact okNs_nil | refine okNs_cons okN_bl ?_)
  walk_at "go"
  walk_at "known"
  refine rb_gPe rfl rfl (fields_8 a b c ha hb hc) ?_
  walk_at "go"
  refine run_pur ?_
  show EV.Run _ _ _
  dsimp only [List.set]
  walk_at "go"
  rfl
theorem right_9 (a b c : D) (ha : Thing a) (hb : Thing b) (hc : Thing c) : F_law_right [.int 9, a, b, c] = some (.ok (.bl true)) := by
  unfold F_law_right
  refine fp_eq [some (.d (.int 9)), some (.d a), some (.d b), some (.d c), none, none] rfl ?_
  unfold b_law_right
  walk_at "go"
  refine rb_try ?_
  walk_at "go"
  refine rb_gPx rfl rfl (refuse_9 a b c) ⟨rfl, ?_⟩
  refine rb_hdT rfl (by dsimp only [List.set] <;> exact rfl) ?_
  walk_at "go"
  refine rb_gPe rfl rfl (classes_9 a b c) ?_
  walk_at "go"
  refine rb_rangeT rfl (by decide) ?_
  refine ten_ok ?_
  have e : tens 9 = [.bl false, .bl false, .bl false, .bl false, .bl false, .bl false, .bl false, .bl false, .bl false, .bl true] := rfl
  rw [e]
  refine rl_neL (n := 1) (okN_lst ?_) (by decide) ?_
  · repeat (first | exact okNs_nil | refine okNs_cons okN_bl ?_)
  walk_at "go"
  walk_at "known"
  refine rb_gPe rfl rfl (fields_9 a b c ha hb hc) ?_
  walk_at "go"
  refine run_pur ?_
  show EV.Run _ _ _
  dsimp only [List.set]
  walk_at "go"
  rfl
theorem right_ok (k : Int) (hk : 0 ≤ k ∧ k < 10) (a b c : D) (ha : Thing a) (hb : Thing b) (hc : Thing c) : F_law_right [.int k, a, b, c] = some (.ok (.bl true)) := by
  have h : k = 0 ∨ k = 1 ∨ k = 2 ∨ k = 3 ∨ k = 4 ∨ k = 5 ∨ k = 6 ∨ k = 7 ∨ k = 8 ∨ k = 9 := by omega
  rcases h with rfl | rfl | rfl | rfl | rfl | rfl | rfl | rfl | rfl | rfl
  · exact right_0 a b c ha hb hc
  · exact right_1 a b c ha hb hc
  · exact right_2 a b c ha hb hc
  · exact right_3 a b c ha hb hc
  · exact right_4 a b c ha hb hc
  · exact right_5 a b c ha hb hc
  · exact right_6 a b c ha hb hc
  · exact right_7 a b c ha hb hc
  · exact right_8 a b c ha hb hc
  · exact right_9 a b c ha hb hc
end Math
namespace Math
open PySem EV Sem
local macro_rules | `(tactic| walk_at "go") => `(tactic| repeat (first
  | with_reducible refine St.run ?_
  | with_reducible refine Se.run ?_
  | (with_reducible refine gd_lft ?_; first 
        | (with_reducible refine gd_ix ?_; first 
        | with_reducible refine rl_ixI (by first | omega | (decide +kernel)) ?_ 
        | with_reducible refine rl_ixI' ?_ ?_ 
        | with_reducible refine rl_ixSk (by with_unfolding_all rfl) ?_ 
        | with_reducible refine rl_ixSs (by first | omega | (decide +kernel)) ?_ 
        | with_reducible refine rl_ixSs' ?_ ?_ 
        | with_reducible refine rl_ixZ (by omega) ?_ 
        | with_reducible refine rl_ixZ' ?_ ?_ 
        | with_reducible refine rl_ixT (by with_unfolding_all rfl) ?_ 
        | with_reducible refine rl_ixL (by with_unfolding_all rfl) ?_ 
        | with_reducible refine rl_ixO (by with_unfolding_all rfl) (by with_unfolding_all rfl) ?_) 
        | (with_reducible refine gd_add ?_; first 
        | with_reducible refine rl_addL (by decide) ?_ 
        | with_reducible refine rl_addS (by first | omega | (decide +kernel)) ?_ 
        | with_reducible refine rl_addS' ?_ ?_ 
        | with_reducible refine rl_addL' ?_ ?_) 
        | (with_reducible refine gd_int ?_; first 
        | with_reducible refine rl_mod (by decide) ?_ 
        | with_reducible refine rl_div (by decide) ?_ 
        | with_reducible refine rl_pow (by decide) ?_ 
        | with_reducible refine rl_mod (by first | omega | (decide +kernel)) ?_ 
        | with_reducible refine rl_div (by first | omega | (decide +kernel)) ?_ 
        | with_reducible refine rl_mod' ?_ ?_ 
        | with_reducible refine rl_div' ?_ ?_) 
        | (with_reducible refine gd_mul ?_; first 
        | with_reducible refine rl_mulI (Or.inr (by decide)) ?_ 
        | with_reducible refine rl_mulI (Or.inl (by decide)) ?_ 
        | with_reducible refine rl_mulI (by first | omega | (decide +kernel)) ?_ 
        | with_reducible refine rl_mulI' ?_ ?_ 
        | with_reducible refine rl_mulS' ?_ ?_) 
        | with_reducible refine rl_newF (by dsimp only [allD, Option.map] <;> exact rfl) ?_ 
        | with_reducible refine rl_append (by with_unfolding_all rfl) (by exact lt_len (by with_unfolding_all rfl)) (by dsimp only [List.set] <;> exact rfl) ?_ 
        | with_reducible refine rl_append' (by with_unfolding_all rfl) (by dsimp only [List.set] <;> exact rfl) ?_ ?_ 
        | with_reducible refine rl_splitR (by assumption) ?_ 
        | with_reducible refine rl_lenS (by first | omega | (decide +kernel)) ?_ 
        | with_reducible refine rl_lenS' ?_ ?_ 
        | with_reducible refine rl_slS (by first | omega | (decide +kernel)) ?_ 
        | with_reducible refine rl_slS' ?_ ?_ 
        | with_reducible refine rl_isi (by with_unfolding_all rfl) ?_ 
        | with_reducible refine rl_clear (by with_unfolding_all rfl) (by dsimp only [List.set] <;> exact rfl) ?_ 
        | with_reducible refine rl_inT ?_ 
        | with_reducible refine rl_inL ?_ 
        | with_reducible refine rl_ninT ?_ 
        | with_reducible refine rl_ninL ?_ 
        | with_reducible refine rl_newKO (by dsimp only [List.length_cons, List.length_nil, Nat.reduceAdd] <;> exact rfl) (by dsimp only [List.cons_append, List.nil_append] <;> exact rfl) ?_ 
        | with_reducible refine rl_dclear (by with_unfolding_all rfl) (by dsimp only [List.set] <;> exact rfl) ?_ 
        | with_reducible refine rl_newO (by dsimp only [List.length_cons, List.length_nil, Nat.reduceAdd] <;> exact rfl) (by dsimp only [List.cons_append, List.nil_append] <;> exact rfl) ?_)
  | (with_reducible refine gd_ite ?_; first 
        | with_reducible refine rb_iteDT rfl ?_ 
        | with_reducible refine rb_iteDnT rfl ?_ 
        | with_reducible refine rb_iteP (by decide) ?_ 
        | with_reducible refine rb_iteN (by decide) ?_)
  | with_reducible refine rb_asgT rfl (by dsimp only [setAll, List.map, List.set] <;> exact rfl) ?_
  | with_reducible refine rb_lstK (by exact Nat.le_of_ble_eq_true (by with_unfolding_all rfl)) ?_
  | with_reducible refine rb_bmK (by with_unfolding_all rfl) ?_
  | with_reducible refine rb_wip (by dsimp only [wipeO, List.set] <;> exact rfl) ?_
  | with_reducible refine rb_fldD (by with_unfolding_all rfl) ?_
  | with_reducible refine rb_fldK (by with_unfolding_all rfl) (by with_unfolding_all rfl) ?_
  | with_reducible refine rb_methK (by with_unfolding_all rfl) (by with_unfolding_all rfl) ?_
  | with_reducible refine rl_sfld (by with_unfolding_all rfl) (by with_unfolding_all rfl) (by dsimp [List.set, fput] <;> exact rfl) ?_
  | with_reducible refine rb_isD (by first | assumption | with_unfolding_all rfl) ?_
  | with_reducible refine rb_ren (by assumption) ?_
  | with_reducible refine rb_ren dct_sw ?_
  | with_reducible refine rb_treesK (by dsimp only [allD, Option.map] <;> exact rfl) ?_
  | with_reducible refine rb_tupK (by exact Nat.le_of_ble_eq_true (by with_unfolding_all rfl)) ?_
  | with_reducible refine rb_rg1 (by first | omega | (decide +kernel)) ?_
  | with_reducible refine rb_rg2 (by first | omega | (decide +kernel)) ?_
  | with_reducible refine rb_gPe (by dsimp only [allD, Option.map] <;> exact rfl) rfl (by assumption) ?_
  | with_reducible refine rb_gO (by dsimp only [allD, Option.map] <;> exact rfl) rfl (by assumption) (by dsimp only [List.length_cons, List.length_nil, Nat.reduceAdd] <;> exact rfl) (by dsimp only [List.cons_append, List.nil_append] <;> exact rfl) ?_))
local macro_rules | `(tactic| walk_at "len") => `(tactic| first
  | omega
  | (decide +kernel)
  | grind [L2.cutS_length, Str.length_append, chr1_len])
local macro_rules | `(tactic| walk_at "ok") => `(tactic| first
  | with_reducible assumption
  | ((with_reducible refine okS_app ?_ ?_) <;> walk_at "ok")
  | ((with_reducible refine okS_cut ?_) <;> walk_at "ok")
  | ((with_reducible refine okS_num ?_) <;> omega)
  | ((with_reducible refine okS_chr ?_) <;> omega)
  | (decide +kernel))
local macro_rules | `(tactic| walk_at "br") => `(tactic| first
  | with_reducible refine rb_iteDn (fun h1 => ?_) fun h1 => ?_
  | with_reducible refine rb_iteD (fun h1 => ?_) fun h1 => ?_
  | with_reducible refine rb_ite (fun h1 => ?_) fun h1 => ?_
  | refine rb_mkK rfl ?_)
local macro_rules | `(tactic| walk_at "known") => `(tactic| repeat' (first | (with_reducible refine rb_iteP rfl ?_; walk_at "go") | (with_reducible refine rb_iteN rfl ?_; walk_at "go")))
theorem law_true (ns : List Int) (hl : ns.length ≤ 63) : F_law [.fls (ns.map .int)] = some (.ok (.bl true)) := by
  unfold F_law
  refine fp_eq [some (.d (.fls (ns.map .int))), none, none] rfl ?_
  unfold b_law
  walk_at "go"
  have ew : (cutW (ns.map D.int) (some 0) (some 30)) = (cutW ns (some 0) (some 30)).map D.int := cutW_map
  rw [ew]
  refine rb_loop (f := D.int) (fun l s => ∃ x y, s = ⟨[some (.d (.fls (ns.map .int))), x, y], []⟩) ?_ ?_ _ _ ⟨_, _, rfl⟩
  · rintro a l s ⟨x, y, rfl⟩
    walk_at "go"
    refine rb_gP (by dsimp only [allD, Option.map] <;> exact rfl) rfl (stream_ok a 4 (by decide)) ?_
    rintro d ⟨xs, rfl, hlen, hx⟩
    have hlen : xs.length = 4 := hlen
    obtain ⟨p, q, r, t, rfl⟩ : ∃ p q r t, xs = [p, q, r, t] := by
      match xs, hlen with
      | [p, q, r, t], _ => exact ⟨p, q, r, t, rfl⟩
    have h1 := hx q (by simp)
    have h2 := hx r (by simp)
    have h3 := hx t (by simp)
    walk_at "go"
    refine rb_gP (by dsimp only [allD, Option.map] <;> exact rfl) rfl (thing_ok q h1) ?_
    intro d1 t1
    walk_at "go"
    refine rb_gP (by dsimp only [allD, Option.map] <;> exact rfl) rfl (thing_ok r h2) ?_
    intro d2 t2
    walk_at "go"
    refine rb_gP (by dsimp only [allD, Option.map] <;> exact rfl) rfl (thing_ok t h3) ?_
    intro d3 t3
    walk_at "go"
    refine rb_gPe rfl rfl (right_ok _ ⟨?_, ?_⟩ d1 d2 d3 t1 t2 t3) ?_
    · exact Int.emod_nonneg _ (by decide)
    · exact Int.emod_lt_of_pos _ (by decide)
    walk_at "go"
    walk_at "known"
    exact ⟨_, _, rfl⟩
  · rintro s ⟨x, y, rfl⟩
    walk_at "go"
    rfl
end Math
namespace Walk
open PySem PySem.Spec PyProof.Rows L2 EV Sem
def topS (i : Nat) : Stmt := PySem.Challenge.pw_pactway_k17_refusals.main.body.getD i (.Pass ⟨0, 0, 0, 0⟩)
abbrev s_NoText__init : Stmt := (inClass (topS 2) 0)
abbrev n_NoText__init : List Str := ["self", "row"]
theorem sc_NoText__init : FnScope n_NoText__init ["self", "row"] (defScope s_NoText__init) := ⟨rfl, rfl, rfl, by decide +kernel, rfl, by decide +kernel, by decide +kernel⟩
abbrev s_NoName__init : Stmt := (inClass (topS 3) 0)
abbrev n_NoName__init : List Str := ["self", "word"]
theorem sc_NoName__init : FnScope n_NoName__init ["self", "word"] (defScope s_NoName__init) := ⟨rfl, rfl, rfl, by decide +kernel, rfl, by decide +kernel, by decide +kernel⟩
abbrev s_CalmRoom__init : Stmt := (inClass (topS 4) 0)
abbrev n_CalmRoom__init : List Str := ["self", "word"]
theorem sc_CalmRoom__init : FnScope n_CalmRoom__init ["self", "word"] (defScope s_CalmRoom__init) := ⟨rfl, rfl, rfl, by decide +kernel, rfl, by decide +kernel, by decide +kernel⟩
abbrev s_NoDeed__init : Stmt := (inClass (topS 5) 0)
abbrev n_NoDeed__init : List Str := ["self", "word"]
theorem sc_NoDeed__init : FnScope n_NoDeed__init ["self", "word"] (defScope s_NoDeed__init) := ⟨rfl, rfl, rfl, by decide +kernel, rfl, by decide +kernel, by decide +kernel⟩
abbrev s_Breach__init : Stmt := (inClass (topS 7) 0)
abbrev n_Breach__init : List Str := ["self", "who", "what", "turn"]
theorem sc_Breach__init : FnScope n_Breach__init ["self", "who", "what", "turn"] (defScope s_Breach__init) := ⟨rfl, rfl, rfl, by decide +kernel, rfl, by decide +kernel, by decide +kernel⟩
abbrev s_NoChange__init : Stmt := (inClass (topS 10) 0)
abbrev n_NoChange__init : List Str := ["self", "row"]
theorem sc_NoChange__init : FnScope n_NoChange__init ["self", "row"] (defScope s_NoChange__init) := ⟨rfl, rfl, rfl, by decide +kernel, rfl, by decide +kernel, by decide +kernel⟩
abbrev s_law_stream : Stmt := (topS 13)
abbrev n_law_stream : List Str := ["_law_cell", "_law_many", "_law_found", "_law_number", "_law_k"]
theorem sc_law_stream : FnScope n_law_stream ["_law_cell", "_law_many"] (defScope s_law_stream) := ⟨rfl, rfl, rfl, by decide +kernel, rfl, by decide +kernel, by decide +kernel⟩
abbrev s_law_thing : Stmt := (topS 14)
abbrev n_law_thing : List Str := ["_law_number", "_law_some", "_law_kind", "_law_word", "_law_k"]
theorem sc_law_thing : FnScope n_law_thing ["_law_number"] (defScope s_law_thing) := ⟨rfl, rfl, rfl, by decide +kernel, rfl, by decide +kernel, by decide +kernel⟩
abbrev s_law_refuse : Stmt := (topS 15)
abbrev n_law_refuse : List Str := ["_law_kind", "_law_one", "_law_two", "_law_three"]
theorem sc_law_refuse : FnScope n_law_refuse ["_law_kind", "_law_one", "_law_two", "_law_three"] (defScope s_law_refuse) := ⟨rfl, rfl, rfl, by decide +kernel, rfl, by decide +kernel, by decide +kernel⟩
abbrev s_law_classes : Stmt := (topS 16)
abbrev n_law_classes : List Str := ["_law_e", "_law_found"]
theorem sc_law_classes : FnScope n_law_classes ["_law_e"] (defScope s_law_classes) := ⟨rfl, rfl, rfl, by decide +kernel, rfl, by decide +kernel, by decide +kernel⟩
abbrev s_law_alike : Stmt := (topS 17)
abbrev n_law_alike : List Str := ["_law_found", "_law_due"]
theorem sc_law_alike : FnScope n_law_alike ["_law_found", "_law_due"] (defScope s_law_alike) := ⟨rfl, rfl, rfl, by decide +kernel, rfl, by decide +kernel, by decide +kernel⟩
abbrev s_law_fields : Stmt := (topS 18)
abbrev n_law_fields : List Str := ["_law_e", "_law_kind", "_law_one", "_law_two", "_law_three"]
theorem sc_law_fields : FnScope n_law_fields ["_law_e", "_law_kind", "_law_one", "_law_two", "_law_three"] (defScope s_law_fields) := ⟨rfl, rfl, rfl, by decide +kernel, rfl, by decide +kernel, by decide +kernel⟩
abbrev s_law_right : Stmt := (topS 19)
abbrev n_law_right : List Str := ["_law_kind", "_law_one", "_law_two", "_law_three", "_law_e", "_law_k"]
theorem sc_law_right : FnScope n_law_right ["_law_kind", "_law_one", "_law_two", "_law_three"] (defScope s_law_right) := ⟨rfl, rfl, rfl, by decide +kernel, rfl, by decide +kernel, by decide +kernel⟩
abbrev s_law : Stmt := (topS 20)
abbrev n_law : List Str := ["_law_script", "_law_cell", "_law_xs"]
theorem sc_law : FnScope n_law ["_law_script"] (defScope s_law) := ⟨rfl, rfl, rfl, by decide +kernel, rfl, by decide +kernel, by decide +kernel⟩
structure Txt (c : Kx) (mg : Str → Option Value) (c_PactError c_NoText c_NoName c_CalmRoom c_NoDeed c_TooMany c_Breach c_NoStand c_NoPair c_NoChange c_NoRow a_NoText__init a_NoName__init a_CalmRoom__init a_NoDeed__init a_Breach__init a_NoChange__init a_law_stream a_law_thing a_law_refuse a_law_classes a_law_alike a_law_fields a_law_right a_law : Addr) : Prop where
  d_NoText__init : DefAt c.K "__init__" "NoText.__init__" s_NoText__init a_NoText__init ["self", "row"]
  d_NoName__init : DefAt c.K "__init__" "NoName.__init__" s_NoName__init a_NoName__init ["self", "word"]
  d_CalmRoom__init : DefAt c.K "__init__" "CalmRoom.__init__" s_CalmRoom__init a_CalmRoom__init ["self", "word"]
  d_NoDeed__init : DefAt c.K "__init__" "NoDeed.__init__" s_NoDeed__init a_NoDeed__init ["self", "word"]
  d_Breach__init : DefAt c.K "__init__" "Breach.__init__" s_Breach__init a_Breach__init ["self", "who", "what", "turn"]
  d_NoChange__init : DefAt c.K "__init__" "NoChange.__init__" s_NoChange__init a_NoChange__init ["self", "row"]
  d_law_stream : DefAt c.K "_law_stream" "_law_stream" s_law_stream a_law_stream ["_law_cell", "_law_many"]
  m_law_stream : mg "_law_stream" = some (.ref a_law_stream)
  d_law_thing : DefAt c.K "_law_thing" "_law_thing" s_law_thing a_law_thing ["_law_number"]
  m_law_thing : mg "_law_thing" = some (.ref a_law_thing)
  d_law_refuse : DefAt c.K "_law_refuse" "_law_refuse" s_law_refuse a_law_refuse ["_law_kind", "_law_one", "_law_two", "_law_three"]
  m_law_refuse : mg "_law_refuse" = some (.ref a_law_refuse)
  d_law_classes : DefAt c.K "_law_classes" "_law_classes" s_law_classes a_law_classes ["_law_e"]
  m_law_classes : mg "_law_classes" = some (.ref a_law_classes)
  d_law_alike : DefAt c.K "_law_alike" "_law_alike" s_law_alike a_law_alike ["_law_found", "_law_due"]
  m_law_alike : mg "_law_alike" = some (.ref a_law_alike)
  d_law_fields : DefAt c.K "_law_fields" "_law_fields" s_law_fields a_law_fields ["_law_e", "_law_kind", "_law_one", "_law_two", "_law_three"]
  m_law_fields : mg "_law_fields" = some (.ref a_law_fields)
  d_law_right : DefAt c.K "_law_right" "_law_right" s_law_right a_law_right ["_law_kind", "_law_one", "_law_two", "_law_three"]
  m_law_right : mg "_law_right" = some (.ref a_law_right)
  d_law : DefAt c.K "law" "law" s_law a_law ["_law_script"]
  m_law : mg "law" = some (.ref a_law)
  b_ValueError : mg "ValueError" = none
  b_bool : mg "bool" = none
  b_int : mg "int" = none
  b_isinstance : mg "isinstance" = none
  b_len : mg "len" = none
  b_range : mg "range" = none
  fn12 : c.fn[12]? = some ("row" : Str)
  ct_NoText : c.ct[10]? = some c_NoText
  na_row_10 : NaL c "row" [(10, c_NoText)]
  fn13 : c.fn[13]? = some ("word" : Str)
  ct_NoName : c.ct[11]? = some c_NoName
  na_word_11 : NaL c "word" [(11, c_NoName)]
  ct_CalmRoom : c.ct[12]? = some c_CalmRoom
  na_word_12 : NaL c "word" [(12, c_CalmRoom)]
  ct_NoDeed : c.ct[13]? = some c_NoDeed
  na_word_13 : NaL c "word" [(13, c_NoDeed)]
  fn15 : c.fn[15]? = some ("turn" : Str)
  ct_Breach : c.ct[15]? = some c_Breach
  na_turn_15 : NaL c "turn" [(15, c_Breach)]
  fn14 : c.fn[14]? = some ("what" : Str)
  na_what_15 : NaL c "what" [(15, c_Breach)]
  fn1 : c.fn[1]? = some ("who" : Str)
  na_who_15 : NaL c "who" [(15, c_Breach)]
  ct_NoChange : c.ct[18]? = some c_NoChange
  na_row_18 : NaL c "row" [(18, c_NoChange)]
  e0_NoRow : PySem.W.excIn c.K c_NoRow [.type "ValueError", .type "Exception", .type "BaseException", .type "object"] "ValueError.__new__" = true
  kx_NoRow : PySem.W.keepIn c.K (.ref c_NoRow) = true
  ex_NoRow : PySem.W.subIn c.K (.ref c_NoRow) (.type "BaseException") = some true
  iy_NoRow : PySem.W.typeIn c.K (.ref c_NoRow) = some (.type "type")
  ct_NoRow : c.ct[19]? = some c_NoRow
  mc_NoRow : mg "NoRow" = some (.ref c_NoRow)
  nx_NoChange_row : PySem.W.findIn c.K (.ref c_NoChange) "row" = some none
  ox_NoChange : OexC c.K c_NoChange
  ie_NoChange : PySem.W.findIn c.K (.ref c_NoChange) "__init__" = some (some (.ref a_NoChange__init))
  tI_NoChange__init : PySem.W.typeIn c.K (.ref a_NoChange__init) = some (.type "function")
  mc_NoChange : mg "NoChange" = some (.ref c_NoChange)
  e0_NoPair : PySem.W.excIn c.K c_NoPair [.type "ValueError", .type "Exception", .type "BaseException", .type "object"] "ValueError.__new__" = true
  kx_NoPair : PySem.W.keepIn c.K (.ref c_NoPair) = true
  ex_NoPair : PySem.W.subIn c.K (.ref c_NoPair) (.type "BaseException") = some true
  iy_NoPair : PySem.W.typeIn c.K (.ref c_NoPair) = some (.type "type")
  ct_NoPair : c.ct[17]? = some c_NoPair
  mc_NoPair : mg "NoPair" = some (.ref c_NoPair)
  e0_NoStand : PySem.W.excIn c.K c_NoStand [.type "ValueError", .type "Exception", .type "BaseException", .type "object"] "ValueError.__new__" = true
  kx_NoStand : PySem.W.keepIn c.K (.ref c_NoStand) = true
  ex_NoStand : PySem.W.subIn c.K (.ref c_NoStand) (.type "BaseException") = some true
  iy_NoStand : PySem.W.typeIn c.K (.ref c_NoStand) = some (.type "type")
  ct_NoStand : c.ct[16]? = some c_NoStand
  mc_NoStand : mg "NoStand" = some (.ref c_NoStand)
  nx_Breach_who : PySem.W.findIn c.K (.ref c_Breach) "who" = some none
  nx_Breach_what : PySem.W.findIn c.K (.ref c_Breach) "what" = some none
  nx_Breach_turn : PySem.W.findIn c.K (.ref c_Breach) "turn" = some none
  ox_Breach : OexC c.K c_Breach
  ie_Breach : PySem.W.findIn c.K (.ref c_Breach) "__init__" = some (some (.ref a_Breach__init))
  tI_Breach__init : PySem.W.typeIn c.K (.ref a_Breach__init) = some (.type "function")
  mc_Breach : mg "Breach" = some (.ref c_Breach)
  e0_TooMany : PySem.W.excIn c.K c_TooMany [.type "ValueError", .type "Exception", .type "BaseException", .type "object"] "ValueError.__new__" = true
  kx_TooMany : PySem.W.keepIn c.K (.ref c_TooMany) = true
  ex_TooMany : PySem.W.subIn c.K (.ref c_TooMany) (.type "BaseException") = some true
  iy_TooMany : PySem.W.typeIn c.K (.ref c_TooMany) = some (.type "type")
  ct_TooMany : c.ct[14]? = some c_TooMany
  mc_TooMany : mg "TooMany" = some (.ref c_TooMany)
  nx_NoDeed_word : PySem.W.findIn c.K (.ref c_NoDeed) "word" = some none
  ox_NoDeed : OexC c.K c_NoDeed
  ie_NoDeed : PySem.W.findIn c.K (.ref c_NoDeed) "__init__" = some (some (.ref a_NoDeed__init))
  tI_NoDeed__init : PySem.W.typeIn c.K (.ref a_NoDeed__init) = some (.type "function")
  mc_NoDeed : mg "NoDeed" = some (.ref c_NoDeed)
  nx_CalmRoom_word : PySem.W.findIn c.K (.ref c_CalmRoom) "word" = some none
  ox_CalmRoom : OexC c.K c_CalmRoom
  ie_CalmRoom : PySem.W.findIn c.K (.ref c_CalmRoom) "__init__" = some (some (.ref a_CalmRoom__init))
  tI_CalmRoom__init : PySem.W.typeIn c.K (.ref a_CalmRoom__init) = some (.type "function")
  mc_CalmRoom : mg "CalmRoom" = some (.ref c_CalmRoom)
  nx_NoName_word : PySem.W.findIn c.K (.ref c_NoName) "word" = some none
  ox_NoName : OexC c.K c_NoName
  ie_NoName : PySem.W.findIn c.K (.ref c_NoName) "__init__" = some (some (.ref a_NoName__init))
  tI_NoName__init : PySem.W.typeIn c.K (.ref a_NoName__init) = some (.type "function")
  mc_NoName : mg "NoName" = some (.ref c_NoName)
  nx_NoText_row : PySem.W.findIn c.K (.ref c_NoText) "row" = some none
  ox_NoText : OexC c.K c_NoText
  ie_NoText : PySem.W.findIn c.K (.ref c_NoText) "__init__" = some (some (.ref a_NoText__init))
  tI_NoText__init : PySem.W.typeIn c.K (.ref a_NoText__init) = some (.type "function")
  mc_NoText : mg "NoText" = some (.ref c_NoText)
  q_NoRow : ∀ t b, q_NoRow.lookup t = some b → TyFact c (.ref c_NoRow) t b
  q_NoChange : ∀ t b, q_NoChange.lookup t = some b → TyFact c (.ref c_NoChange) t b
  q_NoPair : ∀ t b, q_NoPair.lookup t = some b → TyFact c (.ref c_NoPair) t b
  q_NoStand : ∀ t b, q_NoStand.lookup t = some b → TyFact c (.ref c_NoStand) t b
  q_Breach : ∀ t b, q_Breach.lookup t = some b → TyFact c (.ref c_Breach) t b
  q_TooMany : ∀ t b, q_TooMany.lookup t = some b → TyFact c (.ref c_TooMany) t b
  q_NoDeed : ∀ t b, q_NoDeed.lookup t = some b → TyFact c (.ref c_NoDeed) t b
  q_CalmRoom : ∀ t b, q_CalmRoom.lookup t = some b → TyFact c (.ref c_CalmRoom) t b
  q_NoName : ∀ t b, q_NoName.lookup t = some b → TyFact c (.ref c_NoName) t b
  q_NoText : ∀ t b, q_NoText.lookup t = some b → TyFact c (.ref c_NoText) t b
  xf_turn : XfL c "turn" [15]
  nf : 37 ≤ c.fn.length
  xf_what : XfL c "what" [15]
  xf_who : XfL c "who" [15]
  xf_word : XfL c "word" [11, 12, 13]
  xf_row : XfL c "row" [10, 18]
  q_ValueError : ∀ t b, q_ValueError.lookup t = some b → TyFact c (.type "ValueError") t b
  el_PactError_10_11_12_13_14_15_16_17_18_19 : ExL c (.ref c_PactError) [10, 11, 12, 13, 14, 15, 16, 17, 18, 19] [9, 10, 11, 12, 13, 14, 15, 16, 17, 18, 19]
  mc_PactError : mg "PactError" = some (.ref c_PactError)
  q_bool : ∀ t b, q_bool.lookup t = some b → TyFact c (.type "bool") t b
  q_int : ∀ t b, q_int.lookup t = some b → TyFact c (.type "int") t b
section
variable {P : Program} {w : World} {mg : Str → Option Value} {base : Heap} {c : Kx} {c_PactError c_NoText c_NoName c_CalmRoom c_NoDeed c_TooMany c_Breach c_NoStand c_NoPair c_NoChange c_NoRow a_NoText__init a_NoName__init a_CalmRoom__init a_NoDeed__init a_Breach__init a_NoChange__init a_law_stream a_law_thing a_law_refuse a_law_classes a_law_alike a_law_fields a_law_right a_law : Addr}
theorem fx_NoChange__init (T : Txt c mg c_PactError c_NoText c_NoName c_CalmRoom c_NoDeed c_TooMany c_Breach c_NoStand c_NoPair c_NoChange c_NoRow a_NoText__init a_NoName__init a_CalmRoom__init a_NoDeed__init a_Breach__init a_NoChange__init a_law_stream a_law_thing a_law_refuse a_law_classes a_law_alike a_law_fields a_law_right a_law) : FnS P w c.K mg base 1 a_NoChange__init (spX1 c_NoChange "row") [] :=
  fn_x1 T.d_NoChange__init sc_NoChange__init T.ox_NoChange T.nx_NoChange_row rfl fun cdv A outer s H E => pss_one (ps_ost (pv 0) (pv 1))
theorem fx_Breach__init (T : Txt c mg c_PactError c_NoText c_NoName c_CalmRoom c_NoDeed c_TooMany c_Breach c_NoStand c_NoPair c_NoChange c_NoRow a_NoText__init a_NoName__init a_CalmRoom__init a_NoDeed__init a_Breach__init a_NoChange__init a_law_stream a_law_thing a_law_refuse a_law_classes a_law_alike a_law_fields a_law_right a_law) : FnS P w c.K mg base 1 a_Breach__init (spX3 c_Breach "who" "what" "turn") [] :=
  fn_x3 T.d_Breach__init sc_Breach__init T.ox_Breach T.nx_Breach_who T.nx_Breach_what T.nx_Breach_turn rfl fun cdv A outer s H E => pss_cons (ps_ost (pv 0) (pv 1)) (pss_cons (ps_ost (pv 0) (pv 2)) (pss_one (ps_ost (pv 0) (pv 3))))
theorem fx_NoDeed__init (T : Txt c mg c_PactError c_NoText c_NoName c_CalmRoom c_NoDeed c_TooMany c_Breach c_NoStand c_NoPair c_NoChange c_NoRow a_NoText__init a_NoName__init a_CalmRoom__init a_NoDeed__init a_Breach__init a_NoChange__init a_law_stream a_law_thing a_law_refuse a_law_classes a_law_alike a_law_fields a_law_right a_law) : FnS P w c.K mg base 1 a_NoDeed__init (spX1 c_NoDeed "word") [] :=
  fn_x1 T.d_NoDeed__init sc_NoDeed__init T.ox_NoDeed T.nx_NoDeed_word rfl fun cdv A outer s H E => pss_one (ps_ost (pv 0) (pv 1))
theorem fx_CalmRoom__init (T : Txt c mg c_PactError c_NoText c_NoName c_CalmRoom c_NoDeed c_TooMany c_Breach c_NoStand c_NoPair c_NoChange c_NoRow a_NoText__init a_NoName__init a_CalmRoom__init a_NoDeed__init a_Breach__init a_NoChange__init a_law_stream a_law_thing a_law_refuse a_law_classes a_law_alike a_law_fields a_law_right a_law) : FnS P w c.K mg base 1 a_CalmRoom__init (spX1 c_CalmRoom "word") [] :=
  fn_x1 T.d_CalmRoom__init sc_CalmRoom__init T.ox_CalmRoom T.nx_CalmRoom_word rfl fun cdv A outer s H E => pss_one (ps_ost (pv 0) (pv 1))
theorem fx_NoName__init (T : Txt c mg c_PactError c_NoText c_NoName c_CalmRoom c_NoDeed c_TooMany c_Breach c_NoStand c_NoPair c_NoChange c_NoRow a_NoText__init a_NoName__init a_CalmRoom__init a_NoDeed__init a_Breach__init a_NoChange__init a_law_stream a_law_thing a_law_refuse a_law_classes a_law_alike a_law_fields a_law_right a_law) : FnS P w c.K mg base 1 a_NoName__init (spX1 c_NoName "word") [] :=
  fn_x1 T.d_NoName__init sc_NoName__init T.ox_NoName T.nx_NoName_word rfl fun cdv A outer s H E => pss_one (ps_ost (pv 0) (pv 1))
theorem fx_NoText__init (T : Txt c mg c_PactError c_NoText c_NoName c_CalmRoom c_NoDeed c_TooMany c_Breach c_NoStand c_NoPair c_NoChange c_NoRow a_NoText__init a_NoName__init a_CalmRoom__init a_NoDeed__init a_Breach__init a_NoChange__init a_law_stream a_law_thing a_law_refuse a_law_classes a_law_alike a_law_fields a_law_right a_law) : FnS P w c.K mg base 1 a_NoText__init (spX1 c_NoText "row") [] :=
  fn_x1 T.d_NoText__init sc_NoText__init T.ox_NoText T.nx_NoText_row rfl fun cdv A outer s H E => pss_one (ps_ost (pv 0) (pv 1))
theorem fs_law_refuse (T : Txt c mg c_PactError c_NoText c_NoName c_CalmRoom c_NoDeed c_TooMany c_Breach c_NoStand c_NoPair c_NoChange c_NoRow a_NoText__init a_NoName__init a_CalmRoom__init a_NoDeed__init a_Breach__init a_NoChange__init a_law_stream a_law_thing a_law_refuse a_law_classes a_law_alike a_law_fields a_law_right a_law) : FnS P w c.K mg base 3 a_law_refuse (spF c 4 (bodyF 4 b_law_refuse)) [] :=
  FnS.of T.d_law_refuse sc_law_refuse (by decide) fun cdv A outer s H E hr => (ess_cons (es_if (et_cmp (op_eqA hr.units) (nomark _) s2_eqA (ee_var 0 rfl (pv 0)) (ee_int rfl)) (ess_one (es_raise1 rfl (L2N.takes_of rfl rfl rfl rfl) T.ct_NoText T.fn12 T.ox_NoText T.ie_NoText T.tI_NoText__init ((fx_NoText__init T).mono (Nat.le_refl _)) (hr.mono (by decide)) (by rfl) T.mc_NoText (ea_cons (ee_var 1 rfl (pv 1)) (ea_nil rfl)))) (ess_nil rfl)) (ess_cons (es_if (et_cmp (op_eqA hr.units) (nomark _) s2_eqA (ee_var 0 rfl (pv 0)) (ee_int rfl)) (ess_one (es_raise1 rfl (L2N.takes_of rfl rfl rfl rfl) T.ct_NoName T.fn13 T.ox_NoName T.ie_NoName T.tI_NoName__init ((fx_NoName__init T).mono (Nat.le_refl _)) (hr.mono (by decide)) (by rfl) T.mc_NoName (ea_cons (ee_var 1 rfl (pv 1)) (ea_nil rfl)))) (ess_nil rfl)) (ess_cons (es_if (et_cmp (op_eqA hr.units) (nomark _) s2_eqA (ee_var 0 rfl (pv 0)) (ee_int rfl)) (ess_one (es_raise1 rfl (L2N.takes_of rfl rfl rfl rfl) T.ct_CalmRoom T.fn13 T.ox_CalmRoom T.ie_CalmRoom T.tI_CalmRoom__init ((fx_CalmRoom__init T).mono (Nat.le_refl _)) (hr.mono (by decide)) (by rfl) T.mc_CalmRoom (ea_cons (ee_var 1 rfl (pv 1)) (ea_nil rfl)))) (ess_nil rfl)) (ess_cons (es_if (et_cmp (op_eqA hr.units) (nomark _) s2_eqA (ee_var 0 rfl (pv 0)) (ee_int rfl)) (ess_one (es_raise1 rfl (L2N.takes_of rfl rfl rfl rfl) T.ct_NoDeed T.fn13 T.ox_NoDeed T.ie_NoDeed T.tI_NoDeed__init ((fx_NoDeed__init T).mono (Nat.le_refl _)) (hr.mono (by decide)) (by rfl) T.mc_NoDeed (ea_cons (ee_var 1 rfl (pv 1)) (ea_nil rfl)))) (ess_nil rfl)) (ess_cons (es_if (et_cmp (op_eqA hr.units) (nomark _) s2_eqA (ee_var 0 rfl (pv 0)) (ee_int rfl)) (ess_one (es_raise0 rfl rfl (L2N.takes_of rfl rfl rfl rfl) T.ct_TooMany PySem.F.excBase_ValueError T.e0_TooMany T.kx_TooMany T.ex_TooMany T.iy_TooMany (by rfl) T.mc_TooMany)) (ess_nil rfl)) (ess_cons (es_if (et_cmp (op_eqA hr.units) (nomark _) s2_eqA (ee_var 0 rfl (pv 0)) (ee_int rfl)) (ess_one (es_raise3 rfl (L2N.takes_of rfl rfl rfl rfl) T.ct_Breach T.fn1 T.fn14 T.fn15 T.ox_Breach T.ie_Breach T.tI_Breach__init ((fx_Breach__init T).mono (Nat.le_refl _)) (hr.mono (by decide)) (by rfl) T.mc_Breach (ea_cons (ee_var 1 rfl (pv 1)) (ea_cons (ee_var 2 rfl (pv 2)) (ea_cons (ee_var 3 rfl (pv 3)) (ea_nil rfl)))))) (ess_nil rfl)) (ess_cons (es_if (et_cmp (op_eqA hr.units) (nomark _) s2_eqA (ee_var 0 rfl (pv 0)) (ee_int rfl)) (ess_one (es_raise0 rfl rfl (L2N.takes_of rfl rfl rfl rfl) T.ct_NoStand PySem.F.excBase_ValueError T.e0_NoStand T.kx_NoStand T.ex_NoStand T.iy_NoStand (by rfl) T.mc_NoStand)) (ess_nil rfl)) (ess_cons (es_if (et_cmp (op_eqA hr.units) (nomark _) s2_eqA (ee_var 0 rfl (pv 0)) (ee_int rfl)) (ess_one (es_raise0 rfl rfl (L2N.takes_of rfl rfl rfl rfl) T.ct_NoPair PySem.F.excBase_ValueError T.e0_NoPair T.kx_NoPair T.ex_NoPair T.iy_NoPair (by rfl) T.mc_NoPair)) (ess_nil rfl)) (ess_cons (es_if (et_cmp (op_eqA hr.units) (nomark _) s2_eqA (ee_var 0 rfl (pv 0)) (ee_int rfl)) (ess_one (es_raise1 rfl (L2N.takes_of rfl rfl rfl rfl) T.ct_NoChange T.fn12 T.ox_NoChange T.ie_NoChange T.tI_NoChange__init ((fx_NoChange__init T).mono (Nat.le_refl _)) (hr.mono (by decide)) (by rfl) T.mc_NoChange (ea_cons (ee_var 1 rfl (pv 1)) (ea_nil rfl)))) (ess_nil rfl)) (ess_one (es_raise0 rfl rfl (L2N.takes_of rfl rfl rfl rfl) T.ct_NoRow PySem.F.excBase_ValueError T.e0_NoRow T.kx_NoRow T.ex_NoRow T.iy_NoRow (by rfl) T.mc_NoRow)))))))))))
theorem fs_law_alike (T : Txt c mg c_PactError c_NoText c_NoName c_CalmRoom c_NoDeed c_TooMany c_Breach c_NoStand c_NoPair c_NoChange c_NoRow a_NoText__init a_NoName__init a_CalmRoom__init a_NoDeed__init a_Breach__init a_NoChange__init a_law_stream a_law_thing a_law_refuse a_law_classes a_law_alike a_law_fields a_law_right a_law) : FnST P w c.K mg base 1 a_law_alike (spF c 2 (bodyF 2 b_law_alike)) :=
  FnST.of T.d_law_alike sc_law_alike (by decide) fun cdv A outer s H E hr => (ess_cons (es_if (et_cmp op_isN (nomark _) s2_isN (ee_var 1 rfl (pv 1)) (ee_non rfl)) (ess_one (es_ret (ee_cmp op_isN (nomark _) s2_isN (ee_var 0 rfl (pv 0)) (ee_non rfl)))) (ess_nil rfl)) (ess_cons (es_if (et_cmp op_isAB (nomark _) s2_isAB (ee_var 1 rfl (pv 1)) (ee_bl rfl)) (ess_one (es_ret (ee_cmp op_isAB (nomark _) s2_isAB (ee_var 0 rfl (pv 0)) (ee_bl rfl)))) (ess_nil rfl)) (ess_cons (es_if (et_cmp op_isAB (nomark _) s2_isAB (ee_var 1 rfl (pv 1)) (ee_bl rfl)) (ess_one (es_ret (ee_cmp op_isAB (nomark _) s2_isAB (ee_var 0 rfl (pv 0)) (ee_bl rfl)))) (ess_nil rfl)) (ess_cons (es_if (et_val (ee_isi (d2 := .ty "int") (.ty "int") T.q_int ty_only (by rfl) T.b_isinstance (ee_var 1 rfl (pv 1)) (ee_bltn rfl (by rfl) T.b_int (by decide +kernel) (v := .ty "int") rfl (fun _ => .ty "int")))) (ess_one (es_ret (ee_and (ee_isi (d2 := .ty "int") (.ty "int") T.q_int ty_only (by rfl) T.b_isinstance (ee_var 0 rfl (pv 0)) (ee_bltn rfl (by rfl) T.b_int (by decide +kernel) (v := .ty "int") rfl (fun _ => .ty "int"))) (ee_and (ee_not (ee_isi (d2 := .ty "bool") (.ty "bool") T.q_bool ty_only (by rfl) T.b_isinstance (ee_var 0 rfl (pv 0)) (ee_bltn rfl (by rfl) T.b_bool (by decide +kernel) (v := .ty "bool") rfl (fun _ => .ty "bool")))) (ee_one (ee_cmp (op_eqA hr.units) (nomark _) s2_eqA (ee_var 0 rfl (pv 0)) (ee_var 1 rfl (pv 1)))))))) (ess_nil rfl)) (ess_one (es_ret (ee_cmp (op_eqA hr.units) (nomark _) s2_eqA (ee_var 0 rfl (pv 0)) (ee_var 1 rfl (pv 1)))))))))
theorem fs_law_fields (T : Txt c mg c_PactError c_NoText c_NoName c_CalmRoom c_NoDeed c_TooMany c_Breach c_NoStand c_NoPair c_NoChange c_NoRow a_NoText__init a_NoName__init a_CalmRoom__init a_NoDeed__init a_Breach__init a_NoChange__init a_law_stream a_law_thing a_law_refuse a_law_classes a_law_alike a_law_fields a_law_right a_law) : FnST P w c.K mg base 2 a_law_fields (spF c 5 (bodyF 5 b_law_fields)) :=
  FnST.of T.d_law_fields sc_law_fields (by decide) fun cdv A outer s H E hr => (ess_cons (es_if (et_cmp (op_inA (room65T hr)) rfl s2_inA (ee_var 1 rfl (pv 1)) (ee_tup (ea_cons (ee_int rfl) (ea_cons (ee_int rfl) (ea_nil rfl))))) (ess_one (es_ret (ee_callT spA_P ((fs_law_alike T).P.mono (Nat.le_refl _)) (hr.mono (by decide)) (L2N.takes_of rfl rfl rfl rfl) (by rfl) T.m_law_alike (ea_cons (ee_xfld (known := [10, 18]) (n := 37) (i := 12) T.nf T.fn12 T.xf_row (ee_var 0 rfl (pv 0))) (ea_cons (ee_var 2 rfl (pv 2)) (ea_nil rfl)))))) (ess_nil rfl)) (ess_cons (es_if (et_cmp (op_inA (room65T hr)) rfl s2_inA (ee_var 1 rfl (pv 1)) (ee_tup (ea_cons (ee_int rfl) (ea_cons (ee_int rfl) (ea_cons (ee_int rfl) (ea_nil rfl)))))) (ess_one (es_ret (ee_callT spA_P ((fs_law_alike T).P.mono (Nat.le_refl _)) (hr.mono (by decide)) (L2N.takes_of rfl rfl rfl rfl) (by rfl) T.m_law_alike (ea_cons (ee_xfld (known := [11, 12, 13]) (n := 37) (i := 13) T.nf T.fn13 T.xf_word (ee_var 0 rfl (pv 0))) (ea_cons (ee_var 2 rfl (pv 2)) (ea_nil rfl)))))) (ess_nil rfl)) (ess_cons (es_if (et_cmp (op_eqA hr.units) (nomark _) s2_eqA (ee_var 1 rfl (pv 1)) (ee_int rfl)) (ess_one (es_ret (ee_and (ee_callT spA_P ((fs_law_alike T).P.mono (Nat.le_refl _)) (hr.mono (by decide)) (L2N.takes_of rfl rfl rfl rfl) (by rfl) T.m_law_alike (ea_cons (ee_xfld (known := [15]) (n := 37) (i := 1) T.nf T.fn1 T.xf_who (ee_var 0 rfl (pv 0))) (ea_cons (ee_var 2 rfl (pv 2)) (ea_nil rfl)))) (ee_and (ee_callT spA_P ((fs_law_alike T).P.mono (Nat.le_refl _)) (hr.mono (by decide)) (L2N.takes_of rfl rfl rfl rfl) (by rfl) T.m_law_alike (ea_cons (ee_xfld (known := [15]) (n := 37) (i := 14) T.nf T.fn14 T.xf_what (ee_var 0 rfl (pv 0))) (ea_cons (ee_var 3 rfl (pv 3)) (ea_nil rfl)))) (ee_one (ee_callT spA_P ((fs_law_alike T).P.mono (Nat.le_refl _)) (hr.mono (by decide)) (L2N.takes_of rfl rfl rfl rfl) (by rfl) T.m_law_alike (ea_cons (ee_xfld (known := [15]) (n := 37) (i := 15) T.nf T.fn15 T.xf_turn (ee_var 0 rfl (pv 0))) (ea_cons (ee_var 4 rfl (pv 4)) (ea_nil rfl))))))))) (ess_nil rfl)) (ess_one (es_ret (ee_bl rfl))))))
theorem fs_law_classes (T : Txt c mg c_PactError c_NoText c_NoName c_CalmRoom c_NoDeed c_TooMany c_Breach c_NoStand c_NoPair c_NoChange c_NoRow a_NoText__init a_NoName__init a_CalmRoom__init a_NoDeed__init a_Breach__init a_NoChange__init a_law_stream a_law_thing a_law_refuse a_law_classes a_law_alike a_law_fields a_law_right a_law) : FnST P w c.K mg base 1 a_law_classes (spF c 1 (bodyF 2 b_law_classes)) :=
  FnST.of T.d_law_classes sc_law_classes (by decide) fun cdv A outer s H E hr => (ess_cons (es_asg (ee_lst (own := false) (ea_cons (ee_isi (d2 := .ref c_NoText) (.own c_NoText) T.q_NoText ref_only (by rfl) T.b_isinstance (ee_var 0 rfl (pv 0)) (ee_glob (d := .ref c_NoText) (v := .ref c_NoText) rfl (by rfl) T.mc_NoText rfl (fun _ => .ref _))) (ea_cons (ee_isi (d2 := .ref c_NoName) (.own c_NoName) T.q_NoName ref_only (by rfl) T.b_isinstance (ee_var 0 rfl (pv 0)) (ee_glob (d := .ref c_NoName) (v := .ref c_NoName) rfl (by rfl) T.mc_NoName rfl (fun _ => .ref _))) (ea_cons (ee_isi (d2 := .ref c_CalmRoom) (.own c_CalmRoom) T.q_CalmRoom ref_only (by rfl) T.b_isinstance (ee_var 0 rfl (pv 0)) (ee_glob (d := .ref c_CalmRoom) (v := .ref c_CalmRoom) rfl (by rfl) T.mc_CalmRoom rfl (fun _ => .ref _))) (ea_cons (ee_isi (d2 := .ref c_NoDeed) (.own c_NoDeed) T.q_NoDeed ref_only (by rfl) T.b_isinstance (ee_var 0 rfl (pv 0)) (ee_glob (d := .ref c_NoDeed) (v := .ref c_NoDeed) rfl (by rfl) T.mc_NoDeed rfl (fun _ => .ref _))) (ea_nil rfl)))))) (eg_name (pg_name (i := 1) sc_law_classes.nd rfl (by first | exact Or.inl rfl | exact Or.inr rfl)))) (ess_cons (es_asg (ee_op op_addA (s2_addA false) (ee_var 1 rfl (pv 1)) (ee_lst (own := false) (ea_cons (ee_isi (d2 := .ref c_TooMany) (.own c_TooMany) T.q_TooMany ref_only (by rfl) T.b_isinstance (ee_var 0 rfl (pv 0)) (ee_glob (d := .ref c_TooMany) (v := .ref c_TooMany) rfl (by rfl) T.mc_TooMany rfl (fun _ => .ref _))) (ea_cons (ee_isi (d2 := .ref c_Breach) (.own c_Breach) T.q_Breach ref_only (by rfl) T.b_isinstance (ee_var 0 rfl (pv 0)) (ee_glob (d := .ref c_Breach) (v := .ref c_Breach) rfl (by rfl) T.mc_Breach rfl (fun _ => .ref _))) (ea_cons (ee_isi (d2 := .ref c_NoStand) (.own c_NoStand) T.q_NoStand ref_only (by rfl) T.b_isinstance (ee_var 0 rfl (pv 0)) (ee_glob (d := .ref c_NoStand) (v := .ref c_NoStand) rfl (by rfl) T.mc_NoStand rfl (fun _ => .ref _))) (ea_nil rfl)))))) (eg_name (pg_name (i := 1) sc_law_classes.nd rfl (by first | exact Or.inl rfl | exact Or.inr rfl)))) (ess_one (es_ret (ee_op op_addA (s2_addA false) (ee_var 1 rfl (pv 1)) (ee_lst (own := false) (ea_cons (ee_isi (d2 := .ref c_NoPair) (.own c_NoPair) T.q_NoPair ref_only (by rfl) T.b_isinstance (ee_var 0 rfl (pv 0)) (ee_glob (d := .ref c_NoPair) (v := .ref c_NoPair) rfl (by rfl) T.mc_NoPair rfl (fun _ => .ref _))) (ea_cons (ee_isi (d2 := .ref c_NoChange) (.own c_NoChange) T.q_NoChange ref_only (by rfl) T.b_isinstance (ee_var 0 rfl (pv 0)) (ee_glob (d := .ref c_NoChange) (v := .ref c_NoChange) rfl (by rfl) T.mc_NoChange rfl (fun _ => .ref _))) (ea_cons (ee_isi (d2 := .ref c_NoRow) (.own c_NoRow) T.q_NoRow ref_only (by rfl) T.b_isinstance (ee_var 0 rfl (pv 0)) (ee_glob (d := .ref c_NoRow) (v := .ref c_NoRow) rfl (by rfl) T.mc_NoRow rfl (fun _ => .ref _))) (ea_nil rfl))))))))))
theorem fs_law_right (T : Txt c mg c_PactError c_NoText c_NoName c_CalmRoom c_NoDeed c_TooMany c_Breach c_NoStand c_NoPair c_NoChange c_NoRow a_NoText__init a_NoName__init a_CalmRoom__init a_NoDeed__init a_Breach__init a_NoChange__init a_law_stream a_law_thing a_law_refuse a_law_classes a_law_alike a_law_fields a_law_right a_law) : FnS P w c.K mg base 4 a_law_right (spF c 4 (bodyF 6 b_law_right)) [] :=
  FnS.of T.d_law_right sc_law_right (by decide) fun cdv A outer s H E hr => (ess_cons (es_try (known := [10, 11, 12, 13, 14, 15, 16, 17, 18, 19]) rfl rfl rfl rfl sc_law_right.nd (L2N.takes_of rfl rfl rfl rfl) (fun W pn xe tk hp => (ess_one (es_expr (ee_call spA_P DefOk.nil ((fs_law_refuse T).P.mono (Nat.le_refl _)) (hr.mono (by decide)) tk (by rfl) T.m_law_refuse (ea_cons (ee_var 0 rfl (pv 0)) (ea_cons (ee_var 1 rfl (pv 1)) (ea_cons (ee_var 2 rfl (pv 2)) (ea_cons (ee_var 3 rfl (pv 3)) (ea_nil rfl))))))))) (HdE.cons (i := 4) ⟨by rfl, by decide, .inl T.mc_PactError⟩ rfl rfl T.el_PactError_10_11_12_13_14_15_16_17_18_19 (fun a pn => (ess_consT (es_ifT (EWh.et (ew_orT (et_cmpT (op_neA hr.units) (nomark _) s2_neA (ee_callT spA_P ((fs_law_classes T).P.mono (Nat.le_refl _)) (RoomT.marked (hr.mono (by decide)) _) takes0T (by rfl) T.m_law_classes (ea_cons (ee_var 4 rfl (pv 4)) (ea_nil rfl))) (ee_lcT (ownr := false) (own := [("_law_k", 5)]) (handled_suite _ _ _) sc_law_right.nd (by rfl) T.b_range (ea_cons (ee_int rfl) (ea_nil rfl)) (blkOk_by (own := [("_law_k", 5)]) (N := n_law_right) (sc := defScope s_law_right) (by decide +kernel)) (by decide) (fun _ _ _ _ _ => (eg_name (pg_name (i := 5) sc_law_right.nd rfl (by first | exact Or.inl rfl | exact Or.inr rfl)))) (fun _ _ _ _ _ => ets_nil) (fun _ _ _ _ _ => (ee_cmp (op_eqA (by exact hr.units)) (nomark _) s2_eqA (ee_var 0 rfl (pv 0)) (ee_var 5 rfl (pv 5)))))) (ew_or1 (et_not (et_val (ee_isi (d2 := .ty "ValueError") (.ty "ValueError") T.q_ValueError ty_only (by rfl) T.b_isinstance (ee_var 4 rfl (pv 4)) (ee_bltn rfl (by rfl) T.b_ValueError (by decide +kernel) (v := .ty "ValueError") rfl (fun _ => .ty "ValueError")))))))) (ess_one (es_ret (ee_bl rfl))) (ess_nil rfl)) (ess_one (es_ret (ee_callT spA_P ((fs_law_fields T).P.mono (Nat.le_refl _)) (RoomT.marked (hr.mono (by decide)) _) takes0T (by rfl) T.m_law_fields (ea_cons (ee_var 4 rfl (pv 4)) (ea_cons (ee_var 0 rfl (pv 0)) (ea_cons (ee_var 1 rfl (pv 1)) (ea_cons (ee_var 2 rfl (pv 2)) (ea_cons (ee_var 3 rfl (pv 3)) (ea_nil rfl))))))))))) HdE.nil)) (ess_one (es_ret (ee_bl rfl))))
theorem fs_law_thing (T : Txt c mg c_PactError c_NoText c_NoName c_CalmRoom c_NoDeed c_TooMany c_Breach c_NoStand c_NoPair c_NoChange c_NoRow a_NoText__init a_NoName__init a_CalmRoom__init a_NoDeed__init a_Breach__init a_NoChange__init a_law_stream a_law_thing a_law_refuse a_law_classes a_law_alike a_law_fields a_law_right a_law) : FnS P w c.K mg base 1 a_law_thing (spF c 1 (bodyF 5 b_law_thing)) [] :=
  FnS.of T.d_law_thing sc_law_thing (by decide) fun cdv A outer s H E hr => (ess_cons (es_asg (ee_str rfl) (eg_name (pg_name (i := 1) sc_law_thing.nd rfl (by first | exact Or.inl rfl | exact Or.inr rfl)))) (ess_cons (es_asg (ee_op op_addA (s2_addA false) (ee_var 1 rfl (pv 1)) (ee_str rfl)) (eg_name (pg_name (i := 1) sc_law_thing.nd rfl (by first | exact Or.inl rfl | exact Or.inr rfl)))) (ess_cons (es_asg (ee_op op_mod s2_mod (ee_var 0 rfl (pv 0)) (ee_int rfl)) (eg_name (pg_name (i := 2) sc_law_thing.nd rfl (by first | exact Or.inl rfl | exact Or.inr rfl)))) (ess_cons (es_asg (ee_bm sm_join PySem.F.plainAttrs_str PySem.F.slot_str_join PySem.F.type_str_join mt_join (ee_str rfl) (ea_cons (ee_lc (ownr := false) (own := [("_law_k", 4)]) rfl sc_law_thing.nd (ei_range1 (by rfl) T.b_range (ea_cons (ee_op op_mod s2_mod (ee_op op_fdivW s2_div (ee_var 0 rfl (pv 0)) (ee_int rfl)) (ee_int rfl)) (ea_nil rfl))) (blkOk_by (own := [("_law_k", 4)]) (N := n_law_thing) (sc := defScope s_law_thing) (by decide +kernel)) (by decide) (fun _ _ _ _ _ => (eg_name (pg_name (i := 4) sc_law_thing.nd rfl (by first | exact Or.inl rfl | exact Or.inr rfl)))) (fun _ _ _ _ _ => ets_nil) (fun _ _ _ _ _ => (ee_ix (ee_var 1 rfl (pv 1)) (ee_op op_mod s2_mod (ee_op op_fdivW s2_div (ee_var 0 rfl (pv 0)) (ee_op op_addA (s2_addA false) (ee_int rfl) (ee_var 4 rfl (pv 4)))) (ee_cb call_len sn_len (by rfl) T.b_len (by decide +kernel) (ea_cons (ee_var 1 rfl (pv 1)) (ea_nil rfl)))) (fun _ _ => rfl)))) (ea_nil rfl))) (eg_name (pg_name (i := 3) sc_law_thing.nd rfl (by first | exact Or.inl rfl | exact Or.inr rfl)))) (ess_cons (es_if (et_cmp (op_eqA hr.units) (nomark _) s2_eqA (ee_var 2 rfl (pv 2)) (ee_int rfl)) (ess_one (es_ret (ee_non rfl))) (ess_nil rfl)) (ess_cons (es_if (et_cmp (op_eqA hr.units) (nomark _) s2_eqA (ee_var 2 rfl (pv 2)) (ee_int rfl)) (ess_one (es_ret (ee_cmp (op_eqA hr.units) (nomark _) s2_eqA (ee_op op_mod s2_mod (ee_op op_fdivW s2_div (ee_var 0 rfl (pv 0)) (ee_int rfl)) (ee_int rfl)) (ee_int rfl)))) (ess_nil rfl)) (ess_cons (es_if (et_cmp (op_eqA hr.units) (nomark _) s2_eqA (ee_var 2 rfl (pv 2)) (ee_int rfl)) (ess_one (es_ret (ee_tup (ea_cons (ee_var 3 rfl (pv 3)) (ea_cons (ee_var 0 rfl (pv 0)) (ea_nil rfl)))))) (ess_nil rfl)) (ess_cons (es_if (et_cmp (op_eqA hr.units) (nomark _) s2_eqA (ee_var 2 rfl (pv 2)) (ee_int rfl)) (ess_one (es_ret (ee_op op_sub s2_sub (ee_int rfl) (ee_var 0 rfl (pv 0))))) (ess_nil rfl)) (ess_cons (es_if (et_cmp (op_eqA hr.units) (nomark _) s2_eqA (ee_var 2 rfl (pv 2)) (ee_int rfl)) (ess_one (es_ret (ee_op op_addA (s2_addA false) (ee_op op_mulA (s2_mulA false) (ee_op op_addA (s2_addA false) (ee_var 0 rfl (pv 0)) (ee_int rfl)) (ee_op op_pow s2_pow (ee_int rfl) (ee_int rfl))) (ee_var 0 rfl (pv 0))))) (ess_nil rfl)) (ess_cons (es_if (et_cmp (op_eqA hr.units) (nomark _) s2_eqA (ee_var 2 rfl (pv 2)) (ee_int rfl)) (ess_one (es_ret (ee_op op_mod s2_mod (ee_op op_fdivW s2_div (ee_var 0 rfl (pv 0)) (ee_int rfl)) (ee_int rfl)))) (ess_nil rfl)) (ess_one (es_ret (ee_var 3 rfl (pv 3))))))))))))))
theorem fs_law_stream (T : Txt c mg c_PactError c_NoText c_NoName c_CalmRoom c_NoDeed c_TooMany c_Breach c_NoStand c_NoPair c_NoChange c_NoRow a_NoText__init a_NoName__init a_CalmRoom__init a_NoDeed__init a_Breach__init a_NoChange__init a_law_stream a_law_thing a_law_refuse a_law_classes a_law_alike a_law_fields a_law_right a_law) : FnS P w c.K mg base 1 a_law_stream (spF c 2 (bodyF 5 b_law_stream)) [] :=
  FnS.of T.d_law_stream sc_law_stream (by decide) fun cdv A outer s H E hr => (ess_cons (es_asg (ee_lst (own := true) (ea_nil rfl)) (eg_name (pg_name (i := 2) sc_law_stream.nd rfl (by first | exact Or.inl rfl | exact Or.inr rfl)))) (ess_cons (es_asg (ee_op op_mod s2_mod (ee_var 0 rfl (pv 0)) (ee_int rfl)) (eg_name (pg_name (i := 3) sc_law_stream.nd rfl (by first | exact Or.inl rfl | exact Or.inr rfl)))) (ess_cons (es_for (passes_of rfl) rfl (ei_range1 (by rfl) T.b_range (ea_cons (ee_var 1 rfl (pv 1)) (ea_nil rfl))) (eg_name (pg_name (i := 4) sc_law_stream.nd rfl (by first | exact Or.inl rfl | exact Or.inr rfl))) (ess_cons (es_asg (ee_op op_mod s2_mod (ee_op op_addA (s2_addA false) (ee_op op_addA (s2_addA false) (ee_op op_mulA (s2_mulA false) (ee_var 3 rfl (pv 3)) (ee_int rfl)) (ee_op op_mulA (s2_mulA false) (ee_op op_mulA (s2_mulA false) (ee_int rfl) (ee_var 4 rfl (pv 4))) (ee_var 4 rfl (pv 4)))) (ee_int rfl)) (ee_int rfl)) (eg_name (pg_name (i := 3) sc_law_stream.nd rfl (by first | exact Or.inl rfl | exact Or.inr rfl)))) (ess_one (es_expr (ee_bm sm_append PySem.F.plainAttrs_list PySem.F.slot_list_append PySem.F.type_list_append mt_append (ee_var 2 rfl (pv 2)) (ea_cons (ee_op op_fdivW s2_div (ee_var 3 rfl (pv 3)) (ee_int rfl)) (ea_nil rfl))))))) (ess_one (es_ret (ee_var 2 rfl (pv 2)))))))
theorem fs_law (T : Txt c mg c_PactError c_NoText c_NoName c_CalmRoom c_NoDeed c_TooMany c_Breach c_NoStand c_NoPair c_NoChange c_NoRow a_NoText__init a_NoName__init a_CalmRoom__init a_NoDeed__init a_Breach__init a_NoChange__init a_law_stream a_law_thing a_law_refuse a_law_classes a_law_alike a_law_fields a_law_right a_law) : FnS P w c.K mg base 5 a_law (spF c 1 (bodyF 3 b_law)) [] :=
  FnS.of T.d_law sc_law (by decide) fun cdv A outer s H E hr => (ess_cons (es_for (passes_of rfl) rfl (ei_seq (ee_slice (own := false) (ee_var 0 rfl (pv 0)) (eo_some (ee_int rfl)) (eo_some (ee_int rfl)))) (eg_name (pg_name (i := 1) sc_law.nd rfl (by first | exact Or.inl rfl | exact Or.inr rfl))) (ess_cons (es_asg (ee_call spA_P DefOk.nil ((fs_law_stream T).P.mono (Nat.le_refl _)) (hr.mono (by decide)) (L2N.takes_of rfl rfl rfl rfl) (by rfl) T.m_law_stream (ea_cons (ee_var 1 rfl (pv 1)) (ea_cons (ee_int rfl) (ea_nil rfl)))) (eg_name (pg_name (i := 2) sc_law.nd rfl (by first | exact Or.inl rfl | exact Or.inr rfl)))) (ess_one (es_if (et_not (et_val (ee_call spA_P DefOk.nil ((fs_law_right T).P.mono (Nat.le_refl _)) (hr.mono (by decide)) (L2N.takes_of rfl rfl rfl rfl) (by rfl) T.m_law_right (ea_cons (ee_op op_mod s2_mod (ee_ix (ee_var 2 rfl (pv 2)) (ee_int rfl) (fun _ _ => rfl)) (ee_int rfl)) (ea_cons (ee_call spA_P DefOk.nil ((fs_law_thing T).P.mono (Nat.le_refl _)) (hr.mono (by decide)) (L2N.takes_of rfl rfl rfl rfl) (by rfl) T.m_law_thing (ea_cons (ee_ix (ee_var 2 rfl (pv 2)) (ee_int rfl) (fun _ _ => rfl)) (ea_nil rfl))) (ea_cons (ee_call spA_P DefOk.nil ((fs_law_thing T).P.mono (Nat.le_refl _)) (hr.mono (by decide)) (L2N.takes_of rfl rfl rfl rfl) (by rfl) T.m_law_thing (ea_cons (ee_ix (ee_var 2 rfl (pv 2)) (ee_int rfl) (fun _ _ => rfl)) (ea_nil rfl))) (ea_cons (ee_call spA_P DefOk.nil ((fs_law_thing T).P.mono (Nat.le_refl _)) (hr.mono (by decide)) (L2N.takes_of rfl rfl rfl rfl) (by rfl) T.m_law_thing (ea_cons (ee_ix (ee_var 2 rfl (pv 2)) (ee_int rfl) (fun _ _ => rfl)) (ea_nil rfl))) (ea_nil rfl)))))))) (ess_one (es_ret (ee_bl rfl))) (ess_nil rfl))))) (ess_one (es_ret (ee_bl rfl))))
end
theorem all_mk {l : PySem.W.OpenLaw} {w : World} {K : PySem.W.Frag} {h : Heap} {mg : Str → Option Value} {fa : Addr} {c_PactError c_NoText c_NoName c_CalmRoom c_NoDeed c_TooMany c_Breach c_NoStand c_NoPair c_NoChange c_NoRow a_NoText__init a_NoName__init a_CalmRoom__init a_NoDeed__init a_Breach__init a_NoChange__init a_law_stream a_law_thing a_law_refuse a_law_classes a_law_alike a_law_fields a_law_right a_law : Addr} {fo_NoText__init fkV_NoText__init fdc_NoText__init fpm_NoText__init fcd_NoText__init fct_NoText__init : Value} {fod_NoText__init fan_NoText__init : Option Addr} {fsl_NoText__init : Array (Option Value)} {fo_NoName__init fkV_NoName__init fdc_NoName__init fpm_NoName__init fcd_NoName__init fct_NoName__init : Value} {fod_NoName__init fan_NoName__init : Option Addr} {fsl_NoName__init : Array (Option Value)} {fo_CalmRoom__init fkV_CalmRoom__init fdc_CalmRoom__init fpm_CalmRoom__init fcd_CalmRoom__init fct_CalmRoom__init : Value} {fod_CalmRoom__init fan_CalmRoom__init : Option Addr} {fsl_CalmRoom__init : Array (Option Value)} {fo_NoDeed__init fkV_NoDeed__init fdc_NoDeed__init fpm_NoDeed__init fcd_NoDeed__init fct_NoDeed__init : Value} {fod_NoDeed__init fan_NoDeed__init : Option Addr} {fsl_NoDeed__init : Array (Option Value)} {fo_Breach__init fkV_Breach__init fdc_Breach__init fpm_Breach__init fcd_Breach__init fct_Breach__init : Value} {fod_Breach__init fan_Breach__init : Option Addr} {fsl_Breach__init : Array (Option Value)} {fo_NoChange__init fkV_NoChange__init fdc_NoChange__init fpm_NoChange__init fcd_NoChange__init fct_NoChange__init : Value} {fod_NoChange__init fan_NoChange__init : Option Addr} {fsl_NoChange__init : Array (Option Value)} {fo_law_stream fkV_law_stream fdc_law_stream fpm_law_stream fcd_law_stream fct_law_stream : Value} {fod_law_stream fan_law_stream : Option Addr} {fsl_law_stream : Array (Option Value)} {fo_law_thing fkV_law_thing fdc_law_thing fpm_law_thing fcd_law_thing fct_law_thing : Value} {fod_law_thing fan_law_thing : Option Addr} {fsl_law_thing : Array (Option Value)} {fo_law_refuse fkV_law_refuse fdc_law_refuse fpm_law_refuse fcd_law_refuse fct_law_refuse : Value} {fod_law_refuse fan_law_refuse : Option Addr} {fsl_law_refuse : Array (Option Value)} {fo_law_classes fkV_law_classes fdc_law_classes fpm_law_classes fcd_law_classes fct_law_classes : Value} {fod_law_classes fan_law_classes : Option Addr} {fsl_law_classes : Array (Option Value)} {fo_law_alike fkV_law_alike fdc_law_alike fpm_law_alike fcd_law_alike fct_law_alike : Value} {fod_law_alike fan_law_alike : Option Addr} {fsl_law_alike : Array (Option Value)} {fo_law_fields fkV_law_fields fdc_law_fields fpm_law_fields fcd_law_fields fct_law_fields : Value} {fod_law_fields fan_law_fields : Option Addr} {fsl_law_fields : Array (Option Value)} {fo_law_right fkV_law_right fdc_law_right fpm_law_right fcd_law_right fct_law_right : Value} {fod_law_right fan_law_right : Option Addr} {fsl_law_right : Array (Option Value)} {fo_law fkV_law fdc_law fpm_law fcd_law fct_law : Value} {fod_law fan_law : Option Addr} {fsl_law : Array (Option Value)} {xn_NoText xq_NoText : _} {xN_NoText : _} {xb_NoText : _} {xm_NoText : _} {xs_NoText : _} {xu_NoText : _} {xa_NoText : _} {xc_NoText : _} {xd_NoText : _} {x0_NoText x1_NoText x2_NoText x3_NoText x5_NoText : _} {xn_NoName xq_NoName : _} {xN_NoName : _} {xb_NoName : _} {xm_NoName : _} {xs_NoName : _} {xu_NoName : _} {xa_NoName : _} {xc_NoName : _} {xd_NoName : _} {x0_NoName x1_NoName x2_NoName x3_NoName x5_NoName : _} {xn_CalmRoom xq_CalmRoom : _} {xN_CalmRoom : _} {xb_CalmRoom : _} {xm_CalmRoom : _} {xs_CalmRoom : _} {xu_CalmRoom : _} {xa_CalmRoom : _} {xc_CalmRoom : _} {xd_CalmRoom : _} {x0_CalmRoom x1_CalmRoom x2_CalmRoom x3_CalmRoom x5_CalmRoom : _} {xn_NoDeed xq_NoDeed : _} {xN_NoDeed : _} {xb_NoDeed : _} {xm_NoDeed : _} {xs_NoDeed : _} {xu_NoDeed : _} {xa_NoDeed : _} {xc_NoDeed : _} {xd_NoDeed : _} {x0_NoDeed x1_NoDeed x2_NoDeed x3_NoDeed x5_NoDeed : _} {xn_Breach xq_Breach : _} {xN_Breach : _} {xb_Breach : _} {xm_Breach : _} {xs_Breach : _} {xu_Breach : _} {xa_Breach : _} {xc_Breach : _} {xd_Breach : _} {x0_Breach x1_Breach x2_Breach x3_Breach x5_Breach : _} {xn_NoChange xq_NoChange : _} {xN_NoChange : _} {xb_NoChange : _} {xm_NoChange : _} {xs_NoChange : _} {xu_NoChange : _} {xa_NoChange : _} {xc_NoChange : _} {xd_NoChange : _} {x0_NoChange x1_NoChange x2_NoChange x3_NoChange x5_NoChange : _} (hgood : ∀ ns : List Int, ns.length ≤ 63 → F_law [.fls (ns.map .int)] = some (.ok (.bl true))) (X : K.In h) (G : h.Ns mainGlobals mg) (hfa : mg "law" = some (.ref fa))
    (cn_PactError : PySem.W.nsIn K mainGlobals "PactError" = some (some (.ref c_PactError)))
    (cn_NoText : PySem.W.nsIn K mainGlobals "NoText" = some (some (.ref c_NoText)))
    (cn_NoName : PySem.W.nsIn K mainGlobals "NoName" = some (some (.ref c_NoName)))
    (cn_CalmRoom : PySem.W.nsIn K mainGlobals "CalmRoom" = some (some (.ref c_CalmRoom)))
    (cn_NoDeed : PySem.W.nsIn K mainGlobals "NoDeed" = some (some (.ref c_NoDeed)))
    (cn_TooMany : PySem.W.nsIn K mainGlobals "TooMany" = some (some (.ref c_TooMany)))
    (cn_Breach : PySem.W.nsIn K mainGlobals "Breach" = some (some (.ref c_Breach)))
    (cn_NoStand : PySem.W.nsIn K mainGlobals "NoStand" = some (some (.ref c_NoStand)))
    (cn_NoPair : PySem.W.nsIn K mainGlobals "NoPair" = some (some (.ref c_NoPair)))
    (cn_NoChange : PySem.W.nsIn K mainGlobals "NoChange" = some (some (.ref c_NoChange)))
    (cn_NoRow : PySem.W.nsIn K mainGlobals "NoRow" = some (some (.ref c_NoRow)))
    (f_NoText__init : PySem.W.findIn K (.ref c_NoText) "__init__" = some (some (.ref a_NoText__init)))
    (l_NoText__init : K.lookup a_NoText__init = some ⟨fo_NoText__init, fod_NoText__init, .func (PySem.W.fnOf "__init__" "NoText.__init__" (defArgs s_NoText__init) (defBody s_NoText__init) (defScope s_NoText__init) .none fkV_NoText__init fdc_NoText__init fpm_NoText__init fan_NoText__init fcd_NoText__init fct_NoText__init), fsl_NoText__init⟩)
    (k_NoText__init : PySem.W.codeIn K fcd_NoText__init "NoText.__init__" = true)
    (p_NoText__init : PySem.W.keepIn K (.ref a_NoText__init) = true)
    (f_NoName__init : PySem.W.findIn K (.ref c_NoName) "__init__" = some (some (.ref a_NoName__init)))
    (l_NoName__init : K.lookup a_NoName__init = some ⟨fo_NoName__init, fod_NoName__init, .func (PySem.W.fnOf "__init__" "NoName.__init__" (defArgs s_NoName__init) (defBody s_NoName__init) (defScope s_NoName__init) .none fkV_NoName__init fdc_NoName__init fpm_NoName__init fan_NoName__init fcd_NoName__init fct_NoName__init), fsl_NoName__init⟩)
    (k_NoName__init : PySem.W.codeIn K fcd_NoName__init "NoName.__init__" = true)
    (p_NoName__init : PySem.W.keepIn K (.ref a_NoName__init) = true)
    (f_CalmRoom__init : PySem.W.findIn K (.ref c_CalmRoom) "__init__" = some (some (.ref a_CalmRoom__init)))
    (l_CalmRoom__init : K.lookup a_CalmRoom__init = some ⟨fo_CalmRoom__init, fod_CalmRoom__init, .func (PySem.W.fnOf "__init__" "CalmRoom.__init__" (defArgs s_CalmRoom__init) (defBody s_CalmRoom__init) (defScope s_CalmRoom__init) .none fkV_CalmRoom__init fdc_CalmRoom__init fpm_CalmRoom__init fan_CalmRoom__init fcd_CalmRoom__init fct_CalmRoom__init), fsl_CalmRoom__init⟩)
    (k_CalmRoom__init : PySem.W.codeIn K fcd_CalmRoom__init "CalmRoom.__init__" = true)
    (p_CalmRoom__init : PySem.W.keepIn K (.ref a_CalmRoom__init) = true)
    (f_NoDeed__init : PySem.W.findIn K (.ref c_NoDeed) "__init__" = some (some (.ref a_NoDeed__init)))
    (l_NoDeed__init : K.lookup a_NoDeed__init = some ⟨fo_NoDeed__init, fod_NoDeed__init, .func (PySem.W.fnOf "__init__" "NoDeed.__init__" (defArgs s_NoDeed__init) (defBody s_NoDeed__init) (defScope s_NoDeed__init) .none fkV_NoDeed__init fdc_NoDeed__init fpm_NoDeed__init fan_NoDeed__init fcd_NoDeed__init fct_NoDeed__init), fsl_NoDeed__init⟩)
    (k_NoDeed__init : PySem.W.codeIn K fcd_NoDeed__init "NoDeed.__init__" = true)
    (p_NoDeed__init : PySem.W.keepIn K (.ref a_NoDeed__init) = true)
    (f_Breach__init : PySem.W.findIn K (.ref c_Breach) "__init__" = some (some (.ref a_Breach__init)))
    (l_Breach__init : K.lookup a_Breach__init = some ⟨fo_Breach__init, fod_Breach__init, .func (PySem.W.fnOf "__init__" "Breach.__init__" (defArgs s_Breach__init) (defBody s_Breach__init) (defScope s_Breach__init) .none fkV_Breach__init fdc_Breach__init fpm_Breach__init fan_Breach__init fcd_Breach__init fct_Breach__init), fsl_Breach__init⟩)
    (k_Breach__init : PySem.W.codeIn K fcd_Breach__init "Breach.__init__" = true)
    (p_Breach__init : PySem.W.keepIn K (.ref a_Breach__init) = true)
    (f_NoChange__init : PySem.W.findIn K (.ref c_NoChange) "__init__" = some (some (.ref a_NoChange__init)))
    (l_NoChange__init : K.lookup a_NoChange__init = some ⟨fo_NoChange__init, fod_NoChange__init, .func (PySem.W.fnOf "__init__" "NoChange.__init__" (defArgs s_NoChange__init) (defBody s_NoChange__init) (defScope s_NoChange__init) .none fkV_NoChange__init fdc_NoChange__init fpm_NoChange__init fan_NoChange__init fcd_NoChange__init fct_NoChange__init), fsl_NoChange__init⟩)
    (k_NoChange__init : PySem.W.codeIn K fcd_NoChange__init "NoChange.__init__" = true)
    (p_NoChange__init : PySem.W.keepIn K (.ref a_NoChange__init) = true)
    (f_law_stream : PySem.W.nsIn K mainGlobals "_law_stream" = some (some (.ref a_law_stream)))
    (l_law_stream : K.lookup a_law_stream = some ⟨fo_law_stream, fod_law_stream, .func (PySem.W.fnOf "_law_stream" "_law_stream" (defArgs s_law_stream) (defBody s_law_stream) (defScope s_law_stream) .none fkV_law_stream fdc_law_stream fpm_law_stream fan_law_stream fcd_law_stream fct_law_stream), fsl_law_stream⟩)
    (k_law_stream : PySem.W.codeIn K fcd_law_stream "_law_stream" = true)
    (p_law_stream : PySem.W.keepIn K (.ref a_law_stream) = true)
    (f_law_thing : PySem.W.nsIn K mainGlobals "_law_thing" = some (some (.ref a_law_thing)))
    (l_law_thing : K.lookup a_law_thing = some ⟨fo_law_thing, fod_law_thing, .func (PySem.W.fnOf "_law_thing" "_law_thing" (defArgs s_law_thing) (defBody s_law_thing) (defScope s_law_thing) .none fkV_law_thing fdc_law_thing fpm_law_thing fan_law_thing fcd_law_thing fct_law_thing), fsl_law_thing⟩)
    (k_law_thing : PySem.W.codeIn K fcd_law_thing "_law_thing" = true)
    (p_law_thing : PySem.W.keepIn K (.ref a_law_thing) = true)
    (f_law_refuse : PySem.W.nsIn K mainGlobals "_law_refuse" = some (some (.ref a_law_refuse)))
    (l_law_refuse : K.lookup a_law_refuse = some ⟨fo_law_refuse, fod_law_refuse, .func (PySem.W.fnOf "_law_refuse" "_law_refuse" (defArgs s_law_refuse) (defBody s_law_refuse) (defScope s_law_refuse) .none fkV_law_refuse fdc_law_refuse fpm_law_refuse fan_law_refuse fcd_law_refuse fct_law_refuse), fsl_law_refuse⟩)
    (k_law_refuse : PySem.W.codeIn K fcd_law_refuse "_law_refuse" = true)
    (p_law_refuse : PySem.W.keepIn K (.ref a_law_refuse) = true)
    (f_law_classes : PySem.W.nsIn K mainGlobals "_law_classes" = some (some (.ref a_law_classes)))
    (l_law_classes : K.lookup a_law_classes = some ⟨fo_law_classes, fod_law_classes, .func (PySem.W.fnOf "_law_classes" "_law_classes" (defArgs s_law_classes) (defBody s_law_classes) (defScope s_law_classes) .none fkV_law_classes fdc_law_classes fpm_law_classes fan_law_classes fcd_law_classes fct_law_classes), fsl_law_classes⟩)
    (k_law_classes : PySem.W.codeIn K fcd_law_classes "_law_classes" = true)
    (p_law_classes : PySem.W.keepIn K (.ref a_law_classes) = true)
    (f_law_alike : PySem.W.nsIn K mainGlobals "_law_alike" = some (some (.ref a_law_alike)))
    (l_law_alike : K.lookup a_law_alike = some ⟨fo_law_alike, fod_law_alike, .func (PySem.W.fnOf "_law_alike" "_law_alike" (defArgs s_law_alike) (defBody s_law_alike) (defScope s_law_alike) .none fkV_law_alike fdc_law_alike fpm_law_alike fan_law_alike fcd_law_alike fct_law_alike), fsl_law_alike⟩)
    (k_law_alike : PySem.W.codeIn K fcd_law_alike "_law_alike" = true)
    (p_law_alike : PySem.W.keepIn K (.ref a_law_alike) = true)
    (f_law_fields : PySem.W.nsIn K mainGlobals "_law_fields" = some (some (.ref a_law_fields)))
    (l_law_fields : K.lookup a_law_fields = some ⟨fo_law_fields, fod_law_fields, .func (PySem.W.fnOf "_law_fields" "_law_fields" (defArgs s_law_fields) (defBody s_law_fields) (defScope s_law_fields) .none fkV_law_fields fdc_law_fields fpm_law_fields fan_law_fields fcd_law_fields fct_law_fields), fsl_law_fields⟩)
    (k_law_fields : PySem.W.codeIn K fcd_law_fields "_law_fields" = true)
    (p_law_fields : PySem.W.keepIn K (.ref a_law_fields) = true)
    (f_law_right : PySem.W.nsIn K mainGlobals "_law_right" = some (some (.ref a_law_right)))
    (l_law_right : K.lookup a_law_right = some ⟨fo_law_right, fod_law_right, .func (PySem.W.fnOf "_law_right" "_law_right" (defArgs s_law_right) (defBody s_law_right) (defScope s_law_right) .none fkV_law_right fdc_law_right fpm_law_right fan_law_right fcd_law_right fct_law_right), fsl_law_right⟩)
    (k_law_right : PySem.W.codeIn K fcd_law_right "_law_right" = true)
    (p_law_right : PySem.W.keepIn K (.ref a_law_right) = true)
    (f_law : PySem.W.nsIn K mainGlobals "law" = some (some (.ref a_law)))
    (l_law : K.lookup a_law = some ⟨fo_law, fod_law, .func (PySem.W.fnOf "law" "law" (defArgs s_law) (defBody s_law) (defScope s_law) .none fkV_law fdc_law fpm_law fan_law fcd_law fct_law), fsl_law⟩)
    (k_law : PySem.W.codeIn K fcd_law "law" = true)
    (p_law : PySem.W.keepIn K (.ref a_law) = true)
    (b_ValueError : PySem.W.nsIn K mainGlobals "ValueError" = some none)
    (b_bool : PySem.W.nsIn K mainGlobals "bool" = some none)
    (b_int : PySem.W.nsIn K mainGlobals "int" = some none)
    (b_isinstance : PySem.W.nsIn K mainGlobals "isinstance" = some none)
    (b_len : PySem.W.nsIn K mainGlobals "len" = some none)
    (b_range : PySem.W.nsIn K mainGlobals "range" = some none)
    (no_NoText_row : PySem.W.findIn K (.ref c_NoText) "row" = some none)
    (no_NoName_word : PySem.W.findIn K (.ref c_NoName) "word" = some none)
    (no_CalmRoom_word : PySem.W.findIn K (.ref c_CalmRoom) "word" = some none)
    (no_NoDeed_word : PySem.W.findIn K (.ref c_NoDeed) "word" = some none)
    (no_Breach_turn : PySem.W.findIn K (.ref c_Breach) "turn" = some none)
    (no_Breach_what : PySem.W.findIn K (.ref c_Breach) "what" = some none)
    (no_Breach_who : PySem.W.findIn K (.ref c_Breach) "who" = some none)
    (no_NoChange_row : PySem.W.findIn K (.ref c_NoChange) "row" = some none)
    (e0_NoRow : PySem.W.excIn K c_NoRow [.type "ValueError", .type "Exception", .type "BaseException", .type "object"] "ValueError.__new__" = true)
    (cx_NoRow : PySem.W.keepIn K (.ref c_NoRow) = true)
    (ex_NoRow : PySem.W.subIn K (.ref c_NoRow) (.type "BaseException") = some true)
    (iy_NoRow : PySem.W.typeIn K (.ref c_NoRow) = some (.type "type"))
    (lx_NoChange : K.lookup c_NoChange = some (excClassObj xn_NoChange xq_NoChange c_NoChange xN_NoChange xb_NoChange xm_NoChange true xs_NoChange xu_NoChange xa_NoChange xc_NoChange xd_NoChange x0_NoChange x1_NoChange x2_NoChange x3_NoChange x5_NoChange "ValueError.__new__"))
    (rx_NoChange : PySem.HandSPX.refsVE xm_NoChange = true)
    (sx_NoChange : PySem.W.findIn K (.ref c_NoChange) "__setattr__" = some (some (.builtin "object.__setattr__")))
    (ex_NoChange : PySem.W.subIn K (.ref c_NoChange) (.type "BaseException") = some true)
    (tx_NoChange : PySem.W.typeIn K (.ref c_NoChange) = some (.type "type"))
    (cx_NoChange : PySem.W.keepIn K (.ref c_NoChange) = true)
    (ti_NoChange__init : PySem.W.typeIn K (.ref a_NoChange__init) = some (.type "function"))
    (e0_NoPair : PySem.W.excIn K c_NoPair [.type "ValueError", .type "Exception", .type "BaseException", .type "object"] "ValueError.__new__" = true)
    (cx_NoPair : PySem.W.keepIn K (.ref c_NoPair) = true)
    (ex_NoPair : PySem.W.subIn K (.ref c_NoPair) (.type "BaseException") = some true)
    (iy_NoPair : PySem.W.typeIn K (.ref c_NoPair) = some (.type "type"))
    (e0_NoStand : PySem.W.excIn K c_NoStand [.type "ValueError", .type "Exception", .type "BaseException", .type "object"] "ValueError.__new__" = true)
    (cx_NoStand : PySem.W.keepIn K (.ref c_NoStand) = true)
    (ex_NoStand : PySem.W.subIn K (.ref c_NoStand) (.type "BaseException") = some true)
    (iy_NoStand : PySem.W.typeIn K (.ref c_NoStand) = some (.type "type"))
    (lx_Breach : K.lookup c_Breach = some (excClassObj xn_Breach xq_Breach c_Breach xN_Breach xb_Breach xm_Breach true xs_Breach xu_Breach xa_Breach xc_Breach xd_Breach x0_Breach x1_Breach x2_Breach x3_Breach x5_Breach "ValueError.__new__"))
    (rx_Breach : PySem.HandSPX.refsVE xm_Breach = true)
    (sx_Breach : PySem.W.findIn K (.ref c_Breach) "__setattr__" = some (some (.builtin "object.__setattr__")))
    (ex_Breach : PySem.W.subIn K (.ref c_Breach) (.type "BaseException") = some true)
    (tx_Breach : PySem.W.typeIn K (.ref c_Breach) = some (.type "type"))
    (cx_Breach : PySem.W.keepIn K (.ref c_Breach) = true)
    (ti_Breach__init : PySem.W.typeIn K (.ref a_Breach__init) = some (.type "function"))
    (e0_TooMany : PySem.W.excIn K c_TooMany [.type "ValueError", .type "Exception", .type "BaseException", .type "object"] "ValueError.__new__" = true)
    (cx_TooMany : PySem.W.keepIn K (.ref c_TooMany) = true)
    (ex_TooMany : PySem.W.subIn K (.ref c_TooMany) (.type "BaseException") = some true)
    (iy_TooMany : PySem.W.typeIn K (.ref c_TooMany) = some (.type "type"))
    (lx_NoDeed : K.lookup c_NoDeed = some (excClassObj xn_NoDeed xq_NoDeed c_NoDeed xN_NoDeed xb_NoDeed xm_NoDeed true xs_NoDeed xu_NoDeed xa_NoDeed xc_NoDeed xd_NoDeed x0_NoDeed x1_NoDeed x2_NoDeed x3_NoDeed x5_NoDeed "ValueError.__new__"))
    (rx_NoDeed : PySem.HandSPX.refsVE xm_NoDeed = true)
    (sx_NoDeed : PySem.W.findIn K (.ref c_NoDeed) "__setattr__" = some (some (.builtin "object.__setattr__")))
    (ex_NoDeed : PySem.W.subIn K (.ref c_NoDeed) (.type "BaseException") = some true)
    (tx_NoDeed : PySem.W.typeIn K (.ref c_NoDeed) = some (.type "type"))
    (cx_NoDeed : PySem.W.keepIn K (.ref c_NoDeed) = true)
    (ti_NoDeed__init : PySem.W.typeIn K (.ref a_NoDeed__init) = some (.type "function"))
    (lx_CalmRoom : K.lookup c_CalmRoom = some (excClassObj xn_CalmRoom xq_CalmRoom c_CalmRoom xN_CalmRoom xb_CalmRoom xm_CalmRoom true xs_CalmRoom xu_CalmRoom xa_CalmRoom xc_CalmRoom xd_CalmRoom x0_CalmRoom x1_CalmRoom x2_CalmRoom x3_CalmRoom x5_CalmRoom "ValueError.__new__"))
    (rx_CalmRoom : PySem.HandSPX.refsVE xm_CalmRoom = true)
    (sx_CalmRoom : PySem.W.findIn K (.ref c_CalmRoom) "__setattr__" = some (some (.builtin "object.__setattr__")))
    (ex_CalmRoom : PySem.W.subIn K (.ref c_CalmRoom) (.type "BaseException") = some true)
    (tx_CalmRoom : PySem.W.typeIn K (.ref c_CalmRoom) = some (.type "type"))
    (cx_CalmRoom : PySem.W.keepIn K (.ref c_CalmRoom) = true)
    (ti_CalmRoom__init : PySem.W.typeIn K (.ref a_CalmRoom__init) = some (.type "function"))
    (lx_NoName : K.lookup c_NoName = some (excClassObj xn_NoName xq_NoName c_NoName xN_NoName xb_NoName xm_NoName true xs_NoName xu_NoName xa_NoName xc_NoName xd_NoName x0_NoName x1_NoName x2_NoName x3_NoName x5_NoName "ValueError.__new__"))
    (rx_NoName : PySem.HandSPX.refsVE xm_NoName = true)
    (sx_NoName : PySem.W.findIn K (.ref c_NoName) "__setattr__" = some (some (.builtin "object.__setattr__")))
    (ex_NoName : PySem.W.subIn K (.ref c_NoName) (.type "BaseException") = some true)
    (tx_NoName : PySem.W.typeIn K (.ref c_NoName) = some (.type "type"))
    (cx_NoName : PySem.W.keepIn K (.ref c_NoName) = true)
    (ti_NoName__init : PySem.W.typeIn K (.ref a_NoName__init) = some (.type "function"))
    (lx_NoText : K.lookup c_NoText = some (excClassObj xn_NoText xq_NoText c_NoText xN_NoText xb_NoText xm_NoText true xs_NoText xu_NoText xa_NoText xc_NoText xd_NoText x0_NoText x1_NoText x2_NoText x3_NoText x5_NoText "ValueError.__new__"))
    (rx_NoText : PySem.HandSPX.refsVE xm_NoText = true)
    (sx_NoText : PySem.W.findIn K (.ref c_NoText) "__setattr__" = some (some (.builtin "object.__setattr__")))
    (ex_NoText : PySem.W.subIn K (.ref c_NoText) (.type "BaseException") = some true)
    (tx_NoText : PySem.W.typeIn K (.ref c_NoText) = some (.type "type"))
    (cx_NoText : PySem.W.keepIn K (.ref c_NoText) = true)
    (ti_NoText__init : PySem.W.typeIn K (.ref a_NoText__init) = some (.type "function"))
    (ix_NoRow : PySem.W.isClsIn K c_NoRow = true)
    (sb_NoRow_NoRow : PySem.W.subIn K (.ref c_NoRow) (.ref c_NoRow) = some true)
    (sg : PySem.W.specialIn K (.builtin "object.__class__") "__get__" = some (some (.builtin "getset_descriptor.__get__")))
    (st : PySem.W.takesIn K (.builtin "object.__class__") = some true)
    (eg_PactError : PySem.W.findIn K (.ref c_PactError) "__getattribute__" = some (some (.builtin "BaseException.__getattribute__")))
    (eh_PactError : PySem.W.findIn K (.ref c_PactError) "__getattr__" = some none)
    (ex_PactError : PySem.W.subIn K (.ref c_PactError) (.type "BaseException") = some true)
    (ch_PactError : PySem.W.hasDictIn K c_PactError = true)
    (in_PactError : PySem.W.findIn K (.ref c_PactError) "__class__" = some (some (.builtin "object.__class__")))
    (io_PactError : PySem.W.mroIn K c_PactError (.type "object") = some true)
    (sb_NoRow_PactError : PySem.W.subIn K (.ref c_PactError) (.ref c_NoRow) = some false)
    (eg_NoText : PySem.W.findIn K (.ref c_NoText) "__getattribute__" = some (some (.builtin "BaseException.__getattribute__")))
    (eh_NoText : PySem.W.findIn K (.ref c_NoText) "__getattr__" = some none)
    (ch_NoText : PySem.W.hasDictIn K c_NoText = true)
    (in_NoText : PySem.W.findIn K (.ref c_NoText) "__class__" = some (some (.builtin "object.__class__")))
    (io_NoText : PySem.W.mroIn K c_NoText (.type "object") = some true)
    (sb_NoRow_NoText : PySem.W.subIn K (.ref c_NoText) (.ref c_NoRow) = some false)
    (eg_NoName : PySem.W.findIn K (.ref c_NoName) "__getattribute__" = some (some (.builtin "BaseException.__getattribute__")))
    (eh_NoName : PySem.W.findIn K (.ref c_NoName) "__getattr__" = some none)
    (ch_NoName : PySem.W.hasDictIn K c_NoName = true)
    (in_NoName : PySem.W.findIn K (.ref c_NoName) "__class__" = some (some (.builtin "object.__class__")))
    (io_NoName : PySem.W.mroIn K c_NoName (.type "object") = some true)
    (sb_NoRow_NoName : PySem.W.subIn K (.ref c_NoName) (.ref c_NoRow) = some false)
    (eg_CalmRoom : PySem.W.findIn K (.ref c_CalmRoom) "__getattribute__" = some (some (.builtin "BaseException.__getattribute__")))
    (eh_CalmRoom : PySem.W.findIn K (.ref c_CalmRoom) "__getattr__" = some none)
    (ch_CalmRoom : PySem.W.hasDictIn K c_CalmRoom = true)
    (in_CalmRoom : PySem.W.findIn K (.ref c_CalmRoom) "__class__" = some (some (.builtin "object.__class__")))
    (io_CalmRoom : PySem.W.mroIn K c_CalmRoom (.type "object") = some true)
    (sb_NoRow_CalmRoom : PySem.W.subIn K (.ref c_CalmRoom) (.ref c_NoRow) = some false)
    (eg_NoDeed : PySem.W.findIn K (.ref c_NoDeed) "__getattribute__" = some (some (.builtin "BaseException.__getattribute__")))
    (eh_NoDeed : PySem.W.findIn K (.ref c_NoDeed) "__getattr__" = some none)
    (ch_NoDeed : PySem.W.hasDictIn K c_NoDeed = true)
    (in_NoDeed : PySem.W.findIn K (.ref c_NoDeed) "__class__" = some (some (.builtin "object.__class__")))
    (io_NoDeed : PySem.W.mroIn K c_NoDeed (.type "object") = some true)
    (sb_NoRow_NoDeed : PySem.W.subIn K (.ref c_NoDeed) (.ref c_NoRow) = some false)
    (eg_TooMany : PySem.W.findIn K (.ref c_TooMany) "__getattribute__" = some (some (.builtin "BaseException.__getattribute__")))
    (eh_TooMany : PySem.W.findIn K (.ref c_TooMany) "__getattr__" = some none)
    (ch_TooMany : PySem.W.hasDictIn K c_TooMany = true)
    (in_TooMany : PySem.W.findIn K (.ref c_TooMany) "__class__" = some (some (.builtin "object.__class__")))
    (io_TooMany : PySem.W.mroIn K c_TooMany (.type "object") = some true)
    (sb_NoRow_TooMany : PySem.W.subIn K (.ref c_TooMany) (.ref c_NoRow) = some false)
    (eg_Breach : PySem.W.findIn K (.ref c_Breach) "__getattribute__" = some (some (.builtin "BaseException.__getattribute__")))
    (eh_Breach : PySem.W.findIn K (.ref c_Breach) "__getattr__" = some none)
    (ch_Breach : PySem.W.hasDictIn K c_Breach = true)
    (in_Breach : PySem.W.findIn K (.ref c_Breach) "__class__" = some (some (.builtin "object.__class__")))
    (io_Breach : PySem.W.mroIn K c_Breach (.type "object") = some true)
    (sb_NoRow_Breach : PySem.W.subIn K (.ref c_Breach) (.ref c_NoRow) = some false)
    (eg_NoStand : PySem.W.findIn K (.ref c_NoStand) "__getattribute__" = some (some (.builtin "BaseException.__getattribute__")))
    (eh_NoStand : PySem.W.findIn K (.ref c_NoStand) "__getattr__" = some none)
    (ch_NoStand : PySem.W.hasDictIn K c_NoStand = true)
    (in_NoStand : PySem.W.findIn K (.ref c_NoStand) "__class__" = some (some (.builtin "object.__class__")))
    (io_NoStand : PySem.W.mroIn K c_NoStand (.type "object") = some true)
    (sb_NoRow_NoStand : PySem.W.subIn K (.ref c_NoStand) (.ref c_NoRow) = some false)
    (eg_NoPair : PySem.W.findIn K (.ref c_NoPair) "__getattribute__" = some (some (.builtin "BaseException.__getattribute__")))
    (eh_NoPair : PySem.W.findIn K (.ref c_NoPair) "__getattr__" = some none)
    (ch_NoPair : PySem.W.hasDictIn K c_NoPair = true)
    (in_NoPair : PySem.W.findIn K (.ref c_NoPair) "__class__" = some (some (.builtin "object.__class__")))
    (io_NoPair : PySem.W.mroIn K c_NoPair (.type "object") = some true)
    (sb_NoRow_NoPair : PySem.W.subIn K (.ref c_NoPair) (.ref c_NoRow) = some false)
    (eg_NoChange : PySem.W.findIn K (.ref c_NoChange) "__getattribute__" = some (some (.builtin "BaseException.__getattribute__")))
    (eh_NoChange : PySem.W.findIn K (.ref c_NoChange) "__getattr__" = some none)
    (ch_NoChange : PySem.W.hasDictIn K c_NoChange = true)
    (in_NoChange : PySem.W.findIn K (.ref c_NoChange) "__class__" = some (some (.builtin "object.__class__")))
    (io_NoChange : PySem.W.mroIn K c_NoChange (.type "object") = some true)
    (sb_NoRow_NoChange : PySem.W.subIn K (.ref c_NoChange) (.ref c_NoRow) = some false)
    (eg_NoRow : PySem.W.findIn K (.ref c_NoRow) "__getattribute__" = some (some (.builtin "BaseException.__getattribute__")))
    (eh_NoRow : PySem.W.findIn K (.ref c_NoRow) "__getattr__" = some none)
    (ch_NoRow : PySem.W.hasDictIn K c_NoRow = true)
    (in_NoRow : PySem.W.findIn K (.ref c_NoRow) "__class__" = some (some (.builtin "object.__class__")))
    (io_NoRow : PySem.W.mroIn K c_NoRow (.type "object") = some true)
    (ix_NoChange : PySem.W.isClsIn K c_NoChange = true)
    (iy_NoChange : PySem.W.typeIn K (.ref c_NoChange) = some (.type "type"))
    (sb_NoChange_NoChange : PySem.W.subIn K (.ref c_NoChange) (.ref c_NoChange) = some true)
    (sb_NoChange_PactError : PySem.W.subIn K (.ref c_PactError) (.ref c_NoChange) = some false)
    (sb_NoChange_NoText : PySem.W.subIn K (.ref c_NoText) (.ref c_NoChange) = some false)
    (sb_NoChange_NoName : PySem.W.subIn K (.ref c_NoName) (.ref c_NoChange) = some false)
    (sb_NoChange_CalmRoom : PySem.W.subIn K (.ref c_CalmRoom) (.ref c_NoChange) = some false)
    (sb_NoChange_NoDeed : PySem.W.subIn K (.ref c_NoDeed) (.ref c_NoChange) = some false)
    (sb_NoChange_TooMany : PySem.W.subIn K (.ref c_TooMany) (.ref c_NoChange) = some false)
    (sb_NoChange_Breach : PySem.W.subIn K (.ref c_Breach) (.ref c_NoChange) = some false)
    (sb_NoChange_NoStand : PySem.W.subIn K (.ref c_NoStand) (.ref c_NoChange) = some false)
    (sb_NoChange_NoPair : PySem.W.subIn K (.ref c_NoPair) (.ref c_NoChange) = some false)
    (sb_NoChange_NoRow : PySem.W.subIn K (.ref c_NoRow) (.ref c_NoChange) = some false)
    (ix_NoPair : PySem.W.isClsIn K c_NoPair = true)
    (sb_NoPair_NoPair : PySem.W.subIn K (.ref c_NoPair) (.ref c_NoPair) = some true)
    (sb_NoPair_PactError : PySem.W.subIn K (.ref c_PactError) (.ref c_NoPair) = some false)
    (sb_NoPair_NoText : PySem.W.subIn K (.ref c_NoText) (.ref c_NoPair) = some false)
    (sb_NoPair_NoName : PySem.W.subIn K (.ref c_NoName) (.ref c_NoPair) = some false)
    (sb_NoPair_CalmRoom : PySem.W.subIn K (.ref c_CalmRoom) (.ref c_NoPair) = some false)
    (sb_NoPair_NoDeed : PySem.W.subIn K (.ref c_NoDeed) (.ref c_NoPair) = some false)
    (sb_NoPair_TooMany : PySem.W.subIn K (.ref c_TooMany) (.ref c_NoPair) = some false)
    (sb_NoPair_Breach : PySem.W.subIn K (.ref c_Breach) (.ref c_NoPair) = some false)
    (sb_NoPair_NoStand : PySem.W.subIn K (.ref c_NoStand) (.ref c_NoPair) = some false)
    (sb_NoPair_NoChange : PySem.W.subIn K (.ref c_NoChange) (.ref c_NoPair) = some false)
    (sb_NoPair_NoRow : PySem.W.subIn K (.ref c_NoRow) (.ref c_NoPair) = some false)
    (ix_NoStand : PySem.W.isClsIn K c_NoStand = true)
    (sb_NoStand_NoStand : PySem.W.subIn K (.ref c_NoStand) (.ref c_NoStand) = some true)
    (sb_NoStand_PactError : PySem.W.subIn K (.ref c_PactError) (.ref c_NoStand) = some false)
    (sb_NoStand_NoText : PySem.W.subIn K (.ref c_NoText) (.ref c_NoStand) = some false)
    (sb_NoStand_NoName : PySem.W.subIn K (.ref c_NoName) (.ref c_NoStand) = some false)
    (sb_NoStand_CalmRoom : PySem.W.subIn K (.ref c_CalmRoom) (.ref c_NoStand) = some false)
    (sb_NoStand_NoDeed : PySem.W.subIn K (.ref c_NoDeed) (.ref c_NoStand) = some false)
    (sb_NoStand_TooMany : PySem.W.subIn K (.ref c_TooMany) (.ref c_NoStand) = some false)
    (sb_NoStand_Breach : PySem.W.subIn K (.ref c_Breach) (.ref c_NoStand) = some false)
    (sb_NoStand_NoPair : PySem.W.subIn K (.ref c_NoPair) (.ref c_NoStand) = some false)
    (sb_NoStand_NoChange : PySem.W.subIn K (.ref c_NoChange) (.ref c_NoStand) = some false)
    (sb_NoStand_NoRow : PySem.W.subIn K (.ref c_NoRow) (.ref c_NoStand) = some false)
    (ix_Breach : PySem.W.isClsIn K c_Breach = true)
    (iy_Breach : PySem.W.typeIn K (.ref c_Breach) = some (.type "type"))
    (sb_Breach_Breach : PySem.W.subIn K (.ref c_Breach) (.ref c_Breach) = some true)
    (sb_Breach_PactError : PySem.W.subIn K (.ref c_PactError) (.ref c_Breach) = some false)
    (sb_Breach_NoText : PySem.W.subIn K (.ref c_NoText) (.ref c_Breach) = some false)
    (sb_Breach_NoName : PySem.W.subIn K (.ref c_NoName) (.ref c_Breach) = some false)
    (sb_Breach_CalmRoom : PySem.W.subIn K (.ref c_CalmRoom) (.ref c_Breach) = some false)
    (sb_Breach_NoDeed : PySem.W.subIn K (.ref c_NoDeed) (.ref c_Breach) = some false)
    (sb_Breach_TooMany : PySem.W.subIn K (.ref c_TooMany) (.ref c_Breach) = some false)
    (sb_Breach_NoStand : PySem.W.subIn K (.ref c_NoStand) (.ref c_Breach) = some false)
    (sb_Breach_NoPair : PySem.W.subIn K (.ref c_NoPair) (.ref c_Breach) = some false)
    (sb_Breach_NoChange : PySem.W.subIn K (.ref c_NoChange) (.ref c_Breach) = some false)
    (sb_Breach_NoRow : PySem.W.subIn K (.ref c_NoRow) (.ref c_Breach) = some false)
    (ix_TooMany : PySem.W.isClsIn K c_TooMany = true)
    (sb_TooMany_TooMany : PySem.W.subIn K (.ref c_TooMany) (.ref c_TooMany) = some true)
    (sb_TooMany_PactError : PySem.W.subIn K (.ref c_PactError) (.ref c_TooMany) = some false)
    (sb_TooMany_NoText : PySem.W.subIn K (.ref c_NoText) (.ref c_TooMany) = some false)
    (sb_TooMany_NoName : PySem.W.subIn K (.ref c_NoName) (.ref c_TooMany) = some false)
    (sb_TooMany_CalmRoom : PySem.W.subIn K (.ref c_CalmRoom) (.ref c_TooMany) = some false)
    (sb_TooMany_NoDeed : PySem.W.subIn K (.ref c_NoDeed) (.ref c_TooMany) = some false)
    (sb_TooMany_Breach : PySem.W.subIn K (.ref c_Breach) (.ref c_TooMany) = some false)
    (sb_TooMany_NoStand : PySem.W.subIn K (.ref c_NoStand) (.ref c_TooMany) = some false)
    (sb_TooMany_NoPair : PySem.W.subIn K (.ref c_NoPair) (.ref c_TooMany) = some false)
    (sb_TooMany_NoChange : PySem.W.subIn K (.ref c_NoChange) (.ref c_TooMany) = some false)
    (sb_TooMany_NoRow : PySem.W.subIn K (.ref c_NoRow) (.ref c_TooMany) = some false)
    (ix_NoDeed : PySem.W.isClsIn K c_NoDeed = true)
    (iy_NoDeed : PySem.W.typeIn K (.ref c_NoDeed) = some (.type "type"))
    (sb_NoDeed_NoDeed : PySem.W.subIn K (.ref c_NoDeed) (.ref c_NoDeed) = some true)
    (sb_NoDeed_PactError : PySem.W.subIn K (.ref c_PactError) (.ref c_NoDeed) = some false)
    (sb_NoDeed_NoText : PySem.W.subIn K (.ref c_NoText) (.ref c_NoDeed) = some false)
    (sb_NoDeed_NoName : PySem.W.subIn K (.ref c_NoName) (.ref c_NoDeed) = some false)
    (sb_NoDeed_CalmRoom : PySem.W.subIn K (.ref c_CalmRoom) (.ref c_NoDeed) = some false)
    (sb_NoDeed_TooMany : PySem.W.subIn K (.ref c_TooMany) (.ref c_NoDeed) = some false)
    (sb_NoDeed_Breach : PySem.W.subIn K (.ref c_Breach) (.ref c_NoDeed) = some false)
    (sb_NoDeed_NoStand : PySem.W.subIn K (.ref c_NoStand) (.ref c_NoDeed) = some false)
    (sb_NoDeed_NoPair : PySem.W.subIn K (.ref c_NoPair) (.ref c_NoDeed) = some false)
    (sb_NoDeed_NoChange : PySem.W.subIn K (.ref c_NoChange) (.ref c_NoDeed) = some false)
    (sb_NoDeed_NoRow : PySem.W.subIn K (.ref c_NoRow) (.ref c_NoDeed) = some false)
    (ix_CalmRoom : PySem.W.isClsIn K c_CalmRoom = true)
    (iy_CalmRoom : PySem.W.typeIn K (.ref c_CalmRoom) = some (.type "type"))
    (sb_CalmRoom_CalmRoom : PySem.W.subIn K (.ref c_CalmRoom) (.ref c_CalmRoom) = some true)
    (sb_CalmRoom_PactError : PySem.W.subIn K (.ref c_PactError) (.ref c_CalmRoom) = some false)
    (sb_CalmRoom_NoText : PySem.W.subIn K (.ref c_NoText) (.ref c_CalmRoom) = some false)
    (sb_CalmRoom_NoName : PySem.W.subIn K (.ref c_NoName) (.ref c_CalmRoom) = some false)
    (sb_CalmRoom_NoDeed : PySem.W.subIn K (.ref c_NoDeed) (.ref c_CalmRoom) = some false)
    (sb_CalmRoom_TooMany : PySem.W.subIn K (.ref c_TooMany) (.ref c_CalmRoom) = some false)
    (sb_CalmRoom_Breach : PySem.W.subIn K (.ref c_Breach) (.ref c_CalmRoom) = some false)
    (sb_CalmRoom_NoStand : PySem.W.subIn K (.ref c_NoStand) (.ref c_CalmRoom) = some false)
    (sb_CalmRoom_NoPair : PySem.W.subIn K (.ref c_NoPair) (.ref c_CalmRoom) = some false)
    (sb_CalmRoom_NoChange : PySem.W.subIn K (.ref c_NoChange) (.ref c_CalmRoom) = some false)
    (sb_CalmRoom_NoRow : PySem.W.subIn K (.ref c_NoRow) (.ref c_CalmRoom) = some false)
    (ix_NoName : PySem.W.isClsIn K c_NoName = true)
    (iy_NoName : PySem.W.typeIn K (.ref c_NoName) = some (.type "type"))
    (sb_NoName_NoName : PySem.W.subIn K (.ref c_NoName) (.ref c_NoName) = some true)
    (sb_NoName_PactError : PySem.W.subIn K (.ref c_PactError) (.ref c_NoName) = some false)
    (sb_NoName_NoText : PySem.W.subIn K (.ref c_NoText) (.ref c_NoName) = some false)
    (sb_NoName_CalmRoom : PySem.W.subIn K (.ref c_CalmRoom) (.ref c_NoName) = some false)
    (sb_NoName_NoDeed : PySem.W.subIn K (.ref c_NoDeed) (.ref c_NoName) = some false)
    (sb_NoName_TooMany : PySem.W.subIn K (.ref c_TooMany) (.ref c_NoName) = some false)
    (sb_NoName_Breach : PySem.W.subIn K (.ref c_Breach) (.ref c_NoName) = some false)
    (sb_NoName_NoStand : PySem.W.subIn K (.ref c_NoStand) (.ref c_NoName) = some false)
    (sb_NoName_NoPair : PySem.W.subIn K (.ref c_NoPair) (.ref c_NoName) = some false)
    (sb_NoName_NoChange : PySem.W.subIn K (.ref c_NoChange) (.ref c_NoName) = some false)
    (sb_NoName_NoRow : PySem.W.subIn K (.ref c_NoRow) (.ref c_NoName) = some false)
    (ix_NoText : PySem.W.isClsIn K c_NoText = true)
    (iy_NoText : PySem.W.typeIn K (.ref c_NoText) = some (.type "type"))
    (sb_NoText_NoText : PySem.W.subIn K (.ref c_NoText) (.ref c_NoText) = some true)
    (sb_NoText_PactError : PySem.W.subIn K (.ref c_PactError) (.ref c_NoText) = some false)
    (sb_NoText_NoName : PySem.W.subIn K (.ref c_NoName) (.ref c_NoText) = some false)
    (sb_NoText_CalmRoom : PySem.W.subIn K (.ref c_CalmRoom) (.ref c_NoText) = some false)
    (sb_NoText_NoDeed : PySem.W.subIn K (.ref c_NoDeed) (.ref c_NoText) = some false)
    (sb_NoText_TooMany : PySem.W.subIn K (.ref c_TooMany) (.ref c_NoText) = some false)
    (sb_NoText_Breach : PySem.W.subIn K (.ref c_Breach) (.ref c_NoText) = some false)
    (sb_NoText_NoStand : PySem.W.subIn K (.ref c_NoStand) (.ref c_NoText) = some false)
    (sb_NoText_NoPair : PySem.W.subIn K (.ref c_NoPair) (.ref c_NoText) = some false)
    (sb_NoText_NoChange : PySem.W.subIn K (.ref c_NoChange) (.ref c_NoText) = some false)
    (sb_NoText_NoRow : PySem.W.subIn K (.ref c_NoRow) (.ref c_NoText) = some false)
    (vb_ValueError_PactError : PySem.W.subIn K (.ref c_PactError) (.type "ValueError") = some true)
    (vb_ValueError_NoText : PySem.W.subIn K (.ref c_NoText) (.type "ValueError") = some true)
    (vb_ValueError_NoName : PySem.W.subIn K (.ref c_NoName) (.type "ValueError") = some true)
    (vb_ValueError_CalmRoom : PySem.W.subIn K (.ref c_CalmRoom) (.type "ValueError") = some true)
    (vb_ValueError_NoDeed : PySem.W.subIn K (.ref c_NoDeed) (.type "ValueError") = some true)
    (vb_ValueError_TooMany : PySem.W.subIn K (.ref c_TooMany) (.type "ValueError") = some true)
    (vb_ValueError_Breach : PySem.W.subIn K (.ref c_Breach) (.type "ValueError") = some true)
    (vb_ValueError_NoStand : PySem.W.subIn K (.ref c_NoStand) (.type "ValueError") = some true)
    (vb_ValueError_NoPair : PySem.W.subIn K (.ref c_NoPair) (.type "ValueError") = some true)
    (vb_ValueError_NoChange : PySem.W.subIn K (.ref c_NoChange) (.type "ValueError") = some true)
    (vb_ValueError_NoRow : PySem.W.subIn K (.ref c_NoRow) (.type "ValueError") = some true)
    (iy_PactError : PySem.W.typeIn K (.ref c_PactError) = some (.type "type"))
    (sb_PactError_NoRow : PySem.W.subIn K (.ref c_NoRow) (.ref c_PactError) = some true)
    (sb_PactError_NoChange : PySem.W.subIn K (.ref c_NoChange) (.ref c_PactError) = some true)
    (sb_PactError_NoPair : PySem.W.subIn K (.ref c_NoPair) (.ref c_PactError) = some true)
    (sb_PactError_NoStand : PySem.W.subIn K (.ref c_NoStand) (.ref c_PactError) = some true)
    (sb_PactError_Breach : PySem.W.subIn K (.ref c_Breach) (.ref c_PactError) = some true)
    (sb_PactError_TooMany : PySem.W.subIn K (.ref c_TooMany) (.ref c_PactError) = some true)
    (sb_PactError_NoDeed : PySem.W.subIn K (.ref c_NoDeed) (.ref c_PactError) = some true)
    (sb_PactError_CalmRoom : PySem.W.subIn K (.ref c_CalmRoom) (.ref c_PactError) = some true)
    (sb_PactError_NoName : PySem.W.subIn K (.ref c_NoName) (.ref c_PactError) = some true)
    (sb_PactError_NoText : PySem.W.subIn K (.ref c_NoText) (.ref c_PactError) = some true)
    : ∃ fd : FuncData, (∀ (s : Shared) (v : Value), BindsTo s fd ⟨[v], []⟩ [("_law_script", v)]) ∧ ∀ base : Heap, K.In base → base.Ns mainGlobals mg → FnOk l.prog w K mg base (L2N.CX l.prog w) 5 fa fd ["_law_script"] (spLawK K) := by
  have e := hfa.symm.trans (PySem.W.mg_of X G f_law)
  cases e
  have D_NoText__init := fun_mk (st := s_NoText__init) l_NoText__init k_NoText__init p_NoText__init
  have B_NoText__init := D_NoText__init.binds (ps := ["self", "row"]) fun _ _ _ _ _ _ us hl => match us, hl with | [_, _], _ => rfl
  have D_NoName__init := fun_mk (st := s_NoName__init) l_NoName__init k_NoName__init p_NoName__init
  have B_NoName__init := D_NoName__init.binds (ps := ["self", "word"]) fun _ _ _ _ _ _ us hl => match us, hl with | [_, _], _ => rfl
  have D_CalmRoom__init := fun_mk (st := s_CalmRoom__init) l_CalmRoom__init k_CalmRoom__init p_CalmRoom__init
  have B_CalmRoom__init := D_CalmRoom__init.binds (ps := ["self", "word"]) fun _ _ _ _ _ _ us hl => match us, hl with | [_, _], _ => rfl
  have D_NoDeed__init := fun_mk (st := s_NoDeed__init) l_NoDeed__init k_NoDeed__init p_NoDeed__init
  have B_NoDeed__init := D_NoDeed__init.binds (ps := ["self", "word"]) fun _ _ _ _ _ _ us hl => match us, hl with | [_, _], _ => rfl
  have D_Breach__init := fun_mk (st := s_Breach__init) l_Breach__init k_Breach__init p_Breach__init
  have B_Breach__init := D_Breach__init.binds (ps := ["self", "who", "what", "turn"]) fun _ _ _ _ _ _ us hl => match us, hl with | [_, _, _, _], _ => rfl
  have D_NoChange__init := fun_mk (st := s_NoChange__init) l_NoChange__init k_NoChange__init p_NoChange__init
  have B_NoChange__init := D_NoChange__init.binds (ps := ["self", "row"]) fun _ _ _ _ _ _ us hl => match us, hl with | [_, _], _ => rfl
  have D_law_stream := fun_mk (st := s_law_stream) l_law_stream k_law_stream p_law_stream
  have B_law_stream := D_law_stream.binds (ps := ["_law_cell", "_law_many"]) fun _ _ _ _ _ _ us hl => match us, hl with | [_, _], _ => rfl
  have D_law_thing := fun_mk (st := s_law_thing) l_law_thing k_law_thing p_law_thing
  have B_law_thing := D_law_thing.binds (ps := ["_law_number"]) fun _ _ _ _ _ _ us hl => match us, hl with | [_], _ => rfl
  have D_law_refuse := fun_mk (st := s_law_refuse) l_law_refuse k_law_refuse p_law_refuse
  have B_law_refuse := D_law_refuse.binds (ps := ["_law_kind", "_law_one", "_law_two", "_law_three"]) fun _ _ _ _ _ _ us hl => match us, hl with | [_, _, _, _], _ => rfl
  have D_law_classes := fun_mk (st := s_law_classes) l_law_classes k_law_classes p_law_classes
  have B_law_classes := D_law_classes.binds (ps := ["_law_e"]) fun _ _ _ _ _ _ us hl => match us, hl with | [_], _ => rfl
  have D_law_alike := fun_mk (st := s_law_alike) l_law_alike k_law_alike p_law_alike
  have B_law_alike := D_law_alike.binds (ps := ["_law_found", "_law_due"]) fun _ _ _ _ _ _ us hl => match us, hl with | [_, _], _ => rfl
  have D_law_fields := fun_mk (st := s_law_fields) l_law_fields k_law_fields p_law_fields
  have B_law_fields := D_law_fields.binds (ps := ["_law_e", "_law_kind", "_law_one", "_law_two", "_law_three"]) fun _ _ _ _ _ _ us hl => match us, hl with | [_, _, _, _, _], _ => rfl
  have D_law_right := fun_mk (st := s_law_right) l_law_right k_law_right p_law_right
  have B_law_right := D_law_right.binds (ps := ["_law_kind", "_law_one", "_law_two", "_law_three"]) fun _ _ _ _ _ _ us hl => match us, hl with | [_, _, _, _], _ => rfl
  have D_law := fun_mk (st := s_law) l_law k_law p_law
  have B_law := D_law.binds (ps := ["_law_script"]) fun _ _ _ _ _ _ us hl => match us, hl with | [_], _ => rfl
  have T : Txt (⟨K, [0, 0, 0, 0, 0, 0, 0, 0, 0, c_PactError, c_NoText, c_NoName, c_CalmRoom, c_NoDeed, c_TooMany, c_Breach, c_NoStand, c_NoPair, c_NoChange, c_NoRow, 0, 0, 0, 0, 0, 0, 0, 0, 0, 0, 0, 0], [("label" : Str), ("who" : Str), ("act" : Str), ("turns" : Str), ("room" : Str), ("name" : Str), ("value" : Str), ("rooms" : Str), ("rows" : Str), ("parties" : Str), ("acts" : Str), ("whole" : Str), ("row" : Str), ("word" : Str), ("what" : Str), ("turn" : Str), ("stack" : Str), ("header" : Str), ("labels" : Str), ("pact" : Str), ("names" : Str), ("kinds" : Str), ("start" : Str), ("marks" : Str), ("duties" : Str), ("table" : Str), ("one" : Str), ("other" : Str), ("clause" : Str), ("kept" : Str), ("present_stand" : Str), ("course_now" : Str), ("house" : Str), ("entries" : Str), ("order" : Str), ("idle" : Str), ("stand" : Str)], by decide +kernel⟩ : Kx) mg c_PactError c_NoText c_NoName c_CalmRoom c_NoDeed c_TooMany c_Breach c_NoStand c_NoPair c_NoChange c_NoRow a_NoText__init a_NoName__init a_CalmRoom__init a_NoDeed__init a_Breach__init a_NoChange__init a_law_stream a_law_thing a_law_refuse a_law_classes a_law_alike a_law_fields a_law_right fa := {
    d_NoText__init := ⟨_, D_NoText__init, B_NoText__init⟩
    d_NoName__init := ⟨_, D_NoName__init, B_NoName__init⟩
    d_CalmRoom__init := ⟨_, D_CalmRoom__init, B_CalmRoom__init⟩
    d_NoDeed__init := ⟨_, D_NoDeed__init, B_NoDeed__init⟩
    d_Breach__init := ⟨_, D_Breach__init, B_Breach__init⟩
    d_NoChange__init := ⟨_, D_NoChange__init, B_NoChange__init⟩
    d_law_stream := ⟨_, D_law_stream, B_law_stream⟩
    m_law_stream := PySem.W.mg_of X G f_law_stream
    d_law_thing := ⟨_, D_law_thing, B_law_thing⟩
    m_law_thing := PySem.W.mg_of X G f_law_thing
    d_law_refuse := ⟨_, D_law_refuse, B_law_refuse⟩
    m_law_refuse := PySem.W.mg_of X G f_law_refuse
    d_law_classes := ⟨_, D_law_classes, B_law_classes⟩
    m_law_classes := PySem.W.mg_of X G f_law_classes
    d_law_alike := ⟨_, D_law_alike, B_law_alike⟩
    m_law_alike := PySem.W.mg_of X G f_law_alike
    d_law_fields := ⟨_, D_law_fields, B_law_fields⟩
    m_law_fields := PySem.W.mg_of X G f_law_fields
    d_law_right := ⟨_, D_law_right, B_law_right⟩
    m_law_right := PySem.W.mg_of X G f_law_right
    d_law := ⟨_, D_law, B_law⟩
    m_law := PySem.W.mg_of X G f_law
    b_ValueError := PySem.W.mg_none_of X G b_ValueError
    b_bool := PySem.W.mg_none_of X G b_bool
    b_int := PySem.W.mg_none_of X G b_int
    b_isinstance := PySem.W.mg_none_of X G b_isinstance
    b_len := PySem.W.mg_none_of X G b_len
    b_range := PySem.W.mg_none_of X G b_range
    fn12 := rfl
    ct_NoText := rfl
    na_row_10 := ⟨⟨rfl, no_NoText_row⟩, trivial⟩
    fn13 := rfl
    ct_NoName := rfl
    na_word_11 := ⟨⟨rfl, no_NoName_word⟩, trivial⟩
    ct_CalmRoom := rfl
    na_word_12 := ⟨⟨rfl, no_CalmRoom_word⟩, trivial⟩
    ct_NoDeed := rfl
    na_word_13 := ⟨⟨rfl, no_NoDeed_word⟩, trivial⟩
    fn15 := rfl
    ct_Breach := rfl
    na_turn_15 := ⟨⟨rfl, no_Breach_turn⟩, trivial⟩
    fn14 := rfl
    na_what_15 := ⟨⟨rfl, no_Breach_what⟩, trivial⟩
    fn1 := rfl
    na_who_15 := ⟨⟨rfl, no_Breach_who⟩, trivial⟩
    ct_NoChange := rfl
    na_row_18 := ⟨⟨rfl, no_NoChange_row⟩, trivial⟩
    e0_NoRow := e0_NoRow
    kx_NoRow := cx_NoRow
    ex_NoRow := ex_NoRow
    iy_NoRow := iy_NoRow
    ct_NoRow := rfl
    mc_NoRow := PySem.W.mg_of X G cn_NoRow
    nx_NoChange_row := no_NoChange_row
    ox_NoChange := ⟨⟨_, _, _, _, _, _, _, _, _, _, _, _, _, _, _, lx_NoChange, rx_NoChange⟩, sx_NoChange, ex_NoChange, tx_NoChange, cx_NoChange⟩
    ie_NoChange := f_NoChange__init
    tI_NoChange__init := ti_NoChange__init
    mc_NoChange := PySem.W.mg_of X G cn_NoChange
    e0_NoPair := e0_NoPair
    kx_NoPair := cx_NoPair
    ex_NoPair := ex_NoPair
    iy_NoPair := iy_NoPair
    ct_NoPair := rfl
    mc_NoPair := PySem.W.mg_of X G cn_NoPair
    e0_NoStand := e0_NoStand
    kx_NoStand := cx_NoStand
    ex_NoStand := ex_NoStand
    iy_NoStand := iy_NoStand
    ct_NoStand := rfl
    mc_NoStand := PySem.W.mg_of X G cn_NoStand
    nx_Breach_who := no_Breach_who
    nx_Breach_what := no_Breach_what
    nx_Breach_turn := no_Breach_turn
    ox_Breach := ⟨⟨_, _, _, _, _, _, _, _, _, _, _, _, _, _, _, lx_Breach, rx_Breach⟩, sx_Breach, ex_Breach, tx_Breach, cx_Breach⟩
    ie_Breach := f_Breach__init
    tI_Breach__init := ti_Breach__init
    mc_Breach := PySem.W.mg_of X G cn_Breach
    e0_TooMany := e0_TooMany
    kx_TooMany := cx_TooMany
    ex_TooMany := ex_TooMany
    iy_TooMany := iy_TooMany
    ct_TooMany := rfl
    mc_TooMany := PySem.W.mg_of X G cn_TooMany
    nx_NoDeed_word := no_NoDeed_word
    ox_NoDeed := ⟨⟨_, _, _, _, _, _, _, _, _, _, _, _, _, _, _, lx_NoDeed, rx_NoDeed⟩, sx_NoDeed, ex_NoDeed, tx_NoDeed, cx_NoDeed⟩
    ie_NoDeed := f_NoDeed__init
    tI_NoDeed__init := ti_NoDeed__init
    mc_NoDeed := PySem.W.mg_of X G cn_NoDeed
    nx_CalmRoom_word := no_CalmRoom_word
    ox_CalmRoom := ⟨⟨_, _, _, _, _, _, _, _, _, _, _, _, _, _, _, lx_CalmRoom, rx_CalmRoom⟩, sx_CalmRoom, ex_CalmRoom, tx_CalmRoom, cx_CalmRoom⟩
    ie_CalmRoom := f_CalmRoom__init
    tI_CalmRoom__init := ti_CalmRoom__init
    mc_CalmRoom := PySem.W.mg_of X G cn_CalmRoom
    nx_NoName_word := no_NoName_word
    ox_NoName := ⟨⟨_, _, _, _, _, _, _, _, _, _, _, _, _, _, _, lx_NoName, rx_NoName⟩, sx_NoName, ex_NoName, tx_NoName, cx_NoName⟩
    ie_NoName := f_NoName__init
    tI_NoName__init := ti_NoName__init
    mc_NoName := PySem.W.mg_of X G cn_NoName
    nx_NoText_row := no_NoText_row
    ox_NoText := ⟨⟨_, _, _, _, _, _, _, _, _, _, _, _, _, _, _, lx_NoText, rx_NoText⟩, sx_NoText, ex_NoText, tx_NoText, cx_NoText⟩
    ie_NoText := f_NoText__init
    tI_NoText__init := ti_NoText__init
    mc_NoText := PySem.W.mg_of X G cn_NoText
    q_NoRow := TyL.ok ⟨TyFact.ofXc rfl ⟨eg_PactError, eh_PactError, ex_PactError, ch_PactError, in_PactError, sg, st, io_PactError⟩ (kit_own ix_NoRow iy_NoRow sb_NoRow_NoRow sb_NoRow_PactError), TyFact.ofXc rfl ⟨eg_NoText, eh_NoText, ex_NoText, ch_NoText, in_NoText, sg, st, io_NoText⟩ (kit_own ix_NoRow iy_NoRow sb_NoRow_NoRow sb_NoRow_NoText), TyFact.ofXc rfl ⟨eg_NoName, eh_NoName, ex_NoName, ch_NoName, in_NoName, sg, st, io_NoName⟩ (kit_own ix_NoRow iy_NoRow sb_NoRow_NoRow sb_NoRow_NoName), TyFact.ofXc rfl ⟨eg_CalmRoom, eh_CalmRoom, ex_CalmRoom, ch_CalmRoom, in_CalmRoom, sg, st, io_CalmRoom⟩ (kit_own ix_NoRow iy_NoRow sb_NoRow_NoRow sb_NoRow_CalmRoom), TyFact.ofXc rfl ⟨eg_NoDeed, eh_NoDeed, ex_NoDeed, ch_NoDeed, in_NoDeed, sg, st, io_NoDeed⟩ (kit_own ix_NoRow iy_NoRow sb_NoRow_NoRow sb_NoRow_NoDeed), TyFact.ofXc rfl ⟨eg_TooMany, eh_TooMany, ex_TooMany, ch_TooMany, in_TooMany, sg, st, io_TooMany⟩ (kit_own ix_NoRow iy_NoRow sb_NoRow_NoRow sb_NoRow_TooMany), TyFact.ofXc rfl ⟨eg_Breach, eh_Breach, ex_Breach, ch_Breach, in_Breach, sg, st, io_Breach⟩ (kit_own ix_NoRow iy_NoRow sb_NoRow_NoRow sb_NoRow_Breach), TyFact.ofXc rfl ⟨eg_NoStand, eh_NoStand, ex_NoStand, ch_NoStand, in_NoStand, sg, st, io_NoStand⟩ (kit_own ix_NoRow iy_NoRow sb_NoRow_NoRow sb_NoRow_NoStand), TyFact.ofXc rfl ⟨eg_NoPair, eh_NoPair, ex_NoPair, ch_NoPair, in_NoPair, sg, st, io_NoPair⟩ (kit_own ix_NoRow iy_NoRow sb_NoRow_NoRow sb_NoRow_NoPair), TyFact.ofXc rfl ⟨eg_NoChange, eh_NoChange, ex_NoChange, ch_NoChange, in_NoChange, sg, st, io_NoChange⟩ (kit_own ix_NoRow iy_NoRow sb_NoRow_NoRow sb_NoRow_NoChange), TyFact.ofXc rfl ⟨eg_NoRow, eh_NoRow, ex_NoRow, ch_NoRow, in_NoRow, sg, st, io_NoRow⟩ (kit_own ix_NoRow iy_NoRow sb_NoRow_NoRow sb_NoRow_NoRow), trivial⟩
    q_NoChange := TyL.ok ⟨TyFact.ofXc rfl ⟨eg_PactError, eh_PactError, ex_PactError, ch_PactError, in_PactError, sg, st, io_PactError⟩ (kit_own ix_NoChange iy_NoChange sb_NoChange_NoChange sb_NoChange_PactError), TyFact.ofXc rfl ⟨eg_NoText, eh_NoText, ex_NoText, ch_NoText, in_NoText, sg, st, io_NoText⟩ (kit_own ix_NoChange iy_NoChange sb_NoChange_NoChange sb_NoChange_NoText), TyFact.ofXc rfl ⟨eg_NoName, eh_NoName, ex_NoName, ch_NoName, in_NoName, sg, st, io_NoName⟩ (kit_own ix_NoChange iy_NoChange sb_NoChange_NoChange sb_NoChange_NoName), TyFact.ofXc rfl ⟨eg_CalmRoom, eh_CalmRoom, ex_CalmRoom, ch_CalmRoom, in_CalmRoom, sg, st, io_CalmRoom⟩ (kit_own ix_NoChange iy_NoChange sb_NoChange_NoChange sb_NoChange_CalmRoom), TyFact.ofXc rfl ⟨eg_NoDeed, eh_NoDeed, ex_NoDeed, ch_NoDeed, in_NoDeed, sg, st, io_NoDeed⟩ (kit_own ix_NoChange iy_NoChange sb_NoChange_NoChange sb_NoChange_NoDeed), TyFact.ofXc rfl ⟨eg_TooMany, eh_TooMany, ex_TooMany, ch_TooMany, in_TooMany, sg, st, io_TooMany⟩ (kit_own ix_NoChange iy_NoChange sb_NoChange_NoChange sb_NoChange_TooMany), TyFact.ofXc rfl ⟨eg_Breach, eh_Breach, ex_Breach, ch_Breach, in_Breach, sg, st, io_Breach⟩ (kit_own ix_NoChange iy_NoChange sb_NoChange_NoChange sb_NoChange_Breach), TyFact.ofXc rfl ⟨eg_NoStand, eh_NoStand, ex_NoStand, ch_NoStand, in_NoStand, sg, st, io_NoStand⟩ (kit_own ix_NoChange iy_NoChange sb_NoChange_NoChange sb_NoChange_NoStand), TyFact.ofXc rfl ⟨eg_NoPair, eh_NoPair, ex_NoPair, ch_NoPair, in_NoPair, sg, st, io_NoPair⟩ (kit_own ix_NoChange iy_NoChange sb_NoChange_NoChange sb_NoChange_NoPair), TyFact.ofXc rfl ⟨eg_NoChange, eh_NoChange, ex_NoChange, ch_NoChange, in_NoChange, sg, st, io_NoChange⟩ (kit_own ix_NoChange iy_NoChange sb_NoChange_NoChange sb_NoChange_NoChange), TyFact.ofXc rfl ⟨eg_NoRow, eh_NoRow, ex_NoRow, ch_NoRow, in_NoRow, sg, st, io_NoRow⟩ (kit_own ix_NoChange iy_NoChange sb_NoChange_NoChange sb_NoChange_NoRow), trivial⟩
    q_NoPair := TyL.ok ⟨TyFact.ofXc rfl ⟨eg_PactError, eh_PactError, ex_PactError, ch_PactError, in_PactError, sg, st, io_PactError⟩ (kit_own ix_NoPair iy_NoPair sb_NoPair_NoPair sb_NoPair_PactError), TyFact.ofXc rfl ⟨eg_NoText, eh_NoText, ex_NoText, ch_NoText, in_NoText, sg, st, io_NoText⟩ (kit_own ix_NoPair iy_NoPair sb_NoPair_NoPair sb_NoPair_NoText), TyFact.ofXc rfl ⟨eg_NoName, eh_NoName, ex_NoName, ch_NoName, in_NoName, sg, st, io_NoName⟩ (kit_own ix_NoPair iy_NoPair sb_NoPair_NoPair sb_NoPair_NoName), TyFact.ofXc rfl ⟨eg_CalmRoom, eh_CalmRoom, ex_CalmRoom, ch_CalmRoom, in_CalmRoom, sg, st, io_CalmRoom⟩ (kit_own ix_NoPair iy_NoPair sb_NoPair_NoPair sb_NoPair_CalmRoom), TyFact.ofXc rfl ⟨eg_NoDeed, eh_NoDeed, ex_NoDeed, ch_NoDeed, in_NoDeed, sg, st, io_NoDeed⟩ (kit_own ix_NoPair iy_NoPair sb_NoPair_NoPair sb_NoPair_NoDeed), TyFact.ofXc rfl ⟨eg_TooMany, eh_TooMany, ex_TooMany, ch_TooMany, in_TooMany, sg, st, io_TooMany⟩ (kit_own ix_NoPair iy_NoPair sb_NoPair_NoPair sb_NoPair_TooMany), TyFact.ofXc rfl ⟨eg_Breach, eh_Breach, ex_Breach, ch_Breach, in_Breach, sg, st, io_Breach⟩ (kit_own ix_NoPair iy_NoPair sb_NoPair_NoPair sb_NoPair_Breach), TyFact.ofXc rfl ⟨eg_NoStand, eh_NoStand, ex_NoStand, ch_NoStand, in_NoStand, sg, st, io_NoStand⟩ (kit_own ix_NoPair iy_NoPair sb_NoPair_NoPair sb_NoPair_NoStand), TyFact.ofXc rfl ⟨eg_NoPair, eh_NoPair, ex_NoPair, ch_NoPair, in_NoPair, sg, st, io_NoPair⟩ (kit_own ix_NoPair iy_NoPair sb_NoPair_NoPair sb_NoPair_NoPair), TyFact.ofXc rfl ⟨eg_NoChange, eh_NoChange, ex_NoChange, ch_NoChange, in_NoChange, sg, st, io_NoChange⟩ (kit_own ix_NoPair iy_NoPair sb_NoPair_NoPair sb_NoPair_NoChange), TyFact.ofXc rfl ⟨eg_NoRow, eh_NoRow, ex_NoRow, ch_NoRow, in_NoRow, sg, st, io_NoRow⟩ (kit_own ix_NoPair iy_NoPair sb_NoPair_NoPair sb_NoPair_NoRow), trivial⟩
    q_NoStand := TyL.ok ⟨TyFact.ofXc rfl ⟨eg_PactError, eh_PactError, ex_PactError, ch_PactError, in_PactError, sg, st, io_PactError⟩ (kit_own ix_NoStand iy_NoStand sb_NoStand_NoStand sb_NoStand_PactError), TyFact.ofXc rfl ⟨eg_NoText, eh_NoText, ex_NoText, ch_NoText, in_NoText, sg, st, io_NoText⟩ (kit_own ix_NoStand iy_NoStand sb_NoStand_NoStand sb_NoStand_NoText), TyFact.ofXc rfl ⟨eg_NoName, eh_NoName, ex_NoName, ch_NoName, in_NoName, sg, st, io_NoName⟩ (kit_own ix_NoStand iy_NoStand sb_NoStand_NoStand sb_NoStand_NoName), TyFact.ofXc rfl ⟨eg_CalmRoom, eh_CalmRoom, ex_CalmRoom, ch_CalmRoom, in_CalmRoom, sg, st, io_CalmRoom⟩ (kit_own ix_NoStand iy_NoStand sb_NoStand_NoStand sb_NoStand_CalmRoom), TyFact.ofXc rfl ⟨eg_NoDeed, eh_NoDeed, ex_NoDeed, ch_NoDeed, in_NoDeed, sg, st, io_NoDeed⟩ (kit_own ix_NoStand iy_NoStand sb_NoStand_NoStand sb_NoStand_NoDeed), TyFact.ofXc rfl ⟨eg_TooMany, eh_TooMany, ex_TooMany, ch_TooMany, in_TooMany, sg, st, io_TooMany⟩ (kit_own ix_NoStand iy_NoStand sb_NoStand_NoStand sb_NoStand_TooMany), TyFact.ofXc rfl ⟨eg_Breach, eh_Breach, ex_Breach, ch_Breach, in_Breach, sg, st, io_Breach⟩ (kit_own ix_NoStand iy_NoStand sb_NoStand_NoStand sb_NoStand_Breach), TyFact.ofXc rfl ⟨eg_NoStand, eh_NoStand, ex_NoStand, ch_NoStand, in_NoStand, sg, st, io_NoStand⟩ (kit_own ix_NoStand iy_NoStand sb_NoStand_NoStand sb_NoStand_NoStand), TyFact.ofXc rfl ⟨eg_NoPair, eh_NoPair, ex_NoPair, ch_NoPair, in_NoPair, sg, st, io_NoPair⟩ (kit_own ix_NoStand iy_NoStand sb_NoStand_NoStand sb_NoStand_NoPair), TyFact.ofXc rfl ⟨eg_NoChange, eh_NoChange, ex_NoChange, ch_NoChange, in_NoChange, sg, st, io_NoChange⟩ (kit_own ix_NoStand iy_NoStand sb_NoStand_NoStand sb_NoStand_NoChange), TyFact.ofXc rfl ⟨eg_NoRow, eh_NoRow, ex_NoRow, ch_NoRow, in_NoRow, sg, st, io_NoRow⟩ (kit_own ix_NoStand iy_NoStand sb_NoStand_NoStand sb_NoStand_NoRow), trivial⟩
    q_Breach := TyL.ok ⟨TyFact.ofXc rfl ⟨eg_PactError, eh_PactError, ex_PactError, ch_PactError, in_PactError, sg, st, io_PactError⟩ (kit_own ix_Breach iy_Breach sb_Breach_Breach sb_Breach_PactError), TyFact.ofXc rfl ⟨eg_NoText, eh_NoText, ex_NoText, ch_NoText, in_NoText, sg, st, io_NoText⟩ (kit_own ix_Breach iy_Breach sb_Breach_Breach sb_Breach_NoText), TyFact.ofXc rfl ⟨eg_NoName, eh_NoName, ex_NoName, ch_NoName, in_NoName, sg, st, io_NoName⟩ (kit_own ix_Breach iy_Breach sb_Breach_Breach sb_Breach_NoName), TyFact.ofXc rfl ⟨eg_CalmRoom, eh_CalmRoom, ex_CalmRoom, ch_CalmRoom, in_CalmRoom, sg, st, io_CalmRoom⟩ (kit_own ix_Breach iy_Breach sb_Breach_Breach sb_Breach_CalmRoom), TyFact.ofXc rfl ⟨eg_NoDeed, eh_NoDeed, ex_NoDeed, ch_NoDeed, in_NoDeed, sg, st, io_NoDeed⟩ (kit_own ix_Breach iy_Breach sb_Breach_Breach sb_Breach_NoDeed), TyFact.ofXc rfl ⟨eg_TooMany, eh_TooMany, ex_TooMany, ch_TooMany, in_TooMany, sg, st, io_TooMany⟩ (kit_own ix_Breach iy_Breach sb_Breach_Breach sb_Breach_TooMany), TyFact.ofXc rfl ⟨eg_Breach, eh_Breach, ex_Breach, ch_Breach, in_Breach, sg, st, io_Breach⟩ (kit_own ix_Breach iy_Breach sb_Breach_Breach sb_Breach_Breach), TyFact.ofXc rfl ⟨eg_NoStand, eh_NoStand, ex_NoStand, ch_NoStand, in_NoStand, sg, st, io_NoStand⟩ (kit_own ix_Breach iy_Breach sb_Breach_Breach sb_Breach_NoStand), TyFact.ofXc rfl ⟨eg_NoPair, eh_NoPair, ex_NoPair, ch_NoPair, in_NoPair, sg, st, io_NoPair⟩ (kit_own ix_Breach iy_Breach sb_Breach_Breach sb_Breach_NoPair), TyFact.ofXc rfl ⟨eg_NoChange, eh_NoChange, ex_NoChange, ch_NoChange, in_NoChange, sg, st, io_NoChange⟩ (kit_own ix_Breach iy_Breach sb_Breach_Breach sb_Breach_NoChange), TyFact.ofXc rfl ⟨eg_NoRow, eh_NoRow, ex_NoRow, ch_NoRow, in_NoRow, sg, st, io_NoRow⟩ (kit_own ix_Breach iy_Breach sb_Breach_Breach sb_Breach_NoRow), trivial⟩
    q_TooMany := TyL.ok ⟨TyFact.ofXc rfl ⟨eg_PactError, eh_PactError, ex_PactError, ch_PactError, in_PactError, sg, st, io_PactError⟩ (kit_own ix_TooMany iy_TooMany sb_TooMany_TooMany sb_TooMany_PactError), TyFact.ofXc rfl ⟨eg_NoText, eh_NoText, ex_NoText, ch_NoText, in_NoText, sg, st, io_NoText⟩ (kit_own ix_TooMany iy_TooMany sb_TooMany_TooMany sb_TooMany_NoText), TyFact.ofXc rfl ⟨eg_NoName, eh_NoName, ex_NoName, ch_NoName, in_NoName, sg, st, io_NoName⟩ (kit_own ix_TooMany iy_TooMany sb_TooMany_TooMany sb_TooMany_NoName), TyFact.ofXc rfl ⟨eg_CalmRoom, eh_CalmRoom, ex_CalmRoom, ch_CalmRoom, in_CalmRoom, sg, st, io_CalmRoom⟩ (kit_own ix_TooMany iy_TooMany sb_TooMany_TooMany sb_TooMany_CalmRoom), TyFact.ofXc rfl ⟨eg_NoDeed, eh_NoDeed, ex_NoDeed, ch_NoDeed, in_NoDeed, sg, st, io_NoDeed⟩ (kit_own ix_TooMany iy_TooMany sb_TooMany_TooMany sb_TooMany_NoDeed), TyFact.ofXc rfl ⟨eg_TooMany, eh_TooMany, ex_TooMany, ch_TooMany, in_TooMany, sg, st, io_TooMany⟩ (kit_own ix_TooMany iy_TooMany sb_TooMany_TooMany sb_TooMany_TooMany), TyFact.ofXc rfl ⟨eg_Breach, eh_Breach, ex_Breach, ch_Breach, in_Breach, sg, st, io_Breach⟩ (kit_own ix_TooMany iy_TooMany sb_TooMany_TooMany sb_TooMany_Breach), TyFact.ofXc rfl ⟨eg_NoStand, eh_NoStand, ex_NoStand, ch_NoStand, in_NoStand, sg, st, io_NoStand⟩ (kit_own ix_TooMany iy_TooMany sb_TooMany_TooMany sb_TooMany_NoStand), TyFact.ofXc rfl ⟨eg_NoPair, eh_NoPair, ex_NoPair, ch_NoPair, in_NoPair, sg, st, io_NoPair⟩ (kit_own ix_TooMany iy_TooMany sb_TooMany_TooMany sb_TooMany_NoPair), TyFact.ofXc rfl ⟨eg_NoChange, eh_NoChange, ex_NoChange, ch_NoChange, in_NoChange, sg, st, io_NoChange⟩ (kit_own ix_TooMany iy_TooMany sb_TooMany_TooMany sb_TooMany_NoChange), TyFact.ofXc rfl ⟨eg_NoRow, eh_NoRow, ex_NoRow, ch_NoRow, in_NoRow, sg, st, io_NoRow⟩ (kit_own ix_TooMany iy_TooMany sb_TooMany_TooMany sb_TooMany_NoRow), trivial⟩
    q_NoDeed := TyL.ok ⟨TyFact.ofXc rfl ⟨eg_PactError, eh_PactError, ex_PactError, ch_PactError, in_PactError, sg, st, io_PactError⟩ (kit_own ix_NoDeed iy_NoDeed sb_NoDeed_NoDeed sb_NoDeed_PactError), TyFact.ofXc rfl ⟨eg_NoText, eh_NoText, ex_NoText, ch_NoText, in_NoText, sg, st, io_NoText⟩ (kit_own ix_NoDeed iy_NoDeed sb_NoDeed_NoDeed sb_NoDeed_NoText), TyFact.ofXc rfl ⟨eg_NoName, eh_NoName, ex_NoName, ch_NoName, in_NoName, sg, st, io_NoName⟩ (kit_own ix_NoDeed iy_NoDeed sb_NoDeed_NoDeed sb_NoDeed_NoName), TyFact.ofXc rfl ⟨eg_CalmRoom, eh_CalmRoom, ex_CalmRoom, ch_CalmRoom, in_CalmRoom, sg, st, io_CalmRoom⟩ (kit_own ix_NoDeed iy_NoDeed sb_NoDeed_NoDeed sb_NoDeed_CalmRoom), TyFact.ofXc rfl ⟨eg_NoDeed, eh_NoDeed, ex_NoDeed, ch_NoDeed, in_NoDeed, sg, st, io_NoDeed⟩ (kit_own ix_NoDeed iy_NoDeed sb_NoDeed_NoDeed sb_NoDeed_NoDeed), TyFact.ofXc rfl ⟨eg_TooMany, eh_TooMany, ex_TooMany, ch_TooMany, in_TooMany, sg, st, io_TooMany⟩ (kit_own ix_NoDeed iy_NoDeed sb_NoDeed_NoDeed sb_NoDeed_TooMany), TyFact.ofXc rfl ⟨eg_Breach, eh_Breach, ex_Breach, ch_Breach, in_Breach, sg, st, io_Breach⟩ (kit_own ix_NoDeed iy_NoDeed sb_NoDeed_NoDeed sb_NoDeed_Breach), TyFact.ofXc rfl ⟨eg_NoStand, eh_NoStand, ex_NoStand, ch_NoStand, in_NoStand, sg, st, io_NoStand⟩ (kit_own ix_NoDeed iy_NoDeed sb_NoDeed_NoDeed sb_NoDeed_NoStand), TyFact.ofXc rfl ⟨eg_NoPair, eh_NoPair, ex_NoPair, ch_NoPair, in_NoPair, sg, st, io_NoPair⟩ (kit_own ix_NoDeed iy_NoDeed sb_NoDeed_NoDeed sb_NoDeed_NoPair), TyFact.ofXc rfl ⟨eg_NoChange, eh_NoChange, ex_NoChange, ch_NoChange, in_NoChange, sg, st, io_NoChange⟩ (kit_own ix_NoDeed iy_NoDeed sb_NoDeed_NoDeed sb_NoDeed_NoChange), TyFact.ofXc rfl ⟨eg_NoRow, eh_NoRow, ex_NoRow, ch_NoRow, in_NoRow, sg, st, io_NoRow⟩ (kit_own ix_NoDeed iy_NoDeed sb_NoDeed_NoDeed sb_NoDeed_NoRow), trivial⟩
    q_CalmRoom := TyL.ok ⟨TyFact.ofXc rfl ⟨eg_PactError, eh_PactError, ex_PactError, ch_PactError, in_PactError, sg, st, io_PactError⟩ (kit_own ix_CalmRoom iy_CalmRoom sb_CalmRoom_CalmRoom sb_CalmRoom_PactError), TyFact.ofXc rfl ⟨eg_NoText, eh_NoText, ex_NoText, ch_NoText, in_NoText, sg, st, io_NoText⟩ (kit_own ix_CalmRoom iy_CalmRoom sb_CalmRoom_CalmRoom sb_CalmRoom_NoText), TyFact.ofXc rfl ⟨eg_NoName, eh_NoName, ex_NoName, ch_NoName, in_NoName, sg, st, io_NoName⟩ (kit_own ix_CalmRoom iy_CalmRoom sb_CalmRoom_CalmRoom sb_CalmRoom_NoName), TyFact.ofXc rfl ⟨eg_CalmRoom, eh_CalmRoom, ex_CalmRoom, ch_CalmRoom, in_CalmRoom, sg, st, io_CalmRoom⟩ (kit_own ix_CalmRoom iy_CalmRoom sb_CalmRoom_CalmRoom sb_CalmRoom_CalmRoom), TyFact.ofXc rfl ⟨eg_NoDeed, eh_NoDeed, ex_NoDeed, ch_NoDeed, in_NoDeed, sg, st, io_NoDeed⟩ (kit_own ix_CalmRoom iy_CalmRoom sb_CalmRoom_CalmRoom sb_CalmRoom_NoDeed), TyFact.ofXc rfl ⟨eg_TooMany, eh_TooMany, ex_TooMany, ch_TooMany, in_TooMany, sg, st, io_TooMany⟩ (kit_own ix_CalmRoom iy_CalmRoom sb_CalmRoom_CalmRoom sb_CalmRoom_TooMany), TyFact.ofXc rfl ⟨eg_Breach, eh_Breach, ex_Breach, ch_Breach, in_Breach, sg, st, io_Breach⟩ (kit_own ix_CalmRoom iy_CalmRoom sb_CalmRoom_CalmRoom sb_CalmRoom_Breach), TyFact.ofXc rfl ⟨eg_NoStand, eh_NoStand, ex_NoStand, ch_NoStand, in_NoStand, sg, st, io_NoStand⟩ (kit_own ix_CalmRoom iy_CalmRoom sb_CalmRoom_CalmRoom sb_CalmRoom_NoStand), TyFact.ofXc rfl ⟨eg_NoPair, eh_NoPair, ex_NoPair, ch_NoPair, in_NoPair, sg, st, io_NoPair⟩ (kit_own ix_CalmRoom iy_CalmRoom sb_CalmRoom_CalmRoom sb_CalmRoom_NoPair), TyFact.ofXc rfl ⟨eg_NoChange, eh_NoChange, ex_NoChange, ch_NoChange, in_NoChange, sg, st, io_NoChange⟩ (kit_own ix_CalmRoom iy_CalmRoom sb_CalmRoom_CalmRoom sb_CalmRoom_NoChange), TyFact.ofXc rfl ⟨eg_NoRow, eh_NoRow, ex_NoRow, ch_NoRow, in_NoRow, sg, st, io_NoRow⟩ (kit_own ix_CalmRoom iy_CalmRoom sb_CalmRoom_CalmRoom sb_CalmRoom_NoRow), trivial⟩
    q_NoName := TyL.ok ⟨TyFact.ofXc rfl ⟨eg_PactError, eh_PactError, ex_PactError, ch_PactError, in_PactError, sg, st, io_PactError⟩ (kit_own ix_NoName iy_NoName sb_NoName_NoName sb_NoName_PactError), TyFact.ofXc rfl ⟨eg_NoText, eh_NoText, ex_NoText, ch_NoText, in_NoText, sg, st, io_NoText⟩ (kit_own ix_NoName iy_NoName sb_NoName_NoName sb_NoName_NoText), TyFact.ofXc rfl ⟨eg_NoName, eh_NoName, ex_NoName, ch_NoName, in_NoName, sg, st, io_NoName⟩ (kit_own ix_NoName iy_NoName sb_NoName_NoName sb_NoName_NoName), TyFact.ofXc rfl ⟨eg_CalmRoom, eh_CalmRoom, ex_CalmRoom, ch_CalmRoom, in_CalmRoom, sg, st, io_CalmRoom⟩ (kit_own ix_NoName iy_NoName sb_NoName_NoName sb_NoName_CalmRoom), TyFact.ofXc rfl ⟨eg_NoDeed, eh_NoDeed, ex_NoDeed, ch_NoDeed, in_NoDeed, sg, st, io_NoDeed⟩ (kit_own ix_NoName iy_NoName sb_NoName_NoName sb_NoName_NoDeed), TyFact.ofXc rfl ⟨eg_TooMany, eh_TooMany, ex_TooMany, ch_TooMany, in_TooMany, sg, st, io_TooMany⟩ (kit_own ix_NoName iy_NoName sb_NoName_NoName sb_NoName_TooMany), TyFact.ofXc rfl ⟨eg_Breach, eh_Breach, ex_Breach, ch_Breach, in_Breach, sg, st, io_Breach⟩ (kit_own ix_NoName iy_NoName sb_NoName_NoName sb_NoName_Breach), TyFact.ofXc rfl ⟨eg_NoStand, eh_NoStand, ex_NoStand, ch_NoStand, in_NoStand, sg, st, io_NoStand⟩ (kit_own ix_NoName iy_NoName sb_NoName_NoName sb_NoName_NoStand), TyFact.ofXc rfl ⟨eg_NoPair, eh_NoPair, ex_NoPair, ch_NoPair, in_NoPair, sg, st, io_NoPair⟩ (kit_own ix_NoName iy_NoName sb_NoName_NoName sb_NoName_NoPair), TyFact.ofXc rfl ⟨eg_NoChange, eh_NoChange, ex_NoChange, ch_NoChange, in_NoChange, sg, st, io_NoChange⟩ (kit_own ix_NoName iy_NoName sb_NoName_NoName sb_NoName_NoChange), TyFact.ofXc rfl ⟨eg_NoRow, eh_NoRow, ex_NoRow, ch_NoRow, in_NoRow, sg, st, io_NoRow⟩ (kit_own ix_NoName iy_NoName sb_NoName_NoName sb_NoName_NoRow), trivial⟩
    q_NoText := TyL.ok ⟨TyFact.ofXc rfl ⟨eg_PactError, eh_PactError, ex_PactError, ch_PactError, in_PactError, sg, st, io_PactError⟩ (kit_own ix_NoText iy_NoText sb_NoText_NoText sb_NoText_PactError), TyFact.ofXc rfl ⟨eg_NoText, eh_NoText, ex_NoText, ch_NoText, in_NoText, sg, st, io_NoText⟩ (kit_own ix_NoText iy_NoText sb_NoText_NoText sb_NoText_NoText), TyFact.ofXc rfl ⟨eg_NoName, eh_NoName, ex_NoName, ch_NoName, in_NoName, sg, st, io_NoName⟩ (kit_own ix_NoText iy_NoText sb_NoText_NoText sb_NoText_NoName), TyFact.ofXc rfl ⟨eg_CalmRoom, eh_CalmRoom, ex_CalmRoom, ch_CalmRoom, in_CalmRoom, sg, st, io_CalmRoom⟩ (kit_own ix_NoText iy_NoText sb_NoText_NoText sb_NoText_CalmRoom), TyFact.ofXc rfl ⟨eg_NoDeed, eh_NoDeed, ex_NoDeed, ch_NoDeed, in_NoDeed, sg, st, io_NoDeed⟩ (kit_own ix_NoText iy_NoText sb_NoText_NoText sb_NoText_NoDeed), TyFact.ofXc rfl ⟨eg_TooMany, eh_TooMany, ex_TooMany, ch_TooMany, in_TooMany, sg, st, io_TooMany⟩ (kit_own ix_NoText iy_NoText sb_NoText_NoText sb_NoText_TooMany), TyFact.ofXc rfl ⟨eg_Breach, eh_Breach, ex_Breach, ch_Breach, in_Breach, sg, st, io_Breach⟩ (kit_own ix_NoText iy_NoText sb_NoText_NoText sb_NoText_Breach), TyFact.ofXc rfl ⟨eg_NoStand, eh_NoStand, ex_NoStand, ch_NoStand, in_NoStand, sg, st, io_NoStand⟩ (kit_own ix_NoText iy_NoText sb_NoText_NoText sb_NoText_NoStand), TyFact.ofXc rfl ⟨eg_NoPair, eh_NoPair, ex_NoPair, ch_NoPair, in_NoPair, sg, st, io_NoPair⟩ (kit_own ix_NoText iy_NoText sb_NoText_NoText sb_NoText_NoPair), TyFact.ofXc rfl ⟨eg_NoChange, eh_NoChange, ex_NoChange, ch_NoChange, in_NoChange, sg, st, io_NoChange⟩ (kit_own ix_NoText iy_NoText sb_NoText_NoText sb_NoText_NoChange), TyFact.ofXc rfl ⟨eg_NoRow, eh_NoRow, ex_NoRow, ch_NoRow, in_NoRow, sg, st, io_NoRow⟩ (kit_own ix_NoText iy_NoText sb_NoText_NoText sb_NoText_NoRow), trivial⟩
    xf_turn := (XfL.cons rfl (ExcC.xf ⟨eg_Breach, eh_Breach, ex_Breach, ch_Breach, in_Breach, sg, st, io_Breach⟩) no_Breach_turn XfL.nil)
    nf := Nat.le_refl _
    xf_what := (XfL.cons rfl (ExcC.xf ⟨eg_Breach, eh_Breach, ex_Breach, ch_Breach, in_Breach, sg, st, io_Breach⟩) no_Breach_what XfL.nil)
    xf_who := (XfL.cons rfl (ExcC.xf ⟨eg_Breach, eh_Breach, ex_Breach, ch_Breach, in_Breach, sg, st, io_Breach⟩) no_Breach_who XfL.nil)
    xf_word := (XfL.cons rfl (ExcC.xf ⟨eg_NoName, eh_NoName, ex_NoName, ch_NoName, in_NoName, sg, st, io_NoName⟩) no_NoName_word (XfL.cons rfl (ExcC.xf ⟨eg_CalmRoom, eh_CalmRoom, ex_CalmRoom, ch_CalmRoom, in_CalmRoom, sg, st, io_CalmRoom⟩) no_CalmRoom_word (XfL.cons rfl (ExcC.xf ⟨eg_NoDeed, eh_NoDeed, ex_NoDeed, ch_NoDeed, in_NoDeed, sg, st, io_NoDeed⟩) no_NoDeed_word XfL.nil)))
    xf_row := (XfL.cons rfl (ExcC.xf ⟨eg_NoText, eh_NoText, ex_NoText, ch_NoText, in_NoText, sg, st, io_NoText⟩) no_NoText_row (XfL.cons rfl (ExcC.xf ⟨eg_NoChange, eh_NoChange, ex_NoChange, ch_NoChange, in_NoChange, sg, st, io_NoChange⟩) no_NoChange_row XfL.nil))
    q_ValueError := TyL.ok ⟨TyFact.ofXc rfl ⟨eg_PactError, eh_PactError, ex_PactError, ch_PactError, in_PactError, sg, st, io_PactError⟩ (kit_bt (by decide +kernel) vb_ValueError_PactError), TyFact.ofXc rfl ⟨eg_NoText, eh_NoText, ex_NoText, ch_NoText, in_NoText, sg, st, io_NoText⟩ (kit_bt (by decide +kernel) vb_ValueError_NoText), TyFact.ofXc rfl ⟨eg_NoName, eh_NoName, ex_NoName, ch_NoName, in_NoName, sg, st, io_NoName⟩ (kit_bt (by decide +kernel) vb_ValueError_NoName), TyFact.ofXc rfl ⟨eg_CalmRoom, eh_CalmRoom, ex_CalmRoom, ch_CalmRoom, in_CalmRoom, sg, st, io_CalmRoom⟩ (kit_bt (by decide +kernel) vb_ValueError_CalmRoom), TyFact.ofXc rfl ⟨eg_NoDeed, eh_NoDeed, ex_NoDeed, ch_NoDeed, in_NoDeed, sg, st, io_NoDeed⟩ (kit_bt (by decide +kernel) vb_ValueError_NoDeed), TyFact.ofXc rfl ⟨eg_TooMany, eh_TooMany, ex_TooMany, ch_TooMany, in_TooMany, sg, st, io_TooMany⟩ (kit_bt (by decide +kernel) vb_ValueError_TooMany), TyFact.ofXc rfl ⟨eg_Breach, eh_Breach, ex_Breach, ch_Breach, in_Breach, sg, st, io_Breach⟩ (kit_bt (by decide +kernel) vb_ValueError_Breach), TyFact.ofXc rfl ⟨eg_NoStand, eh_NoStand, ex_NoStand, ch_NoStand, in_NoStand, sg, st, io_NoStand⟩ (kit_bt (by decide +kernel) vb_ValueError_NoStand), TyFact.ofXc rfl ⟨eg_NoPair, eh_NoPair, ex_NoPair, ch_NoPair, in_NoPair, sg, st, io_NoPair⟩ (kit_bt (by decide +kernel) vb_ValueError_NoPair), TyFact.ofXc rfl ⟨eg_NoChange, eh_NoChange, ex_NoChange, ch_NoChange, in_NoChange, sg, st, io_NoChange⟩ (kit_bt (by decide +kernel) vb_ValueError_NoChange), TyFact.ofXc rfl ⟨eg_NoRow, eh_NoRow, ex_NoRow, ch_NoRow, in_NoRow, sg, st, io_NoRow⟩ (kit_bt (by decide +kernel) vb_ValueError_NoRow), trivial⟩
    el_PactError_10_11_12_13_14_15_16_17_18_19 := (ExL.cons rfl (PySem.W.exm_ref ex_PactError ch_PactError iy_PactError sb_PactError_NoText) (ExL.cons rfl (PySem.W.exm_ref ex_PactError ch_PactError iy_PactError sb_PactError_NoName) (ExL.cons rfl (PySem.W.exm_ref ex_PactError ch_PactError iy_PactError sb_PactError_CalmRoom) (ExL.cons rfl (PySem.W.exm_ref ex_PactError ch_PactError iy_PactError sb_PactError_NoDeed) (ExL.cons rfl (PySem.W.exm_ref ex_PactError ch_PactError iy_PactError sb_PactError_TooMany) (ExL.cons rfl (PySem.W.exm_ref ex_PactError ch_PactError iy_PactError sb_PactError_Breach) (ExL.cons rfl (PySem.W.exm_ref ex_PactError ch_PactError iy_PactError sb_PactError_NoStand) (ExL.cons rfl (PySem.W.exm_ref ex_PactError ch_PactError iy_PactError sb_PactError_NoPair) (ExL.cons rfl (PySem.W.exm_ref ex_PactError ch_PactError iy_PactError sb_PactError_NoChange) (ExL.cons rfl (PySem.W.exm_ref ex_PactError ch_PactError iy_PactError sb_PactError_NoRow) ExL.nil))))))))))
    mc_PactError := PySem.W.mg_of X G cn_PactError
    q_bool := tyq (by decide +kernel)
    q_int := tyq (by decide +kernel)
  }
  refine ⟨PySem.W.fnOf "law" "law" (defArgs s_law) (defBody s_law) (defScope s_law) .none fkV_law fdc_law fpm_law fan_law fcd_law fct_law, fun s v => .of_eq rfl, fun base _ _ => ?_⟩
  have F := fn_full (c := (⟨K, [0, 0, 0, 0, 0, 0, 0, 0, 0, c_PactError, c_NoText, c_NoName, c_CalmRoom, c_NoDeed, c_TooMany, c_Breach, c_NoStand, c_NoPair, c_NoChange, c_NoRow, 0, 0, 0, 0, 0, 0, 0, 0, 0, 0, 0, 0], [("label" : Str), ("who" : Str), ("act" : Str), ("turns" : Str), ("room" : Str), ("name" : Str), ("value" : Str), ("rooms" : Str), ("rows" : Str), ("parties" : Str), ("acts" : Str), ("whole" : Str), ("row" : Str), ("word" : Str), ("what" : Str), ("turn" : Str), ("stack" : Str), ("header" : Str), ("labels" : Str), ("pact" : Str), ("names" : Str), ("kinds" : Str), ("start" : Str), ("marks" : Str), ("duties" : Str), ("table" : Str), ("one" : Str), ("other" : Str), ("clause" : Str), ("kept" : Str), ("present_stand" : Str), ("course_now" : Str), ("house" : Str), ("entries" : Str), ("order" : Str), ("idle" : Str), ("stand" : Str)], by decide +kernel⟩ : Kx)) (P := l.prog) (w := w) (mg := mg) (base := base) D_law sc_law (by decide) (k := 4) fun cdv A outer s H E hr => (ess_cons (es_for (passes_of rfl) rfl (ei_seq (ee_slice (own := false) (ee_var 0 rfl (pv 0)) (eo_some (ee_int rfl)) (eo_some (ee_int rfl)))) (eg_name (pg_name (i := 1) sc_law.nd rfl (by first | exact Or.inl rfl | exact Or.inr rfl))) (ess_cons (es_asg (ee_call spA_P DefOk.nil ((fs_law_stream T).P.mono (Nat.le_refl _)) (hr.mono (by decide)) (L2N.takes_of rfl rfl rfl rfl) (by rfl) T.m_law_stream (ea_cons (ee_var 1 rfl (pv 1)) (ea_cons (ee_int rfl) (ea_nil rfl)))) (eg_name (pg_name (i := 2) sc_law.nd rfl (by first | exact Or.inl rfl | exact Or.inr rfl)))) (ess_one (es_if (et_not (et_val (ee_call spA_P DefOk.nil ((fs_law_right T).P.mono (Nat.le_refl _)) (hr.mono (by decide)) (L2N.takes_of rfl rfl rfl rfl) (by rfl) T.m_law_right (ea_cons (ee_op op_mod s2_mod (ee_ix (ee_var 2 rfl (pv 2)) (ee_int rfl) (fun _ _ => rfl)) (ee_int rfl)) (ea_cons (ee_call spA_P DefOk.nil ((fs_law_thing T).P.mono (Nat.le_refl _)) (hr.mono (by decide)) (L2N.takes_of rfl rfl rfl rfl) (by rfl) T.m_law_thing (ea_cons (ee_ix (ee_var 2 rfl (pv 2)) (ee_int rfl) (fun _ _ => rfl)) (ea_nil rfl))) (ea_cons (ee_call spA_P DefOk.nil ((fs_law_thing T).P.mono (Nat.le_refl _)) (hr.mono (by decide)) (L2N.takes_of rfl rfl rfl rfl) (by rfl) T.m_law_thing (ea_cons (ee_ix (ee_var 2 rfl (pv 2)) (ee_int rfl) (fun _ _ => rfl)) (ea_nil rfl))) (ea_cons (ee_call spA_P DefOk.nil ((fs_law_thing T).P.mono (Nat.le_refl _)) (hr.mono (by decide)) (L2N.takes_of rfl rfl rfl rfl) (by rfl) T.m_law_thing (ea_cons (ee_ix (ee_var 2 rfl (pv 2)) (ee_int rfl) (fun _ _ => rfl)) (ea_nil rfl))) (ea_nil rfl)))))))) (ess_one (es_ret (ee_bl rfl))) (ess_nil rfl))))) (ess_one (es_ret (ee_bl rfl))))
  exact F.imp fun vs H Q E q => spP_of (law_sp hgood q)
theorem walk {l : PySem.W.OpenLaw} {q : Program} {loose : List Str} {XP : (Str → Option Value) → Heap → Prop} {YP : World → Heap → Prop} {d : DefRec} {K : Params → PySem.W.Frag} (hgood : ∀ ns : List Int, ns.length ≤ 63 → F_law [.fls (ns.map .int)] = some (.ok (.bl true))) (hn : l.most = some 63) (hdf : d.params.defaults = [])
    (hY : ∀ (w : World) (h : Heap), YP w h → (K w.params).In h)
    (F : ∀ (w : World) (mg : Str → Option Value) (fa : Addr) (h : Heap), (K w.params).In h → h.Ns mainGlobals mg → mg d.name = some (.ref fa) →
      ∃ fd : FuncData, (∀ (s : Shared) (u : Value), BindsTo s fd ⟨[u], []⟩ [("_law_script", u)]) ∧ ∀ base : Heap, (K w.params).In base → base.Ns mainGlobals mg → FnOk l.prog w (K w.params) mg base (L2N.CX l.prog w) 5 fa fd ["_law_script"] (spLawK (K w.params))) :
    PySem.W.WalkO q loose XP YP l.row.toRowW d [] (fun f vs => PySem.call f vs) :=
  L2.walk_of (n := 63) (k := 5) (x := "_law_script") (CX := fun w => L2N.CX l.prog w) (sp := fun w => spLawK (K w.params)) hn (by decide) hdf ⟨rfl, by decide, by decide⟩ hY F (fun w H a ns hl _ hS => ⟨a, ns, rfl, hS, hl, fun _ => rfl⟩) fun _ _ _ _ _ z => cx_none z
end Walk
open PySem PySem.W PyProof.Rows in
set_option maxRecDepth 100000 in
set_option maxHeartbeats 0 in
theorem PySem.Challenge.cw_pactway_k17_refusals_holds : PySem.Challenge.rw_pactway_k17_refusals.Holds := by
  w_on; o_law
  refine HandSHeadRun.head_any (r := OpenLaw.row PySem.Challenge.rw_pactway_k17_refusals) (q := HeadK.q) (H := kHook HeadK.K HeadK.as HeadK.as_eq) (ob := HeadK.ob) (loose := []) (kwd := []) HeadK.ob_eq (by kernel_rfl) (fun s => by kernel_rfl) HeadK.run (by rfl) (by rfl) (by rfl) (by rfl) (by first | assumption | decide +kernel) (by decide +kernel) ⟨rfl, rfl, rfl, rfl, rfl, by decide +kernel⟩ ?hw ?hc
  (case hw => w_witness2)
  k_fill
  refine Walk.walk (l := PySem.Challenge.rw_pactway_k17_refusals) Math.law_true rfl rfl (fun w h Y => PySem.W.kIn_of Y) ?F
  case F =>
    intro w mg fa h KX G hmg
    refine' Walk.all_mk Math.law_true KX G hmg ?cn_PactError ?cn_NoText ?cn_NoName ?cn_CalmRoom ?cn_NoDeed ?cn_TooMany ?cn_Breach ?cn_NoStand ?cn_NoPair ?cn_NoChange ?cn_NoRow ?f_NoText__init ?l_NoText__init ?k_NoText__init ?p_NoText__init ?f_NoName__init ?l_NoName__init ?k_NoName__init ?p_NoName__init ?f_CalmRoom__init ?l_CalmRoom__init ?k_CalmRoom__init ?p_CalmRoom__init ?f_NoDeed__init ?l_NoDeed__init ?k_NoDeed__init ?p_NoDeed__init ?f_Breach__init ?l_Breach__init ?k_Breach__init ?p_Breach__init ?f_NoChange__init ?l_NoChange__init ?k_NoChange__init ?p_NoChange__init ?f_law_stream ?l_law_stream ?k_law_stream ?p_law_stream ?f_law_thing ?l_law_thing ?k_law_thing ?p_law_thing ?f_law_refuse ?l_law_refuse ?k_law_refuse ?p_law_refuse ?f_law_classes ?l_law_classes ?k_law_classes ?p_law_classes ?f_law_alike ?l_law_alike ?k_law_alike ?p_law_alike ?f_law_fields ?l_law_fields ?k_law_fields ?p_law_fields ?f_law_right ?l_law_right ?k_law_right ?p_law_right ?f_law ?l_law ?k_law ?p_law ?b_ValueError ?b_bool ?b_int ?b_isinstance ?b_len ?b_range ?no_NoText_row ?no_NoName_word ?no_CalmRoom_word ?no_NoDeed_word ?no_Breach_turn ?no_Breach_what ?no_Breach_who ?no_NoChange_row ?e0_NoRow ?cx_NoRow ?ex_NoRow ?iy_NoRow ?lx_NoChange ?rx_NoChange ?sx_NoChange ?ex_NoChange ?tx_NoChange ?cx_NoChange ?ti_NoChange__init ?e0_NoPair ?cx_NoPair ?ex_NoPair ?iy_NoPair ?e0_NoStand ?cx_NoStand ?ex_NoStand ?iy_NoStand ?lx_Breach ?rx_Breach ?sx_Breach ?ex_Breach ?tx_Breach ?cx_Breach ?ti_Breach__init ?e0_TooMany ?cx_TooMany ?ex_TooMany ?iy_TooMany ?lx_NoDeed ?rx_NoDeed ?sx_NoDeed ?ex_NoDeed ?tx_NoDeed ?cx_NoDeed ?ti_NoDeed__init ?lx_CalmRoom ?rx_CalmRoom ?sx_CalmRoom ?ex_CalmRoom ?tx_CalmRoom ?cx_CalmRoom ?ti_CalmRoom__init ?lx_NoName ?rx_NoName ?sx_NoName ?ex_NoName ?tx_NoName ?cx_NoName ?ti_NoName__init ?lx_NoText ?rx_NoText ?sx_NoText ?ex_NoText ?tx_NoText ?cx_NoText ?ti_NoText__init ?ix_NoRow ?sb_NoRow_NoRow ?sg ?st ?eg_PactError ?eh_PactError ?ex_PactError ?ch_PactError ?in_PactError ?io_PactError ?sb_NoRow_PactError ?eg_NoText ?eh_NoText ?ch_NoText ?in_NoText ?io_NoText ?sb_NoRow_NoText ?eg_NoName ?eh_NoName ?ch_NoName ?in_NoName ?io_NoName ?sb_NoRow_NoName ?eg_CalmRoom ?eh_CalmRoom ?ch_CalmRoom ?in_CalmRoom ?io_CalmRoom ?sb_NoRow_CalmRoom ?eg_NoDeed ?eh_NoDeed ?ch_NoDeed ?in_NoDeed ?io_NoDeed ?sb_NoRow_NoDeed ?eg_TooMany ?eh_TooMany ?ch_TooMany ?in_TooMany ?io_TooMany ?sb_NoRow_TooMany ?eg_Breach ?eh_Breach ?ch_Breach ?in_Breach ?io_Breach ?sb_NoRow_Breach ?eg_NoStand ?eh_NoStand ?ch_NoStand ?in_NoStand ?io_NoStand ?sb_NoRow_NoStand ?eg_NoPair ?eh_NoPair ?ch_NoPair ?in_NoPair ?io_NoPair ?sb_NoRow_NoPair ?eg_NoChange ?eh_NoChange ?ch_NoChange ?in_NoChange ?io_NoChange ?sb_NoRow_NoChange ?eg_NoRow ?eh_NoRow ?ch_NoRow ?in_NoRow ?io_NoRow ?ix_NoChange ?iy_NoChange ?sb_NoChange_NoChange ?sb_NoChange_PactError ?sb_NoChange_NoText ?sb_NoChange_NoName ?sb_NoChange_CalmRoom ?sb_NoChange_NoDeed ?sb_NoChange_TooMany ?sb_NoChange_Breach ?sb_NoChange_NoStand ?sb_NoChange_NoPair ?sb_NoChange_NoRow ?ix_NoPair ?sb_NoPair_NoPair ?sb_NoPair_PactError ?sb_NoPair_NoText ?sb_NoPair_NoName ?sb_NoPair_CalmRoom ?sb_NoPair_NoDeed ?sb_NoPair_TooMany ?sb_NoPair_Breach ?sb_NoPair_NoStand ?sb_NoPair_NoChange ?sb_NoPair_NoRow ?ix_NoStand ?sb_NoStand_NoStand ?sb_NoStand_PactError ?sb_NoStand_NoText ?sb_NoStand_NoName ?sb_NoStand_CalmRoom ?sb_NoStand_NoDeed ?sb_NoStand_TooMany ?sb_NoStand_Breach ?sb_NoStand_NoPair ?sb_NoStand_NoChange ?sb_NoStand_NoRow ?ix_Breach ?iy_Breach ?sb_Breach_Breach ?sb_Breach_PactError ?sb_Breach_NoText ?sb_Breach_NoName ?sb_Breach_CalmRoom ?sb_Breach_NoDeed ?sb_Breach_TooMany ?sb_Breach_NoStand ?sb_Breach_NoPair ?sb_Breach_NoChange ?sb_Breach_NoRow ?ix_TooMany ?sb_TooMany_TooMany ?sb_TooMany_PactError ?sb_TooMany_NoText ?sb_TooMany_NoName ?sb_TooMany_CalmRoom ?sb_TooMany_NoDeed ?sb_TooMany_Breach ?sb_TooMany_NoStand ?sb_TooMany_NoPair ?sb_TooMany_NoChange ?sb_TooMany_NoRow ?ix_NoDeed ?iy_NoDeed ?sb_NoDeed_NoDeed ?sb_NoDeed_PactError ?sb_NoDeed_NoText ?sb_NoDeed_NoName ?sb_NoDeed_CalmRoom ?sb_NoDeed_TooMany ?sb_NoDeed_Breach ?sb_NoDeed_NoStand ?sb_NoDeed_NoPair ?sb_NoDeed_NoChange ?sb_NoDeed_NoRow ?ix_CalmRoom ?iy_CalmRoom ?sb_CalmRoom_CalmRoom ?sb_CalmRoom_PactError ?sb_CalmRoom_NoText ?sb_CalmRoom_NoName ?sb_CalmRoom_NoDeed ?sb_CalmRoom_TooMany ?sb_CalmRoom_Breach ?sb_CalmRoom_NoStand ?sb_CalmRoom_NoPair ?sb_CalmRoom_NoChange ?sb_CalmRoom_NoRow ?ix_NoName ?iy_NoName ?sb_NoName_NoName ?sb_NoName_PactError ?sb_NoName_NoText ?sb_NoName_CalmRoom ?sb_NoName_NoDeed ?sb_NoName_TooMany ?sb_NoName_Breach ?sb_NoName_NoStand ?sb_NoName_NoPair ?sb_NoName_NoChange ?sb_NoName_NoRow ?ix_NoText ?iy_NoText ?sb_NoText_NoText ?sb_NoText_PactError ?sb_NoText_NoName ?sb_NoText_CalmRoom ?sb_NoText_NoDeed ?sb_NoText_TooMany ?sb_NoText_Breach ?sb_NoText_NoStand ?sb_NoText_NoPair ?sb_NoText_NoChange ?sb_NoText_NoRow ?vb_ValueError_PactError ?vb_ValueError_NoText ?vb_ValueError_NoName ?vb_ValueError_CalmRoom ?vb_ValueError_NoDeed ?vb_ValueError_TooMany ?vb_ValueError_Breach ?vb_ValueError_NoStand ?vb_ValueError_NoPair ?vb_ValueError_NoChange ?vb_ValueError_NoRow ?iy_PactError ?sb_PactError_NoRow ?sb_PactError_NoChange ?sb_PactError_NoPair ?sb_PactError_NoStand ?sb_PactError_Breach ?sb_PactError_TooMany ?sb_PactError_NoDeed ?sb_PactError_CalmRoom ?sb_PactError_NoName ?sb_PactError_NoText
    (case cn_PactError => k_is)
    (case cn_NoText => k_is)
    (case cn_NoName => k_is)
    (case cn_CalmRoom => k_is)
    (case cn_NoDeed => k_is)
    (case cn_TooMany => k_is)
    (case cn_Breach => k_is)
    (case cn_NoStand => k_is)
    (case cn_NoPair => k_is)
    (case cn_NoChange => k_is)
    (case cn_NoRow => k_is)
    (case f_NoText__init => k_is)
    (case l_NoText__init => k_is)
    (case k_NoText__init => k_is)
    (case p_NoText__init => k_is)
    (case f_NoName__init => k_is)
    (case l_NoName__init => k_is)
    (case k_NoName__init => k_is)
    (case p_NoName__init => k_is)
    (case f_CalmRoom__init => k_is)
    (case l_CalmRoom__init => k_is)
    (case k_CalmRoom__init => k_is)
    (case p_CalmRoom__init => k_is)
    (case f_NoDeed__init => k_is)
    (case l_NoDeed__init => k_is)
    (case k_NoDeed__init => k_is)
    (case p_NoDeed__init => k_is)
    (case f_Breach__init => k_is)
    (case l_Breach__init => k_is)
    (case k_Breach__init => k_is)
    (case p_Breach__init => k_is)
    (case f_NoChange__init => k_is)
    (case l_NoChange__init => k_is)
    (case k_NoChange__init => k_is)
    (case p_NoChange__init => k_is)
    (case f_law_stream => k_is)
    (case l_law_stream => k_is)
    (case k_law_stream => k_is)
    (case p_law_stream => k_is)
    (case f_law_thing => k_is)
    (case l_law_thing => k_is)
    (case k_law_thing => k_is)
    (case p_law_thing => k_is)
    (case f_law_refuse => k_is)
    (case l_law_refuse => k_is)
    (case k_law_refuse => k_is)
    (case p_law_refuse => k_is)
    (case f_law_classes => k_is)
    (case l_law_classes => k_is)
    (case k_law_classes => k_is)
    (case p_law_classes => k_is)
    (case f_law_alike => k_is)
    (case l_law_alike => k_is)
    (case k_law_alike => k_is)
    (case p_law_alike => k_is)
    (case f_law_fields => k_is)
    (case l_law_fields => k_is)
    (case k_law_fields => k_is)
    (case p_law_fields => k_is)
    (case f_law_right => k_is)
    (case l_law_right => k_is)
    (case k_law_right => k_is)
    (case p_law_right => k_is)
    (case f_law => k_is)
    (case l_law => k_is)
    (case k_law => k_is)
    (case p_law => k_is)
    (case b_ValueError => k_is)
    (case b_bool => k_is)
    (case b_int => k_is)
    (case b_isinstance => k_is)
    (case b_len => k_is)
    (case b_range => k_is)
    (case no_NoText_row => k_is)
    (case no_NoName_word => k_is)
    (case no_CalmRoom_word => k_is)
    (case no_NoDeed_word => k_is)
    (case no_Breach_turn => k_is)
    (case no_Breach_what => k_is)
    (case no_Breach_who => k_is)
    (case no_NoChange_row => k_is)
    (case e0_NoRow => k_exc)
    (case cx_NoRow => k_is)
    (case ex_NoRow => k_is)
    (case iy_NoRow => k_is)
    (case lx_NoChange => k_is)
    (case rx_NoChange => decide +kernel)
    (case sx_NoChange => k_is)
    (case ex_NoChange => k_is)
    (case tx_NoChange => k_is)
    (case cx_NoChange => k_is)
    (case ti_NoChange__init => k_is)
    (case e0_NoPair => k_exc)
    (case cx_NoPair => k_is)
    (case ex_NoPair => k_is)
    (case iy_NoPair => k_is)
    (case e0_NoStand => k_exc)
    (case cx_NoStand => k_is)
    (case ex_NoStand => k_is)
    (case iy_NoStand => k_is)
    (case lx_Breach => k_is)
    (case rx_Breach => decide +kernel)
    (case sx_Breach => k_is)
    (case ex_Breach => k_is)
    (case tx_Breach => k_is)
    (case cx_Breach => k_is)
    (case ti_Breach__init => k_is)
    (case e0_TooMany => k_exc)
    (case cx_TooMany => k_is)
    (case ex_TooMany => k_is)
    (case iy_TooMany => k_is)
    (case lx_NoDeed => k_is)
    (case rx_NoDeed => decide +kernel)
    (case sx_NoDeed => k_is)
    (case ex_NoDeed => k_is)
    (case tx_NoDeed => k_is)
    (case cx_NoDeed => k_is)
    (case ti_NoDeed__init => k_is)
    (case lx_CalmRoom => k_is)
    (case rx_CalmRoom => decide +kernel)
    (case sx_CalmRoom => k_is)
    (case ex_CalmRoom => k_is)
    (case tx_CalmRoom => k_is)
    (case cx_CalmRoom => k_is)
    (case ti_CalmRoom__init => k_is)
    (case lx_NoName => k_is)
    (case rx_NoName => decide +kernel)
    (case sx_NoName => k_is)
    (case ex_NoName => k_is)
    (case tx_NoName => k_is)
    (case cx_NoName => k_is)
    (case ti_NoName__init => k_is)
    (case lx_NoText => k_is)
    (case rx_NoText => decide +kernel)
    (case sx_NoText => k_is)
    (case ex_NoText => k_is)
    (case tx_NoText => k_is)
    (case cx_NoText => k_is)
    (case ti_NoText__init => k_is)
    (case ix_NoRow => k_is)
    (case sb_NoRow_NoRow => k_is)
    (case sg => k_is)
    (case st => k_is)
    (case eg_PactError => k_is)
    (case eh_PactError => k_is)
    (case ex_PactError => k_is)
    (case ch_PactError => k_is)
    (case in_PactError => k_is)
    (case io_PactError => k_is)
    (case sb_NoRow_PactError => k_is)
    (case eg_NoText => k_is)
    (case eh_NoText => k_is)
    (case ch_NoText => k_is)
    (case in_NoText => k_is)
    (case io_NoText => k_is)
    (case sb_NoRow_NoText => k_is)
    (case eg_NoName => k_is)
    (case eh_NoName => k_is)
    (case ch_NoName => k_is)
    (case in_NoName => k_is)
    (case io_NoName => k_is)
    (case sb_NoRow_NoName => k_is)
    (case eg_CalmRoom => k_is)
    (case eh_CalmRoom => k_is)
    (case ch_CalmRoom => k_is)
    (case in_CalmRoom => k_is)
    (case io_CalmRoom => k_is)
    (case sb_NoRow_CalmRoom => k_is)
    (case eg_NoDeed => k_is)
    (case eh_NoDeed => k_is)
    (case ch_NoDeed => k_is)
    (case in_NoDeed => k_is)
    (case io_NoDeed => k_is)
    (case sb_NoRow_NoDeed => k_is)
    (case eg_TooMany => k_is)
    (case eh_TooMany => k_is)
    (case ch_TooMany => k_is)
    (case in_TooMany => k_is)
    (case io_TooMany => k_is)
    (case sb_NoRow_TooMany => k_is)
    (case eg_Breach => k_is)
    (case eh_Breach => k_is)
    (case ch_Breach => k_is)
    (case in_Breach => k_is)
    (case io_Breach => k_is)
    (case sb_NoRow_Breach => k_is)
    (case eg_NoStand => k_is)
    (case eh_NoStand => k_is)
    (case ch_NoStand => k_is)
    (case in_NoStand => k_is)
    (case io_NoStand => k_is)
    (case sb_NoRow_NoStand => k_is)
    (case eg_NoPair => k_is)
    (case eh_NoPair => k_is)
    (case ch_NoPair => k_is)
    (case in_NoPair => k_is)
    (case io_NoPair => k_is)
    (case sb_NoRow_NoPair => k_is)
    (case eg_NoChange => k_is)
    (case eh_NoChange => k_is)
    (case ch_NoChange => k_is)
    (case in_NoChange => k_is)
    (case io_NoChange => k_is)
    (case sb_NoRow_NoChange => k_is)
    (case eg_NoRow => k_is)
    (case eh_NoRow => k_is)
    (case ch_NoRow => k_is)
    (case in_NoRow => k_is)
    (case io_NoRow => k_is)
    (case ix_NoChange => k_is)
    (case iy_NoChange => k_is)
    (case sb_NoChange_NoChange => k_is)
    (case sb_NoChange_PactError => k_is)
    (case sb_NoChange_NoText => k_is)
    (case sb_NoChange_NoName => k_is)
    (case sb_NoChange_CalmRoom => k_is)
    (case sb_NoChange_NoDeed => k_is)
    (case sb_NoChange_TooMany => k_is)
    (case sb_NoChange_Breach => k_is)
    (case sb_NoChange_NoStand => k_is)
    (case sb_NoChange_NoPair => k_is)
    (case sb_NoChange_NoRow => k_is)
    (case ix_NoPair => k_is)
    (case sb_NoPair_NoPair => k_is)
    (case sb_NoPair_PactError => k_is)
    (case sb_NoPair_NoText => k_is)
    (case sb_NoPair_NoName => k_is)
    (case sb_NoPair_CalmRoom => k_is)
    (case sb_NoPair_NoDeed => k_is)
    (case sb_NoPair_TooMany => k_is)
    (case sb_NoPair_Breach => k_is)
    (case sb_NoPair_NoStand => k_is)
    (case sb_NoPair_NoChange => k_is)
    (case sb_NoPair_NoRow => k_is)
    (case ix_NoStand => k_is)
    (case sb_NoStand_NoStand => k_is)
    (case sb_NoStand_PactError => k_is)
    (case sb_NoStand_NoText => k_is)
    (case sb_NoStand_NoName => k_is)
    (case sb_NoStand_CalmRoom => k_is)
    (case sb_NoStand_NoDeed => k_is)
    (case sb_NoStand_TooMany => k_is)
    (case sb_NoStand_Breach => k_is)
    (case sb_NoStand_NoPair => k_is)
    (case sb_NoStand_NoChange => k_is)
    (case sb_NoStand_NoRow => k_is)
    (case ix_Breach => k_is)
    (case iy_Breach => k_is)
    (case sb_Breach_Breach => k_is)
    (case sb_Breach_PactError => k_is)
    (case sb_Breach_NoText => k_is)
    (case sb_Breach_NoName => k_is)
    (case sb_Breach_CalmRoom => k_is)
    (case sb_Breach_NoDeed => k_is)
    (case sb_Breach_TooMany => k_is)
    (case sb_Breach_NoStand => k_is)
    (case sb_Breach_NoPair => k_is)
    (case sb_Breach_NoChange => k_is)
    (case sb_Breach_NoRow => k_is)
    (case ix_TooMany => k_is)
    (case sb_TooMany_TooMany => k_is)
    (case sb_TooMany_PactError => k_is)
    (case sb_TooMany_NoText => k_is)
    (case sb_TooMany_NoName => k_is)
    (case sb_TooMany_CalmRoom => k_is)
    (case sb_TooMany_NoDeed => k_is)
    (case sb_TooMany_Breach => k_is)
    (case sb_TooMany_NoStand => k_is)
    (case sb_TooMany_NoPair => k_is)
    (case sb_TooMany_NoChange => k_is)
    (case sb_TooMany_NoRow => k_is)
    (case ix_NoDeed => k_is)
    (case iy_NoDeed => k_is)
    (case sb_NoDeed_NoDeed => k_is)
    (case sb_NoDeed_PactError => k_is)
    (case sb_NoDeed_NoText => k_is)
    (case sb_NoDeed_NoName => k_is)
    (case sb_NoDeed_CalmRoom => k_is)
    (case sb_NoDeed_TooMany => k_is)
    (case sb_NoDeed_Breach => k_is)
    (case sb_NoDeed_NoStand => k_is)
    (case sb_NoDeed_NoPair => k_is)
    (case sb_NoDeed_NoChange => k_is)
    (case sb_NoDeed_NoRow => k_is)
    (case ix_CalmRoom => k_is)
    (case iy_CalmRoom => k_is)
    (case sb_CalmRoom_CalmRoom => k_is)
    (case sb_CalmRoom_PactError => k_is)
    (case sb_CalmRoom_NoText => k_is)
    (case sb_CalmRoom_NoName => k_is)
    (case sb_CalmRoom_NoDeed => k_is)
    (case sb_CalmRoom_TooMany => k_is)
    (case sb_CalmRoom_Breach => k_is)
    (case sb_CalmRoom_NoStand => k_is)
    (case sb_CalmRoom_NoPair => k_is)
    (case sb_CalmRoom_NoChange => k_is)
    (case sb_CalmRoom_NoRow => k_is)
    (case ix_NoName => k_is)
    (case iy_NoName => k_is)
    (case sb_NoName_NoName => k_is)
    (case sb_NoName_PactError => k_is)
    (case sb_NoName_NoText => k_is)
    (case sb_NoName_CalmRoom => k_is)
    (case sb_NoName_NoDeed => k_is)
    (case sb_NoName_TooMany => k_is)
    (case sb_NoName_Breach => k_is)
    (case sb_NoName_NoStand => k_is)
    (case sb_NoName_NoPair => k_is)
    (case sb_NoName_NoChange => k_is)
    (case sb_NoName_NoRow => k_is)
    (case ix_NoText => k_is)
    (case iy_NoText => k_is)
    (case sb_NoText_NoText => k_is)
    (case sb_NoText_PactError => k_is)
    (case sb_NoText_NoName => k_is)
    (case sb_NoText_CalmRoom => k_is)
    (case sb_NoText_NoDeed => k_is)
    (case sb_NoText_TooMany => k_is)
    (case sb_NoText_Breach => k_is)
    (case sb_NoText_NoStand => k_is)
    (case sb_NoText_NoPair => k_is)
    (case sb_NoText_NoChange => k_is)
    (case sb_NoText_NoRow => k_is)
    (case vb_ValueError_PactError => k_is)
    (case vb_ValueError_NoText => k_is)
    (case vb_ValueError_NoName => k_is)
    (case vb_ValueError_CalmRoom => k_is)
    (case vb_ValueError_NoDeed => k_is)
    (case vb_ValueError_TooMany => k_is)
    (case vb_ValueError_Breach => k_is)
    (case vb_ValueError_NoStand => k_is)
    (case vb_ValueError_NoPair => k_is)
    (case vb_ValueError_NoChange => k_is)
    (case vb_ValueError_NoRow => k_is)
    (case iy_PactError => k_is)
    (case sb_PactError_NoRow => k_is)
    (case sb_PactError_NoChange => k_is)
    (case sb_PactError_NoPair => k_is)
    (case sb_PactError_NoStand => k_is)
    (case sb_PactError_Breach => k_is)
    (case sb_PactError_TooMany => k_is)
    (case sb_PactError_NoDeed => k_is)
    (case sb_PactError_CalmRoom => k_is)
    (case sb_PactError_NoName => k_is)
    (case sb_PactError_NoText => k_is)
