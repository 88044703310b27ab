import PyProof.Rows.All
import Wide.All
import OpenK.AllK
import Wide.FinOn
import HandS.ForMost
import HandS.ForExc
import HandS.IsInst
import HandS.Zip
import HandS.Wide
import HandS.Small
import HandS.Style
import HandS.Deep
import HandS.ClsMeth
import HandS.TupMul
import HandS.WideMore
import HandS.WideBits
import HandS.StrMore
import HandS.Exc
import HandS.ExcIs
import HandS.ExcField
import KE.KExcIs
import HandS.ExcOwn
import HandS.Head0
import HandS.Head1
import HandS.Head2
import HandS.Dict
import HandS.More
import HandS.DictComp
import HandS.Finally
import HandS.ExcInit
import HandS.Defaults
import HandS.TupAny
import HandS.SortKw
import KE.KDictPairs
import HandS.Nested
import HandS.EndTab
import PySem.Challenge.RW_pactway_k41_watchers
set_option Elab.async false
set_option linter.all false
set_option maxRecDepth 100000
set_option maxHeartbeats 4000000
namespace HeadK
open PySem PySem.W PySem.Calls PyProof.Rows L2
def tp (i : Nat) : Stmt := PySem.Challenge.pw_pactway_k41_watchers.main.body.getD i (.Pass ⟨0, 0, 0, 0⟩)
abbrev R : OpenRow := OpenLaw.row PySem.Challenge.rw_pactway_k41_watchers
abbrev q : Program := view R.prog [1, 3, 4, 5, 6, 7, 8, 9, 10, 11, 12, 13]
abbrev lo : List Str := []
def K0 (P : Params) : Frag :=
  (nat_lit 2, { cls := Value.none, data := Data.dict #[] }) ::
  (nat_lit 3, { cls := Value.type "dict", data := Data.dict #[{ hash := PyData.keyHash P (Str.ofString "__name__"), key := Value.str (Str.ofString "__name__") 165, val := Value.str (Str.ofString "law_pactway_k41_watchers") 202 }, { hash := PyData.keyHash P (Str.ofString "__doc__"), key := Value.str (Str.ofString "__doc__") 166, val := Value.none }, { hash := PyData.keyHash P (Str.ofString "__package__"), key := Value.str (Str.ofString "__package__") 167, val := Value.none }, { hash := PyData.keyHash P (Str.ofString "__loader__"), key := Value.str (Str.ofString "__loader__") 168, val := Value.builtin "__main__.__loader__#opaque" }, { hash := PyData.keyHash P (Str.ofString "__spec__"), key := Value.str (Str.ofString "__spec__") 169, val := Value.none }, { hash := PyData.keyHash P (Str.ofString "__annotations__"), key := Value.str (Str.ofString "__annotations__") 170, val := Value.ref 6 }, { hash := PyData.keyHash P (Str.ofString "__builtins__"), key := Value.str (Str.ofString "__builtins__") 171, val := Value.ref 4 }, { hash := PyData.keyHash P (Str.ofString "__file__"), key := Value.str (Str.ofString "__file__") 173, val := Value.str (Str.ofString "/claim/cut.py") 172 }, { hash := PyData.keyHash P (Str.ofString "__cached__"), key := Value.str (Str.ofString "__cached__") 174, val := Value.none }, { hash := PyData.keyHash P (Str.ofString "watcher"), key := Value.str (Str.ofString "watcher") 201, val := Value.ref 21 }, { hash := PyData.keyHash P (Str.ofString "_law_cell"), key := Value.str (Str.ofString "_law_cell") 212, val := Value.ref 28 }, { hash := PyData.keyHash P (Str.ofString "_law_stream"), key := Value.str (Str.ofString "_law_stream") 223, val := Value.ref 35 }, { hash := PyData.keyHash P (Str.ofString "_law_names"), key := Value.str (Str.ofString "_law_names") 229, val := Value.ref 40 }, { hash := PyData.keyHash P (Str.ofString "_law_whole"), key := Value.str (Str.ofString "_law_whole") 236, val := Value.ref 47 }, { hash := PyData.keyHash P (Str.ofString "_law_duty"), key := Value.str (Str.ofString "_law_duty") 242, val := Value.ref 52 }, { hash := PyData.keyHash P (Str.ofString "_law_count"), key := Value.str (Str.ofString "_law_count") 253, val := Value.ref 59 }, { hash := PyData.keyHash P (Str.ofString "_law_opens"), key := Value.str (Str.ofString "_law_opens") 263, val := Value.ref 66 }, { hash := PyData.keyHash P (Str.ofString "_law_turns"), key := Value.str (Str.ofString "_law_turns") 281, val := Value.ref 73 }, { hash := PyData.keyHash P (Str.ofString "_law_moves"), key := Value.str (Str.ofString "_law_moves") 300, val := Value.ref 80 }, { hash := PyData.keyHash P (Str.ofString "_law_asked"), key := Value.str (Str.ofString "_law_asked") 312, val := Value.ref 87 }, { hash := PyData.keyHash P (Str.ofString "law"), key := Value.str (Str.ofString "law") 326, val := Value.ref 94 }] 21 }) ::
  (nat_lit 6, { cls := Value.type "dict", data := Data.dict #[] }) ::
  (nat_lit 15, { cls := Value.type "tuple", data := Data.seq #[] }) ::
  (nat_lit 17, { cls := Value.type "tuple", data := Data.seq #[Value.str (Str.ofString "duty") 192, Value.str (Str.ofString "count") 193, Value.str (Str.ofString "opens") 194] }) ::
  (nat_lit 18, { cls := Value.type "tuple", data := Data.seq #[Value.str (Str.ofString "bearer") 195, Value.str (Str.ofString "due") 196, Value.str (Str.ofString "many") 197, Value.str (Str.ofString "rooms") 198] }) ::
  (nat_lit 20, { cls := Value.type "code", data := Data.fields #[Value.str (Str.ofString "watcher") 189, Value.str (Str.ofString "watcher") 190, Value.str (Str.ofString "/claim/cut.py") 191, Value.int 2 0, Value.int 1 0, Value.int 0 0, Value.int 0 0, Value.int 3 0, Value.ref 15, Value.bool Bool.true, Value.int 181 0, Value.ref 16, Value.none, Value.ref 17, Value.ref 18, Value.ref 19, Value.int 199 0, Value.int 2 0, Value.str (Str.ofString "/claim/cut.py") 200] }) ::
  (nat_lit 21, { cls := Value.type "function", data := Data.func { name := Str.ofString "watcher", qualname := Str.ofString "watcher", params := defArgs (tp 1), body := FuncBody.stmts (defBody (tp 1)), scope := defScope (tp 1), globals := 3, closure := [], defaults := Value.none, kwdefaults := Value.none, pyModule := Value.str (Str.ofString "pactway.plains") 187, code := Value.ref 20 } }) ::
  (nat_lit 22, { cls := Value.type "tuple", data := Data.seq #[] }) ::
  (nat_lit 24, { cls := Value.type "tuple", data := Data.seq #[Value.str (Str.ofString "_law_script") 207, Value.str (Str.ofString "_law_k") 208, Value.str (Str.ofString "_law_number") 209] }) ::
  (nat_lit 25, { cls := Value.type "tuple", data := Data.seq #[] }) ::
  (nat_lit 27, { cls := Value.type "code", data := Data.fields #[Value.str (Str.ofString "_law_cell") 204, Value.str (Str.ofString "_law_cell") 205, Value.str (Str.ofString "/claim/cut.py") 206, Value.int 21 0, Value.int 2 0, Value.int 0 0, Value.int 0 0, Value.int 3 0, Value.ref 22, Value.bool Bool.true, Value.int 181 0, Value.ref 23, Value.none, Value.ref 24, Value.ref 25, Value.ref 26, Value.int 210 0, Value.int 21 0, Value.str (Str.ofString "/claim/cut.py") 211] }) ::
  (nat_lit 28, { cls := Value.type "function", data := Data.func { name := Str.ofString "_law_cell", qualname := Str.ofString "_law_cell", params := defArgs (tp 3), body := FuncBody.stmts (defBody (tp 3)), scope := defScope (tp 3), globals := 3, closure := [], defaults := Value.none, kwdefaults := Value.none, pyModule := Value.str (Str.ofString "law_pactway_k41_watchers") 202, code := Value.ref 27 } }) ::
  (nat_lit 29, { cls := Value.type "tuple", data := Data.seq #[] }) ::
  (nat_lit 31, { cls := Value.type "tuple", data := Data.seq #[Value.str (Str.ofString "_law_cell_here") 216, Value.str (Str.ofString "_law_many") 217, Value.str (Str.ofString "_law_found") 218, Value.str (Str.ofString "_law_number") 219, Value.str (Str.ofString "_law_k") 220] }) ::
  (nat_lit 32, { cls := Value.type "tuple", data := Data.seq #[] }) ::
  (nat_lit 34, { cls := Value.type "code", data := Data.fields #[Value.str (Str.ofString "_law_stream") 213, Value.str (Str.ofString "_law_stream") 214, Value.str (Str.ofString "/claim/cut.py") 215, Value.int 28 0, Value.int 2 0, Value.int 0 0, Value.int 0 0, Value.int 3 0, Value.ref 29, Value.bool Bool.true, Value.int 181 0, Value.ref 30, Value.none, Value.ref 31, Value.ref 32, Value.ref 33, Value.int 221 0, Value.int 28 0, Value.str (Str.ofString "/claim/cut.py") 222] }) ::
  (nat_lit 35, { cls := Value.type "function", data := Data.func { name := Str.ofString "_law_stream", qualname := Str.ofString "_law_stream", params := defArgs (tp 4), body := FuncBody.stmts (defBody (tp 4)), scope := defScope (tp 4), globals := 3, closure := [], defaults := Value.none, kwdefaults := Value.none, pyModule := Value.str (Str.ofString "law_pactway_k41_watchers") 202, code := Value.ref 34 } }) ::
  (nat_lit 36, { cls := Value.type "tuple", data := Data.seq #[] }) ::
  (nat_lit 39, { cls := Value.type "code", data := Data.fields #[Value.str (Str.ofString "_law_names") 224, Value.str (Str.ofString "_law_names") 225, Value.str (Str.ofString "/claim/cut.py") 226, Value.int 35 0, Value.int 2 0, Value.int 0 0, Value.int 0 0, Value.int 3 0, Value.ref 36, Value.bool Bool.true, Value.int 181 0, Value.ref 37, Value.none, Value.none, Value.none, Value.ref 38, Value.int 227 0, Value.int 35 0, Value.str (Str.ofString "/claim/cut.py") 228] }) ::
  (nat_lit 40, { cls := Value.type "function", data := Data.func { name := Str.ofString "_law_names", qualname := Str.ofString "_law_names", params := defArgs (tp 5), body := FuncBody.stmts (defBody (tp 5)), scope := defScope (tp 5), globals := 3, closure := [], defaults := Value.none, kwdefaults := Value.none, pyModule := Value.str (Str.ofString "law_pactway_k41_watchers") 202, code := Value.ref 39 } }) ::
  (nat_lit 41, { cls := Value.type "tuple", data := Data.seq #[] }) ::
  (nat_lit 43, { cls := Value.type "tuple", data := Data.seq #[Value.str (Str.ofString "_law_found") 233] }) ::
  (nat_lit 44, { cls := Value.type "tuple", data := Data.seq #[] }) ::
  (nat_lit 46, { cls := Value.type "code", data := Data.fields #[Value.str (Str.ofString "_law_whole") 230, Value.str (Str.ofString "_law_whole") 231, Value.str (Str.ofString "/claim/cut.py") 232, Value.int 48 0, Value.int 1 0, Value.int 0 0, Value.int 0 0, Value.int 3 0, Value.ref 41, Value.bool Bool.true, Value.int 181 0, Value.ref 42, Value.none, Value.ref 43, Value.ref 44, Value.ref 45, Value.int 234 0, Value.int 48 0, Value.str (Str.ofString "/claim/cut.py") 235] }) ::
  (nat_lit 47, { cls := Value.type "function", data := Data.func { name := Str.ofString "_law_whole", qualname := Str.ofString "_law_whole", params := defArgs (tp 6), body := FuncBody.stmts (defBody (tp 6)), scope := defScope (tp 6), globals := 3, closure := [], defaults := Value.none, kwdefaults := Value.none, pyModule := Value.str (Str.ofString "law_pactway_k41_watchers") 202, code := Value.ref 46 } }) ::
  (nat_lit 48, { cls := Value.type "tuple", data := Data.seq #[] }) ::
  (nat_lit 51, { cls := Value.type "code", data := Data.fields #[Value.str (Str.ofString "_law_duty") 237, Value.str (Str.ofString "_law_duty") 238, Value.str (Str.ofString "/claim/cut.py") 239, Value.int 50 0, Value.int 2 0, Value.int 0 0, Value.int 0 0, Value.int 3 0, Value.ref 48, Value.bool Bool.true, Value.int 181 0, Value.ref 49, Value.none, Value.none, Value.none, Value.ref 50, Value.int 240 0, Value.int 50 0, Value.str (Str.ofString "/claim/cut.py") 241] }) ::
  (nat_lit 52, { cls := Value.type "function", data := Data.func { name := Str.ofString "_law_duty", qualname := Str.ofString "_law_duty", params := defArgs (tp 7), body := FuncBody.stmts (defBody (tp 7)), scope := defScope (tp 7), globals := 3, closure := [], defaults := Value.none, kwdefaults := Value.none, pyModule := Value.str (Str.ofString "law_pactway_k41_watchers") 202, code := Value.ref 51 } }) ::
  (nat_lit 53, { cls := Value.type "tuple", data := Data.seq #[] }) ::
  (nat_lit 55, { cls := Value.type "tuple", data := Data.seq #[Value.str (Str.ofString "_law_duty_here") 246, Value.str (Str.ofString "_law_left") 247, Value.str (Str.ofString "_law_who") 248, Value.str (Str.ofString "_law_act") 249, Value.str (Str.ofString "_law_free") 250] }) ::
  (nat_lit 56, { cls := Value.type "tuple", data := Data.seq #[] }) ::
  (nat_lit 58, { cls := Value.type "code", data := Data.fields #[Value.str (Str.ofString "_law_count") 243, Value.str (Str.ofString "_law_count") 244, Value.str (Str.ofString "/claim/cut.py") 245, Value.int 57 0, Value.int 5 0, Value.int 0 0, Value.int 0 0, Value.int 3 0, Value.ref 53, Value.bool Bool.true, Value.int 181 0, Value.ref 54, Value.none, Value.ref 55, Value.ref 56, Value.ref 57, Value.int 251 0, Value.int 57 0, Value.str (Str.ofString "/claim/cut.py") 252] }) ::
  (nat_lit 59, { cls := Value.type "function", data := Data.func { name := Str.ofString "_law_count", qualname := Str.ofString "_law_count", params := defArgs (tp 8), body := FuncBody.stmts (defBody (tp 8)), scope := defScope (tp 8), globals := 3, closure := [], defaults := Value.none, kwdefaults := Value.none, pyModule := Value.str (Str.ofString "law_pactway_k41_watchers") 202, code := Value.ref 58 } }) ::
  (nat_lit 60, { cls := Value.type "tuple", data := Data.seq #[] }) ::
  (nat_lit 62, { cls := Value.type "tuple", data := Data.seq #[Value.str (Str.ofString "_law_duty_here") 257, Value.str (Str.ofString "_law_left") 258, Value.str (Str.ofString "_law_was") 259, Value.str (Str.ofString "_law_now") 260] }) ::
  (nat_lit 63, { cls := Value.type "tuple", data := Data.seq #[] }) ::
  (nat_lit 65, { cls := Value.type "code", data := Data.fields #[Value.str (Str.ofString "_law_opens") 254, Value.str (Str.ofString "_law_opens") 255, Value.str (Str.ofString "/claim/cut.py") 256, Value.int 65 0, Value.int 4 0, Value.int 0 0, Value.int 0 0, Value.int 3 0, Value.ref 60, Value.bool Bool.true, Value.int 181 0, Value.ref 61, Value.none, Value.ref 62, Value.ref 63, Value.ref 64, Value.int 261 0, Value.int 65 0, Value.str (Str.ofString "/claim/cut.py") 262] }) ::
  (nat_lit 66, { cls := Value.type "function", data := Data.func { name := Str.ofString "_law_opens", qualname := Str.ofString "_law_opens", params := defArgs (tp 9), body := FuncBody.stmts (defBody (tp 9)), scope := defScope (tp 9), globals := 3, closure := [], defaults := Value.none, kwdefaults := Value.none, pyModule := Value.str (Str.ofString "law_pactway_k41_watchers") 202, code := Value.ref 65 } }) ::
  (nat_lit 67, { cls := Value.type "tuple", data := Data.seq #[] }) ::
  (nat_lit 69, { cls := Value.type "tuple", data := Data.seq #[Value.str (Str.ofString "_law_count_here") 267, Value.str (Str.ofString "_law_duty_here") 268, Value.str (Str.ofString "_law_names_here") 269, Value.str (Str.ofString "_law_cell_here") 270, Value.str (Str.ofString "_law_xs") 271, Value.str (Str.ofString "_law_lefts") 272, Value.str (Str.ofString "_law_k") 273, Value.str (Str.ofString "_law_at") 274, Value.str (Str.ofString "_law_left") 275, Value.str (Str.ofString "_law_who") 276, Value.str (Str.ofString "_law_act") 277, Value.str (Str.ofString "_law_found") 278] }) ::
  (nat_lit 70, { cls := Value.type "tuple", data := Data.seq #[] }) ::
  (nat_lit 72, { cls := Value.type "code", data := Data.fields #[Value.str (Str.ofString "_law_turns") 264, Value.str (Str.ofString "_law_turns") 265, Value.str (Str.ofString "/claim/cut.py") 266, Value.int 69 0, Value.int 4 0, Value.int 0 0, Value.int 0 0, Value.int 3 0, Value.ref 67, Value.bool Bool.true, Value.int 181 0, Value.ref 68, Value.none, Value.ref 69, Value.ref 70, Value.ref 71, Value.int 279 0, Value.int 69 0, Value.str (Str.ofString "/claim/cut.py") 280] }) ::
  (nat_lit 73, { cls := Value.type "function", data := Data.func { name := Str.ofString "_law_turns", qualname := Str.ofString "_law_turns", params := defArgs (tp 10), body := FuncBody.stmts (defBody (tp 10)), scope := defScope (tp 10), globals := 3, closure := [], defaults := Value.none, kwdefaults := Value.none, pyModule := Value.str (Str.ofString "law_pactway_k41_watchers") 202, code := Value.ref 72 } }) ::
  (nat_lit 74, { cls := Value.type "tuple", data := Data.seq #[] }) ::
  (nat_lit 76, { cls := Value.type "tuple", data := Data.seq #[Value.str (Str.ofString "_law_opens_here") 285, Value.str (Str.ofString "_law_duty_here") 286, Value.str (Str.ofString "_law_names_here") 287, Value.str (Str.ofString "_law_cell_here") 288, Value.str (Str.ofString "_law_xs") 289, Value.str (Str.ofString "_law_lefts") 290, Value.str (Str.ofString "_law_rooms") 291, Value.str (Str.ofString "_law_k") 292, Value.str (Str.ofString "_law_at") 293, Value.str (Str.ofString "_law_left") 294, Value.str (Str.ofString "_law_was") 295, Value.str (Str.ofString "_law_now") 296, Value.str (Str.ofString "_law_found") 297] }) ::
  (nat_lit 77, { cls := Value.type "tuple", data := Data.seq #[] }) ::
  (nat_lit 79, { cls := Value.type "code", data := Data.fields #[Value.str (Str.ofString "_law_moves") 282, Value.str (Str.ofString "_law_moves") 283, Value.str (Str.ofString "/claim/cut.py") 284, Value.int 83 0, Value.int 4 0, Value.int 0 0, Value.int 0 0, Value.int 3 0, Value.ref 74, Value.bool Bool.true, Value.int 181 0, Value.ref 75, Value.none, Value.ref 76, Value.ref 77, Value.ref 78, Value.int 298 0, Value.int 83 0, Value.str (Str.ofString "/claim/cut.py") 299] }) ::
  (nat_lit 80, { cls := Value.type "function", data := Data.func { name := Str.ofString "_law_moves", qualname := Str.ofString "_law_moves", params := defArgs (tp 11), body := FuncBody.stmts (defBody (tp 11)), scope := defScope (tp 11), globals := 3, closure := [], defaults := Value.none, kwdefaults := Value.none, pyModule := Value.str (Str.ofString "law_pactway_k41_watchers") 202, code := Value.ref 79 } }) ::
  (nat_lit 81, { cls := Value.type "tuple", data := Data.seq #[] }) ::
  (nat_lit 83, { cls := Value.type "tuple", data := Data.seq #[Value.str (Str.ofString "_law_made") 304, Value.str (Str.ofString "_law_duty_here") 305, Value.str (Str.ofString "_law_names_here") 306, Value.str (Str.ofString "_law_cell_here") 307, Value.str (Str.ofString "_law_count_here") 308, Value.str (Str.ofString "_law_opens_here") 309] }) ::
  (nat_lit 84, { cls := Value.type "tuple", data := Data.seq #[] }) ::
  (nat_lit 86, { cls := Value.type "code", data := Data.fields #[Value.str (Str.ofString "_law_asked") 301, Value.str (Str.ofString "_law_asked") 302, Value.str (Str.ofString "/claim/cut.py") 303, Value.int 96 0, Value.int 4 0, Value.int 0 0, Value.int 0 0, Value.int 3 0, Value.ref 81, Value.bool Bool.true, Value.int 181 0, Value.ref 82, Value.none, Value.ref 83, Value.ref 84, Value.ref 85, Value.int 310 0, Value.int 96 0, Value.str (Str.ofString "/claim/cut.py") 311] }) ::
  (nat_lit 87, { cls := Value.type "function", data := Data.func { name := Str.ofString "_law_asked", qualname := Str.ofString "_law_asked", params := defArgs (tp 12), body := FuncBody.stmts (defBody (tp 12)), scope := defScope (tp 12), globals := 3, closure := [], defaults := Value.none, kwdefaults := Value.none, pyModule := Value.str (Str.ofString "law_pactway_k41_watchers") 202, code := Value.ref 86 } }) ::
  (nat_lit 88, { cls := Value.type "tuple", data := Data.seq #[] }) ::
  (nat_lit 90, { cls := Value.type "tuple", data := Data.seq #[Value.str (Str.ofString "_law_script") 316, Value.str (Str.ofString "_law_held") 317, Value.str (Str.ofString "_law_k") 318, Value.str (Str.ofString "_law_cell_here") 319, Value.str (Str.ofString "_law_names_here") 320, Value.str (Str.ofString "_law_duty_here") 321, Value.str (Str.ofString "_law_rooms") 322, Value.str (Str.ofString "_law_made") 323] }) ::
  (nat_lit 91, { cls := Value.type "tuple", data := Data.seq #[] }) ::
  (nat_lit 93, { cls := Value.type "code", data := Data.fields #[Value.str (Str.ofString "law") 313, Value.str (Str.ofString "law") 314, Value.str (Str.ofString "/claim/cut.py") 315, Value.int 101 0, Value.int 1 0, Value.int 0 0, Value.int 0 0, Value.int 3 0, Value.ref 88, Value.bool Bool.true, Value.int 181 0, Value.ref 89, Value.none, Value.ref 90, Value.ref 91, Value.ref 92, Value.int 324 0, Value.int 101 0, Value.str (Str.ofString "/claim/cut.py") 325] }) ::
  (nat_lit 94, { cls := Value.type "function", data := Data.func { name := Str.ofString "law", qualname := Str.ofString "law", params := defArgs (tp 13), body := FuncBody.stmts (defBody (tp 13)), scope := defScope (tp 13), globals := 3, closure := [], defaults := Value.none, kwdefaults := Value.none, pyModule := Value.str (Str.ofString "law_pactway_k41_watchers") 202, code := Value.ref 93 } }) :: []
def K (P : Params) : Frag := (nat_lit 16, { cls := Value.none, data := Data.fields #[] }) :: K0 P
def as : List Addr := [16, 2, 3, 6, 15, 17, 18, 20, 21, 22, 24, 25, 27, 28, 29, 31, 32, 34, 35, 36, 39, 40, 41, 43, 44, 46, 47, 48, 51, 52, 53, 55, 56, 58, 59, 60, 62, 63, 65, 66, 67, 69, 70, 72, 73, 74, 76, 77, 79, 80, 81, 83, 84, 86, 87, 88, 90, 91, 93, 94]
theorem as_eq (P : Params) : as = (K P).map (·.1) := by kernel_rfl
def ob (s : SharedT) : List (Option Obj) := as.map (HandSHeadRun.getT s)
theorem ob_eq (s : SharedT) : ob s = (kHook K as as_eq).obs s.abs := by
  show as.map _ = as.map _
  exact List.map_congr_left fun a _ => HandSHeadRun.getT_eq s a
theorem two {α β γ : Type} {e : Option α} {f : α → β × γ} {z : β × γ} (h1 : e.map (fun s => (f s).1) = some z.1) (h2 : e.map (fun s => (f s).2) = some z.2) : e.map f = some z := by
  cases e with
  | none => cases h1
  | some s => exact congrArg some (Prod.ext (Option.some.inj h1) (Option.some.inj h2))
theorem three {α β γ δ : Type} {e : Option α} {f : α → β} {g : α → γ} {h : α → δ} {a : β} {b : γ} {c : δ} (h1 : e.map f = some a) (h2 : e.map g = some b) (h3 : e.map h = some c) : e.map (fun s => (f s, g s, h s)) = some (a, b, c) := by
  cases e with
  | none => cases h1
  | some s =>
    cases h1
    cases h2
    cases h3
    rfl
theorem run_a (w : World) (os : OsState) : (HandSHeadRun.endF (HandSHeadRun.stepQ (HandSHeadRun.denQ HandSHeadRun.tabQ) R.prog w) 627 R.prog w os).map (fun s => HandSHeadRun.looksF R.prog (boot_heap w.params) s.abs) = some true := by
  kernel_rfl
theorem run_b1 (w : World) (os : OsState) : (HandSHeadRun.endF (HandSHeadRun.stepQ (HandSHeadRun.denQ HandSHeadRun.tabQ) R.prog w) 627 R.prog w os).map (fun s => (HandSHeadRun.seenQ q lo (importedModules R.prog.main.body) (fun s => xlAt q [] s && recOk R.toRowW.records s) s.abs).1) = some (openGood q lo).1 := by
  kernel_rfl
theorem run_b2 (w : World) (os : OsState) : (HandSHeadRun.endF (HandSHeadRun.stepQ (HandSHeadRun.denQ HandSHeadRun.tabQ) R.prog w) 627 R.prog w os).map (fun s => (HandSHeadRun.seenQ q lo (importedModules R.prog.main.body) (fun s => xlAt q [] s && recOk R.toRowW.records s) s.abs).2) = some (openGood q lo).2 := by
  kernel_rfl
theorem run_c (w : World) (os : OsState) : (HandSHeadRun.endF (HandSHeadRun.stepQ (HandSHeadRun.denQ HandSHeadRun.tabQ) R.prog w) 627 R.prog w os).map (fun s => ob s) = some ((kHook K as as_eq).val w) := by
  kernel_rfl
theorem run (w : World) : HandSHeadRun.RunEq R q (kHook K as as_eq) ob 627 lo w := fun os => three (run_a w os) (two (run_b1 w os) (run_b2 w os)) (run_c w os)
end HeadK
namespace L2
open PySem PySem.Spec PyProof.Rows
def excT (a : Addr) (cls : Value) (d : Option Addr) : HO := .ext fun h => ∃ oe, h.get? a = some oe ∧ Zc cls d oe ∧ ∃ vs, oe.data = .fields vs
theorem excT_at {P : Program} {w : World} {H : Hp} {h : Heap} {a : Addr} {cls : Value} {d : Option Addr} (hok : HOk P w H h) (he : H a = some (excT a cls d)) : ∃ oe, h.get? a = some oe ∧ Zc cls d oe ∧ ∃ vs, oe.data = .fields vs := by
  have x : ObjOk P w H h a (.ext fun h => ∃ oe, h.get? a = some oe ∧ Zc cls d oe ∧ ∃ vs, oe.data = .fields vs) := hok a _ he
  exact x.1
def rIsX (K : PySem.W.Frag) : List V → Hp → VK → Prop := fun xs H Q => ∃ (a D : Addr) (d : Option Addr) (c : V) (cv : Value) (b : Bool), xs = [.ref a, c] ∧ ClsV c cv ∧ H a = some (excT a (.ref D) d) ∧ (d = none ∨ ∃ dx fs, d = some dx ∧ H dx = some (.xd fs)) ∧ ExcC K D ∧ PySem.W.kitOne K (.ref D) cv = some b ∧ Q (.bl b) H
theorem call_isX {X : Cx} : CallR X (.builtin "isinstance") (rIsX X.K) := by
  intro pins s σ H xs us Q I r h
  obtain ⟨a, D, d, c, cv, b, rfl, hcv, ha, hd, C, e, q⟩ := h
  obtain ⟨u1, u2, rfl, r1, r2⟩ := vals2 r
  have e2 := hcv.eq r2
  subst e2
  cases r1
  obtain ⟨oe, he, hz, vs, hv⟩ := excT_at I.hok ha
  have J : ∃ od, PySem.W.InstAt s.heap a oe D od := by
    rcases hd with hd | ⟨dx, fs, hd, hdx⟩
    · subst hd
      exact ⟨none, he, hz.1, by unfold PySem.W.notCls; rw [hv] <;> rfl, by rw [hz.2]; trivial⟩
    · subst hd
      have hx : ObjOk X.prog X.w H s.heap dx (.xd fs) := I.hok dx _ hdx
      obtain ⟨mA, hns, hr⟩ := hx
      obtain ⟨od, ho, hl⟩ := lookIn_ns hns
      exact ⟨some od, he, hz.1, by unfold PySem.W.notCls; rw [hv] <;> rfl, by rw [hz.2]; exact ho⟩
  obtain ⟨od, J⟩ := J
  have hcl : (PySem.W.clsIn X.K D).isSome = true := by
    obtain ⟨cd, hc, _⟩ := PySem.W.any_some C.hd
    rw [hc]; rfl
  exact PySem.W.kia_one (PySem.W.kitx_exc hcl C.hg C.hk C.hs C.ha C.hn C.ht C.hm) I.kIn J e (fun z => nomatch z) fun tk => ⟨.bl b, H, I.tok tk, rfl, q⟩
def tXfT (K : PySem.W.Frag) (n : Str) (te : TE) : TE := fun σ H Q => te σ H fun x H1 => ∃ (a C dd : Addr) (fs : List (Str × V)) (v : V), x = .ref a ∧ H1 a = some (excT a (.ref C) (some dd)) ∧ H1 dd = some (.xd fs) ∧ fs.lookup n = some v ∧ XfC K C ∧ PySem.W.findIn K (.ref C) n = some none ∧ Q v H1
end L2
namespace EV
open PySem L2
inductive D where
  | non | bl (b : Bool) | int (i : Int) | str (x : Str) | ref (a : Addr) | ty (n : String)
  | lst (xs : List D) | fls (xs : List D) | tup (xs : List D)
  | dct (ks : List Key) (vs : List D)
  | dtt (ks : List (List Key)) (vs : List D)
  | ins (c : Nat) (ks : List Nat) (vs : List D)
  | exc (c : Nat) (ks : List Nat) (vs : List D)
  | clo (k : Nat) (vs : List D)
inductive W where
  | d (x : D) | loc (n : Nat)
inductive OO where
  | lst (xs : List W)
  | dct (ks : List Key) (vs : List W)
  | dtt (ks : List (List Key)) (vs : List W)
  | ins (c : Nat) (ks : List Nat) (vs : List W)
  | tup (xs : List W)
  | tab
abbrev Store := List (Option OO)
structure SS where
  env : List (Option W)
  st : Store
inductive Out (α : Type) where
  | ok (a : α) | ex (c : Nat) (ks : List Nat) (vs : List D)
abbrev EM (α : Type) := SS → Option (Out α × SS)
inductive Fl where
  | nx | ret (w : W) | brk | cnt
structure NFS where
  st : Stmt
  name : Str
  qual : Str
  fr : List Str
structure Kx where
  K : PySem.W.Frag
  ct : List Addr
  fn : List Str
  nd : fn.Nodup
  nf : List NFS
  tp : Addr
  tn : Nat → Nat → Str
def Kx.nm (c : Kx) (i : Nat) : Str := c.fn.getD i ""
abbrev Rho := List (Addr × Addr)
def CellO (a : Addr) (u : Value) : HO := .ext fun h => h.IsCell a (some u)
structure Capt (G : Hp) (cl : List (Str × Addr)) (fr : List Str) (vs : List V) : Prop where
  len : vs.length = fr.length
  all : ∀ y a, cl.lookup y = some a → ∃ u, G a = some (CellO a u)
  inj : ∀ x y a, cl.lookup x = some a → cl.lookup y = some a → x = y
  has : ∀ (i : Nat) (y : Str), fr[i]? = some y → ∃ a v u, cl.lookup y = some a ∧ vs[i]? = some v ∧ RelV v u ∧ G a = some (CellO a u)
def NFS.of (s : NFS) (cl : List (Str × Addr)) (a : Addr) : NdefX.NF := NdefX.NF.of s.st s.name s.qual cl a
def FOk (c : Kx) (C : Addr) (ks : List Nat) : Prop := Cls c.K C ∧ ∀ i ∈ ks, i < c.fn.length ∧ NoAttr c.K C (c.nm i)
mutual
inductive RepD (c : Kx) (G : Hp) : D → V → Prop
  | non : RepD c G .non .non
  | bl (b : Bool) : RepD c G (.bl b) (.bl b)
  | int (i : Int) : RepD c G (.int i) (.int i)
  | str (x : Str) : RepD c G (.str x) (.str x)
  | ref (a : Addr) : RepD c G (.ref a) (.ref a)
  | ty (n : String) : RepD c G (.ty n) (.ty n)
  | lst {a : Addr} {ds : List D} {vs : List V} : G a = some (.lst vs) → RepDs c G ds vs → RepD c G (.lst ds) (.ref a)
  | fls {a : Addr} {ds : List D} {vs : List V} : SqL c.K G a vs → RepDs c G ds vs → RepD c G (.fls ds) (.ref a)
  | tup {a : Addr} {ds : List D} {vs : List V} : SqT c.K G a vs → RepDs c G ds vs → RepD c G (.tup ds) (.ref a)
  | dct {a : Addr} {ks : List Key} {ds : List D} {vs : List V} : Rd G a (.dK (ks.zip vs)) → ks.length = ds.length → RepDs c G ds vs → RepD c G (.dct ks ds) (.ref a)
  | dtt {a : Addr} {ks : List (List Key)} {ds : List D} {vs : List V} : Rd G a (.dT (ks.zip vs)) → ks.length = ds.length → RepDs c G ds vs → RepD c G (.dtt ks ds) (.ref a)
  | ins {a dx C : Addr} {k : Nat} {ks : List Nat} {ds : List D} {vs : List V} : c.ct[k]? = some C → FOk c C ks → G a = some (.ins C dx ((ks.map c.nm).zip vs)) → G dx = some (.own a) → ks.length = ds.length → RepDs c G ds vs → RepD c G (.ins k ks ds) (.ref a)
  | exc0 {a C : Addr} {k : Nat} : c.ct[k]? = some C → G a = some (excT a (.ref C) none) → RepD c G (.exc k [] []) (.ref a)
  | excD {a C dx : Addr} {k : Nat} {ks : List Nat} {ds : List D} {vs : List V} : c.ct[k]? = some C → G a = some (excT a (.ref C) (some dx)) → G dx = some (.xd ((ks.map c.nm).zip vs)) → ks.length = ds.length → RepDs c G ds vs → RepD c G (.exc k ks ds) (.ref a)
  | clo {a a' : Addr} {cl : List (Str × Addr)} {s : NFS} {k : Nat} {ds : List D} {vs : List V} : c.nf[k]? = some s → G a = some (NdefX.FnO a (s.of cl a')) → G a' = some (LamX.CodeO a' s.qual) → Capt G cl s.fr vs → RepDs c G ds vs → RepD c G (.clo k ds) (.ref a)
inductive RepDs (c : Kx) (G : Hp) : List D → List V → Prop
  | nil : RepDs c G [] []
  | cons {d : D} {v : V} {ds : List D} {vs : List V} : RepD c G d v → RepDs c G ds vs → RepDs c G (d :: ds) (v :: vs)
end
section
variable {c : Kx} {G G' : Hp}
theorem rd_same {H H' : Hp} {a : Addr} {u : HO} (e : Same H H') (h : Rd H a u) : Rd H' a u := by
  rcases h with h | ⟨o, h⟩
  · exact .inl (e _ _ h)
  · exact .inr ⟨o, e _ _ h⟩
theorem SqT.same {K : PySem.W.Frag} {H H' : Hp} {a : Addr} {xs : List V} (e : Same H H') (h : SqT K H a xs) : SqT K H' a xs := by
  rcases h with (h | ⟨o, h⟩) | h
  · exact .inl (.inl (e _ _ h))
  · exact .inl (.inr ⟨o, e _ _ h⟩)
  · exact .inr h
theorem Capt.mono {cl : List (Str × Addr)} {fr : List Str} {vs : List V} (e : Same G G') (x : Capt G cl fr vs) : Capt G' cl fr vs :=
  ⟨x.len, fun y a h => let ⟨u, z⟩ := x.all y a h; ⟨u, e _ _ z⟩, x.inj, fun i y h => let ⟨a, v, u, h1, h2, h3, h4⟩ := x.has i y h; ⟨a, v, u, h1, h2, h3, e _ _ h4⟩⟩
mutual
theorem RepD.mono (e : Same G G') : ∀ {d : D} {v : V}, RepD c G d v → RepD c G' d v
  | _, _, .non => .non
  | _, _, .bl b => .bl b
  | _, _, .int i => .int i
  | _, _, .str x => .str x
  | _, _, .ref a => .ref a
  | _, _, .ty n => .ty n
  | _, _, .lst h r => .lst (e _ _ h) (RepDs.mono e r)
  | _, _, .fls h r => .fls (e.seq h) (RepDs.mono e r)
  | _, _, .tup h r => .tup (SqT.same e h) (RepDs.mono e r)
  | _, _, .dct h l r => .dct (rd_same e h) l (RepDs.mono e r)
  | _, _, .dtt h l r => .dtt (rd_same e h) l (RepDs.mono e r)
  | _, _, .ins hc f h h2 l r => .ins hc f (e _ _ h) (e _ _ h2) l (RepDs.mono e r)
  | _, _, .exc0 hc h => .exc0 hc (e _ _ h)
  | _, _, .excD hc h h2 l r => .excD hc (e _ _ h) (e _ _ h2) l (RepDs.mono e r)
  | _, _, .clo h h1 h2 h3 r => .clo h (e _ _ h1) (e _ _ h2) (h3.mono e) (RepDs.mono e r)
theorem RepDs.mono (e : Same G G') : ∀ {ds : List D} {vs : List V}, RepDs c G ds vs → RepDs c G' ds vs
  | _, _, .nil => .nil
  | _, _, .cons h r => .cons (RepD.mono e h) (RepDs.mono e r)
end
theorem RepDs.len : ∀ {ds : List D} {vs : List V}, RepDs c G ds vs → vs.length = ds.length
  | _, _, .nil => rfl
  | _, _, .cons _ r => congrArg (· + 1) (RepDs.len r)
theorem RepDs.get : ∀ {ds : List D} {vs : List V} {i : Nat} {d : D}, RepDs c G ds vs → ds[i]? = some d → ∃ v, vs[i]? = some v ∧ RepD c G d v
  | _, _, _, _, .nil, e => by simp at e
  | _, _, 0, _, .cons r _, e => by simp at e; subst e; exact ⟨_, rfl, r⟩
  | _, _, i + 1, d, .cons _ t, e => by
    obtain ⟨u, h1, h2⟩ := RepDs.get (i := i) (d := d) t (by simpa using e)
    exact ⟨u, by simpa using h1, h2⟩
theorem RepDs.app : ∀ {ds es : List D} {vs us : List V}, RepDs c G ds vs → RepDs c G es us → RepDs c G (ds ++ es) (vs ++ us)
  | _, _, _, _, .nil, s => s
  | _, _, _, _, .cons r t, s => .cons r (RepDs.app t s)
theorem RepDs.take : ∀ {ds : List D} {vs : List V} (n : Nat), RepDs c G ds vs → RepDs c G (ds.take n) (vs.take n)
  | _, _, 0, _ => .nil
  | _, _, _ + 1, .nil => .nil
  | _, _, n + 1, .cons r t => .cons r (RepDs.take n t)
theorem RepDs.drop : ∀ {ds : List D} {vs : List V} (n : Nat), RepDs c G ds vs → RepDs c G (ds.drop n) (vs.drop n)
  | _, _, 0, r => r
  | _, _, _ + 1, .nil => .nil
  | _, _, n + 1, .cons _ t => RepDs.drop n t
end
def RepW (c : Kx) (ρ : Rho) (G : Hp) : W → V → Prop
  | .d x, v => RepD c G x v
  | .loc n, v => ∃ p, ρ[n]? = some p ∧ v = .ref p.1
def RepWs (c : Kx) (ρ : Rho) (G : Hp) : List W → List V → Prop
  | [], vs => vs = []
  | w :: ws, vs => ∃ v r, vs = v :: r ∧ RepW c ρ G w v ∧ RepWs c ρ G ws r
section
variable {c : Kx} {ρ ρ' : Rho} {G G' : Hp}
theorem RepWs.len : ∀ {ws : List W} {vs : List V}, RepWs c ρ G ws vs → vs.length = ws.length
  | [], _, h => by subst h; rfl
  | _ :: _, _, ⟨_, _, e, _, t⟩ => by subst e; exact congrArg (· + 1) (RepWs.len t)
theorem RepWs.get : ∀ {ws : List W} {vs : List V} {i : Nat} {w : W}, RepWs c ρ G ws vs → ws[i]? = some w → ∃ v, vs[i]? = some v ∧ RepW c ρ G w v
  | [], _, _, _, _, e => by simp at e
  | _ :: _, _, 0, _, ⟨_, _, q, r, _⟩, e => by simp at e; subst e; subst q; exact ⟨_, rfl, r⟩
  | _ :: _, _, i + 1, w, ⟨_, _, q, _, t⟩, e => by
    subst q
    obtain ⟨u, h1, h2⟩ := RepWs.get (i := i) (w := w) t (by simpa using e)
    exact ⟨u, by simpa using h1, h2⟩
theorem RepWs.app : ∀ {ws xs : List W} {vs us : List V}, RepWs c ρ G ws vs → RepWs c ρ G xs us → RepWs c ρ G (ws ++ xs) (vs ++ us)
  | [], _, _, _, h, s => by subst h; exact s
  | _ :: _, _, _, _, ⟨_, _, q, r, t⟩, s => by subst q; exact ⟨_, _, rfl, r, RepWs.app t s⟩
theorem RepWs.take : ∀ {ws : List W} {vs : List V} (n : Nat), RepWs c ρ G ws vs → RepWs c ρ G (ws.take n) (vs.take n)
  | _, _, 0, _ => rfl
  | [], _, _ + 1, h => by subst h; rfl
  | _ :: _, _, n + 1, ⟨_, _, q, r, t⟩ => by subst q; exact ⟨_, _, rfl, r, RepWs.take n t⟩
theorem RepWs.drop : ∀ {ws : List W} {vs : List V} (n : Nat), RepWs c ρ G ws vs → RepWs c ρ G (ws.drop n) (vs.drop n)
  | _, _, 0, r => r
  | [], _, _ + 1, h => by subst h; rfl
  | _ :: _, _, n + 1, ⟨_, _, q, _, t⟩ => by subst q; exact RepWs.drop n t
theorem RepWs.set : ∀ {ws : List W} {vs : List V} (i : Nat) {w : W} {v : V}, RepWs c ρ G ws vs → RepW c ρ G w v → RepWs c ρ G (ws.set i w) (vs.set i v)
  | [], _, _, _, _, h, _ => by subst h; rfl
  | _ :: _, _, 0, _, _, ⟨_, _, q, _, t⟩, r => by subst q; exact ⟨_, _, rfl, r, t⟩
  | _ :: _, _, i + 1, _, _, ⟨_, _, q, r0, t⟩, r => by subst q; exact ⟨_, _, rfl, r0, RepWs.set i t r⟩
theorem RepWs.ofD : ∀ {ds : List D} {vs : List V}, RepDs c G ds vs → RepWs c ρ G (ds.map .d) vs
  | [], _, h => by cases h; rfl
  | _ :: _, _, h => by cases h with | cons r t => exact ⟨_, _, rfl, r, RepWs.ofD t⟩
theorem RepWs.toD : ∀ {ds : List D} {vs : List V}, RepWs c ρ G (ds.map .d) vs → RepDs c G ds vs
  | [], _, h => by have h : _ = [] := h; subst h; exact .nil
  | _ :: _, _, ⟨_, _, q, r, t⟩ => by subst q; exact .cons r (RepWs.toD t)
end
def OwnOk (c : Kx) (ρ : Rho) (G H : Hp) (p : Addr × Addr) : OO → Prop
  | .tab => p.2 = p.1 ∧ p.1 = c.tp ∧ ∃ ps : Array Value, H p.1 = some (.tbl ps) ∧ PySem.TriplesOk ps.toList ∧ ∀ (pos : Pos) (cv : Value), PySem.codeAmong pos ps.toList = some cv → ∃ a, cv = .ref a ∧ G a = some (LamX.CodeO a (c.tn pos.line pos.col))
  | .tup ws => p.2 = p.1 ∧ ∃ vs, H p.1 = some (.tup vs) ∧ RepWs c ρ G ws vs
  | .lst ws => p.2 = p.1 ∧ ∃ vs, H p.1 = some (.lst vs) ∧ RepWs c ρ G ws vs
  | .dct ks ws => p.2 = p.1 ∧ ks.length = ws.length ∧ ∃ vs, H p.1 = some (.dK (ks.zip vs)) ∧ RepWs c ρ G ws vs
  | .dtt ks ws => p.2 = p.1 ∧ ks.length = ws.length ∧ ∃ vs, H p.1 = some (.dT (ks.zip vs)) ∧ RepWs c ρ G ws vs
  | .ins k ks ws => ks.length = ws.length ∧ ∃ C vs, c.ct[k]? = some C ∧ FOk c C ks ∧ H p.1 = some (.ins C p.2 ((ks.map c.nm).zip vs)) ∧ H p.2 = some (.own p.1) ∧ RepWs c ρ G ws vs
def Rle (ρ ρ' : Rho) : Prop := ∀ (n : Nat) (p : Addr × Addr), ρ[n]? = some p → ρ'[n]? = some p
theorem Rle.refl (ρ : Rho) : Rle ρ ρ := fun _ _ h => h
theorem Rle.trans {ρ ρ1 ρ2 : Rho} (a : Rle ρ ρ1) (b : Rle ρ1 ρ2) : Rle ρ ρ2 := fun n p h => b n p (a n p h)
theorem Rle.len {ρ ρ' : Rho} (a : Rle ρ ρ') : ρ.length ≤ ρ'.length := by
  by_cases h : ρ.length = 0
  · omega
  · have h1 : ρ.length - 1 < ρ.length := by omega
    have := a (ρ.length - 1) _ (List.getElem?_eq_getElem h1)
    have := (List.getElem?_eq_some_iff.mp this).1
    omega
theorem RepW.mono {c : Kx} {ρ ρ' : Rho} {G G' : Hp} (l : Rle ρ ρ') (e : Same G G') : ∀ {w : W} {v : V}, RepW c ρ G w v → RepW c ρ' G' w v
  | .d _, _, h => RepD.mono e h
  | .loc _, _, ⟨p, h, q⟩ => ⟨p, l _ _ h, q⟩
theorem RepWs.mono {c : Kx} {ρ ρ' : Rho} {G G' : Hp} (l : Rle ρ ρ') (e : Same G G') : ∀ {ws : List W} {vs : List V}, RepWs c ρ G ws vs → RepWs c ρ' G' ws vs
  | [], _, h => h
  | _ :: _, _, ⟨v, r, q, h, t⟩ => ⟨v, r, q, RepW.mono l e h, RepWs.mono l e t⟩
theorem OwnOk.mono {c : Kx} {ρ ρ' : Rho} {G G' H H' : Hp} {p : Addr × Addr} (l : Rle ρ ρ') (e : Same G G') (h1 : ∀ o, H p.1 = some o → H' p.1 = some o) (h2 : ∀ o, H p.2 = some o → H' p.2 = some o) : ∀ {o : OO}, OwnOk c ρ G H p o → OwnOk c ρ' G' H' p o
  | .tab, ⟨q, q2, ps, a, t, k⟩ => ⟨q, q2, ps, h1 _ a, t, fun pos cv hc => let ⟨b, e1, e2⟩ := k pos cv hc; ⟨b, e1, e _ _ e2⟩⟩
  | .tup _, ⟨q, vs, a, r⟩ => ⟨q, vs, h1 _ a, RepWs.mono l e r⟩
  | .lst _, ⟨q, vs, a, r⟩ => ⟨q, vs, h1 _ a, RepWs.mono l e r⟩
  | .dct _ _, ⟨q, k, vs, a, r⟩ => ⟨q, k, vs, h1 _ a, RepWs.mono l e r⟩
  | .dtt _ _, ⟨q, k, vs, a, r⟩ => ⟨q, k, vs, h1 _ a, RepWs.mono l e r⟩
  | .ins _ _ _, ⟨k, C, vs, a, f, b, d, r⟩ => ⟨k, C, vs, a, f, h1 _ b, h2 _ d, RepWs.mono l e r⟩
theorem OwnOk.there {c : Kx} {ρ : Rho} {G H : Hp} {p : Addr × Addr} : ∀ {o : OO}, OwnOk c ρ G H p o → (∃ u, H p.1 = some u) ∧ ∃ u, H p.2 = some u
  | .tab, ⟨q, _, ps, a, _⟩ => ⟨⟨_, a⟩, ⟨_, by rw [q]; exact a⟩⟩
  | .tup _, ⟨q, vs, a, _⟩ => ⟨⟨_, a⟩, ⟨_, by rw [q]; exact a⟩⟩
  | .lst _, ⟨q, vs, a, _⟩ => ⟨⟨_, a⟩, ⟨_, by rw [q]; exact a⟩⟩
  | .dct _ _, ⟨q, k, vs, a, _⟩ => ⟨⟨_, a⟩, ⟨_, by rw [q]; exact a⟩⟩
  | .dtt _ _, ⟨q, k, vs, a, _⟩ => ⟨⟨_, a⟩, ⟨_, by rw [q]; exact a⟩⟩
  | .ins _ _ _, ⟨k, C, vs, a, f, b, d, _⟩ => ⟨⟨_, b⟩, ⟨_, d⟩⟩
structure RS (c : Kx) (ρ : Rho) (G H : Hp) (st : Store) : Prop where
  sub : Same G H
  len : ρ.length = st.length
  own : ∀ (n : Nat) (p : Addr × Addr) (o : OO), ρ[n]? = some p → st[n]? = some (some o) → G p.1 = none ∧ G p.2 = none ∧ OwnOk c ρ G H p o
  inj : ∀ (n m : Nat) (p q : Addr × Addr) (o o' : OO), ρ[n]? = some p → ρ[m]? = some q → st[n]? = some (some o) → st[m]? = some (some o') → p.1 = q.1 → n = m
def EnvOk (c : Kx) (ρ : Rho) (G : Hp) (env : List (Option W)) (σ : L2.St) : Prop := ∀ (i : Nat) (w : W), env[i]? = some (some w) → ∃ v, σ[i]? = some (some v) ∧ RepW c ρ G w v
structure R (c : Kx) (ρ : Rho) (G : Hp) (σ : L2.St) (H : Hp) (s : SS) : Prop where
  rs : RS c ρ G H s.st
  env : EnvOk c ρ G s.env σ
  len : s.env.length = σ.length
structure Stp (ρ : Rho) (G H : Hp) (st : Store) (ρ' : Rho) (G' H' : Hp) (st' : Store) : Prop where
  same : Same G G'
  rho : Rle ρ ρ'
  live : ∀ (n : Nat) (o' : OO), n < ρ.length → st'[n]? = some (some o') → ∃ o, st[n]? = some (some o)
  keep : ∀ a u, H a = some u → (∀ (n : Nat) (p : Addr × Addr) (o : OO), ρ[n]? = some p → st[n]? = some (some o) → p.1 ≠ a ∧ p.2 ≠ a) → H' a = some u
  there : ∀ a u, H a = some u → ∃ u', H' a = some u'
  fresh : ∀ a u, G a = none → G' a = some u → H a = none ∨ ∃ (n : Nat) (p : Addr × Addr) (o : OO), ρ[n]? = some p ∧ st[n]? = some (some o) ∧ (a = p.1 ∨ a = p.2)
  new : ∀ (n : Nat) (p : Addr × Addr), ρ.length ≤ n → ρ'[n]? = some p → H p.1 = none ∧ H p.2 = none
section
variable {c : Kx} {ρ ρ1 ρ2 : Rho} {G H G1 H1 G2 H2 : Hp} {st st1 st2 : Store}
theorem Stp.refl : Stp ρ G H st ρ G H st :=
  ⟨Same.refl _, Rle.refl _, fun _ o' _ h => ⟨o', h⟩, fun _ _ h _ => h, fun _ u h => ⟨u, h⟩, fun a u h h' => (by rw [h] at h'; cases h'), fun n p h h' => absurd (List.getElem?_eq_some_iff.mp h').1 (by omega)⟩
theorem none_back {H H' : Hp} (t : ∀ a u, H a = some u → ∃ u', H' a = some u') {a : Addr} (h : H' a = none) : H a = none := by
  cases q : H a with
  | none => rfl
  | some u =>
    obtain ⟨u', e⟩ := t a u q
    rw [h] at e; cases e
theorem Stp.trans (hl : ρ.length = st.length) (a : Stp ρ G H st ρ1 G1 H1 st1) (b : Stp ρ1 G1 H1 st1 ρ2 G2 H2 st2) : Stp ρ G H st ρ2 G2 H2 st2 := by
  have own1 : ∀ (n : Nat) (p : Addr × Addr) (o' : OO), ρ1[n]? = some p → st1[n]? = some (some o') → (∃ o, ρ[n]? = some p ∧ st[n]? = some (some o)) ∨ (H p.1 = none ∧ H p.2 = none) := fun n p o' hp ho => by
    by_cases hn : n < ρ.length
    · obtain ⟨o, e⟩ := a.live n o' hn ho
      have e2 := a.rho n _ (List.getElem?_eq_getElem hn)
      rw [hp] at e2
      refine .inl ⟨o, ?_, e⟩
      rw [List.getElem?_eq_getElem hn]
      exact e2.symm
    · exact .inr (a.new n p (by omega) hp)
  refine ⟨a.same.trans b.same, a.rho.trans b.rho, fun n o' hn h => ?_, fun x u h ho => ?_, fun x u h => ?_, fun x u h h' => ?_, fun n p hn hp => ?_⟩
  · obtain ⟨o1, e1⟩ := b.live n o' (Nat.lt_of_lt_of_le hn a.rho.len) h
    exact a.live n o1 hn e1
  · refine b.keep x u (a.keep x u h ho) fun n p o' hp ho' => ?_
    rcases own1 n p o' hp ho' with ⟨o, e1, e2⟩ | ⟨e1, e2⟩
    · exact ho n p o e1 e2
    · exact ⟨fun e => (by rw [← e, e1] at h; cases h), fun e => (by rw [← e, e2] at h; cases h)⟩
  · obtain ⟨u1, e1⟩ := a.there x u h
    exact b.there x u1 e1
  · cases q : G1 x with
    | some u1 => exact a.fresh x u1 h q
    | none =>
      rcases b.fresh x u q h' with e | ⟨n, p, o', e1, e2, e3⟩
      · exact .inl (none_back a.there e)
      · rcases own1 n p o' e1 e2 with ⟨o, f1, f2⟩ | ⟨f1, f2⟩
        · exact .inr ⟨n, p, o, f1, f2, e3⟩
        · refine .inl ?_
          rcases e3 with rfl | rfl
          · exact f1
          · exact f2
  · by_cases h1 : ρ1.length ≤ n
    · obtain ⟨e1, e2⟩ := b.new n p h1 hp
      exact ⟨none_back a.there e1, none_back a.there e2⟩
    · have h2 : n < ρ1.length := by omega
      have e2 := b.rho n _ (List.getElem?_eq_getElem h2)
      rw [hp] at e2
      exact a.new n p hn (by rw [List.getElem?_eq_getElem h2]; exact e2.symm)
end
end EV
namespace EV
open PySem L2
section
variable {α β : Type}
def pur (a : α) : EM α := fun s => some (.ok a, s)
def non : EM α := fun _ => none
def bnd (m : EM α) (k : α → EM β) : EM β := fun s => match m s with
  | some (.ok a, s') => k a s'
  | some (.ex c ks vs, s') => some (.ex c ks vs, s')
  | none => none
def lft (f : Store → Option (α × Store)) : EM α := fun s => match f s.st with
  | some (a, st) => some (.ok a, ⟨s.env, st⟩)
  | none => none
end
theorem bnd_ok {α β : Type} {m : EM α} {k : α → EM β} {s s' : SS} {a : α} (h : m s = some (.ok a, s')) : bnd m k s = k a s' := by unfold bnd; rw [h]
theorem bnd_ex {α β : Type} {m : EM α} {k : α → EM β} {s s' : SS} {c : Nat} {ks : List Nat} {vs : List D} (h : m s = some (.ex c ks vs, s')) : bnd m k s = some (.ex c ks vs, s') := by unfold bnd; rw [h]
theorem bnd_no {α β : Type} {m : EM α} {k : α → EM β} {s : SS} (h : m s = none) : bnd m k s = none := by unfold bnd; rw [h]
theorem bnd_pur {α β : Type} (a : α) (k : α → EM β) : bnd (pur a) k = k a := rfl
def XOk (c : Kx) (G : Hp) (k : Nat) (ks : List Nat) (ds : List D) (cls : Value) (d : Option Addr) : Prop :=
  ∃ C, c.ct[k]? = some C ∧ cls = .ref C ∧ ((ks = [] ∧ ds = [] ∧ d = none) ∨ ∃ dx vs, d = some dx ∧ ks.length = ds.length ∧ G dx = some (.xd ((ks.map c.nm).zip vs)) ∧ RepDs c G ds vs)
section
variable {α β : Type}
def Wp (c : Kx) (U : WX) (m : EM α) (ρ : Rho) (G : Hp) (σ : L2.St) (H : Hp) (s : SS) (k : α → Rho → Hp → Hp → SS → Prop) : Prop :=
  match m s with
  | none => False
  | some (.ok a, s') => ∀ ρ' G' H', Stp ρ G H s.st ρ' G' H' s'.st → R c ρ' G' σ H' s' → k a ρ' G' H' s'
  | some (.ex C ks ds, s') => ∀ ρ' G' H' cls d, Stp ρ G H s.st ρ' G' H' s'.st → R c ρ' G' σ H' s' → XOk c G' C ks ds cls d → U cls d σ H'
variable {c : Kx} {U : WX} {m : EM α} {ρ : Rho} {G : Hp} {σ : L2.St} {H : Hp} {s s' : SS} {k k' : α → Rho → Hp → Hp → SS → Prop}
theorem Wp.ok {a : α} (e : m s = some (.ok a, s')) (h : ∀ ρ' G' H', Stp ρ G H s.st ρ' G' H' s'.st → R c ρ' G' σ H' s' → k a ρ' G' H' s') : Wp c U m ρ G σ H s k := by
  unfold Wp; rw [e]; exact h
theorem Wp.okE {a : α} (e : m s = some (.ok a, s')) (h : Wp c U m ρ G σ H s k) : ∀ ρ' G' H', Stp ρ G H s.st ρ' G' H' s'.st → R c ρ' G' σ H' s' → k a ρ' G' H' s' := by
  unfold Wp at h; rw [e] at h; exact h
theorem Wp.imp (h : Wp c U m ρ G σ H s k) (q : ∀ a ρ' G' H' s', k a ρ' G' H' s' → k' a ρ' G' H' s') : Wp c U m ρ G σ H s k' := by
  unfold Wp at h ⊢
  cases e : m s with
  | none => rw [e] at h; exact h.elim
  | some p =>
    obtain ⟨o, s1⟩ := p
    cases o with
    | ok a => rw [e] at h; exact fun ρ' G' H' S R => q _ _ _ _ _ (h ρ' G' H' S R)
    | ex _ _ _ => rw [e] at h; exact h
theorem Wp.bnd {f : α → EM β} {k : β → Rho → Hp → Hp → SS → Prop} (hR : R c ρ G σ H s) (h : Wp c U (bnd m f) ρ G σ H s k) :
    Wp c U m ρ G σ H s (fun a ρ1 G1 H1 s1 => Stp ρ G H s.st ρ1 G1 H1 s1.st ∧ R c ρ1 G1 σ H1 s1 ∧ Wp c U (f a) ρ1 G1 σ H1 s1 k) := by
  unfold Wp at h ⊢
  cases e : m s with
  | none => rw [bnd_no e] at h; exact h.elim
  | some p =>
    obtain ⟨o, s1⟩ := p
    cases o with
    | ok a =>
      rw [bnd_ok e] at h
      intro ρ1 G1 H1 S1 R1
      refine ⟨S1, R1, ?_⟩
      cases e2 : f a s1 with
      | none => rw [e2] at h; exact h.elim
      | some p =>
        obtain ⟨o, s2⟩ := p
        cases o with
        | ok b => rw [e2] at h; exact fun ρ2 G2 H2 S2 R2 => h ρ2 G2 H2 (S1.trans hR.rs.len S2) R2
        | ex _ _ _ => rw [e2] at h; exact fun ρ2 G2 H2 cls d S2 R2 x => h ρ2 G2 H2 cls d (S1.trans hR.rs.len S2) R2 x
    | ex _ _ _ => rw [bnd_ex e] at h; exact h
theorem Wp.pur {a : α} (hR : R c ρ G σ H s) (h : Wp c U (pur a) ρ G σ H s k) : k a ρ G H s := h ρ G H Stp.refl hR
theorem Wp.same {a : α} (hR : R c ρ G σ H s) (e : m s = some (.ok a, s)) (h : Wp c U m ρ G σ H s k) : k a ρ G H s := by
  unfold Wp at h; rw [e] at h; exact h ρ G H Stp.refl hR
theorem Wp.none (e : m s = none) (h : Wp c U m ρ G σ H s k) {P : Prop} : P := by
  unfold Wp at h; rw [e] at h; exact h.elim
theorem Wp.lft {f : Store → Option (α × Store)} (h : Wp c U (lft f) ρ G σ H s k) : ∃ a st', f s.st = some (a, st') ∧ ∀ ρ' G' H', Stp ρ G H s.st ρ' G' H' st' → R c ρ' G' σ H' ⟨s.env, st'⟩ → k a ρ' G' H' ⟨s.env, st'⟩ := by
  unfold Wp EV.lft at h
  cases e : f s.st with
  | none => simp only [e] at h
  | some p =>
    obtain ⟨a, st'⟩ := p
    simp only [e] at h
    exact ⟨a, st', rfl, h⟩
end
theorem EnvOk.mono {c : Kx} {ρ ρ' : Rho} {G G' : Hp} {env : List (Option W)} {σ : L2.St} (l : Rle ρ ρ') (e : Same G G') (h : EnvOk c ρ G env σ) : EnvOk c ρ' G' env σ := fun i w q =>
  let ⟨v, a, b⟩ := h i w q
  ⟨v, a, b.mono l e⟩
def tE (c : Kx) (U : WX) (m : EM W) : TE := fun σ H Q => ∃ ρ G s, R c ρ G σ H s ∧ Wp c U m ρ G σ H s (fun w ρ' G' H' _ => ∀ v, RepW c ρ' G' w v → Q v H')
def tT (c : Kx) (U : WX) (m : EM Bool) : TT := fun σ H Q => ∃ ρ G s, R c ρ G σ H s ∧ Wp c U m ρ G σ H s (fun b _ _ H' _ => Q b H')
def tA (c : Kx) (U : WX) (m : EM (List W)) : TA := fun σ H Q => ∃ ρ G s, R c ρ G σ H s ∧ Wp c U m ρ G σ H s (fun ws ρ' G' H' _ => ∀ vs, RepWs c ρ' G' ws vs → Q vs H')
structure EE (c : Kx) (X : Cx) (U : WX) (e : Expr) (m : EM W) : Prop where
  K : X.K = c.K
  pe : PE X e (tE c U m)
structure ET (c : Kx) (X : Cx) (U : WX) (e : Expr) (m : EM Bool) : Prop where
  K : X.K = c.K
  pt : PT X e (tT c U m)
structure EWt (c : Kx) (X : Cx) (U : WX) (e : Expr) (m : EM Bool) : Prop where
  K : X.K = c.K
  pw : PW X e (tT c U m)
structure EA (c : Kx) (X : Cx) (U : WX) (es : List Expr) (m : EM (List W)) : Prop where
  K : X.K = c.K
  pa : PA X es (tA c U m)
theorem PE.imp {X : Cx} {e : Expr} {t t' : TE} (h : PE X e t) (q : ∀ σ H Q, t' σ H Q → t σ H Q) : PE X e t' := ⟨fun pins s σ H Q I x => h.run pins s σ H Q I (q σ H Q x)⟩
theorem PT.imp {X : Cx} {e : Expr} {t t' : TT} (h : PT X e t) (q : ∀ σ H Q, t' σ H Q → t σ H Q) : PT X e t' := ⟨fun pins s σ H Q I x => h.run pins s σ H Q I (q σ H Q x)⟩
theorem PW.imp {X : Cx} {e : Expr} {t t' : TT} (h : PW X e t) (q : ∀ σ H Q, t' σ H Q → t σ H Q) : PW X e t' := ⟨fun wh pins s σ H Q I x => h.run wh pins s σ H Q I (q σ H Q x)⟩
theorem PA.imp {X : Cx} {es : List Expr} {t t' : TA} (h : PA X es t) (q : ∀ σ H Q, t' σ H Q → t σ H Q) : PA X es t' := ⟨fun pos pins s σ H Q I x => h.run pos pins s σ H Q I (q σ H Q x)⟩
section
variable {c : Kx} {X : Cx} {U : WX} {e a b : Expr} {es : List Expr} {ma mb : EM W} {pos : Pos}
def cst (d : D) : EM W := pur (.d d)
theorem EE.mk1 {t : TE} {m : EM W} (hK : X.K = c.K) (h : PE X e t) (q : ∀ ρ G s σ H Q, R c ρ G σ H s → Wp c U m ρ G σ H s (fun w ρ' G' H' _ => ∀ v, RepW c ρ' G' w v → Q v H') → t σ H Q) : EE c X U e m :=
  ⟨hK, PE.imp h fun σ H Q ⟨ρ, G, s, r, w⟩ => q ρ G s σ H Q r w⟩
theorem ee_int {i j} (hK : X.K = c.K) : EE c X U (.Constant (.int i) j pos) (cst (.int i)) := EE.mk1 hK pe_int fun _ _ _ _ _ _ r w => Wp.pur r w _ (.int i)
theorem ee_bl {i j} (hK : X.K = c.K) : EE c X U (.Constant (.bool i) j pos) (cst (.bl i)) := EE.mk1 hK pe_bl fun _ _ _ _ _ _ r w => Wp.pur r w _ (.bl i)
theorem ee_non {j} (hK : X.K = c.K) : EE c X U (.Constant .none j pos) (cst .non) := EE.mk1 hK pe_non fun _ _ _ _ _ _ r w => Wp.pur r w _ .non
theorem ee_str {i j} (hK : X.K = c.K) : EE c X U (.Constant (.str i) j pos) (cst (.str i)) := EE.mk1 hK pe_str fun _ _ _ _ _ _ r w => Wp.pur r w _ (.str i)
def var (i : Nat) : EM W := fun s => match s.env[i]? with
  | some (some w) => some (.ok w, s)
  | _ => none
theorem ee_var (i : Nat) (hK : X.K = c.K) {x : Str} (h : PE X (.Name x pos) (tVar i)) : EE c X U (.Name x pos) (var i) :=
  EE.mk1 hK h fun ρ G s σ H Q r w => by
    cases e : s.env[i]? with
    | none => exact w.none (by unfold var; simp only [e])
    | some o =>
      cases o with
      | none => exact w.none (by unfold var; simp only [e])
      | some x =>
        obtain ⟨v, h1, h2⟩ := r.env i x e
        exact ⟨v, h1, w.same r (by unfold var; simp only [e]) v h2⟩
def anil : EM (List W) := pur []
def acons (m : EM W) (r : EM (List W)) : EM (List W) := bnd m fun w => bnd r fun ws => pur (w :: ws)
theorem ea_nil (hK : X.K = c.K) : EA c X U [] anil := ⟨hK, PA.imp pa_nil fun σ H Q ⟨ρ, G, s, r, w⟩ => Wp.pur r w _ rfl⟩
theorem ea_cons {m : EM W} {r : EM (List W)} (ha : EE c X U e m) (hr : EA c X U es r) (hs : starEach (e :: es) X.env = (false, eval e X.env) :: starEach es X.env := by rfl) : EA c X U (e :: es) (acons m r) :=
  ⟨ha.K, PA.imp (pa_cons ha.pe hr.pa hs) fun σ H Q ⟨ρ, G, s, hR, w⟩ => by
    refine ⟨ρ, G, s, hR, (Wp.bnd hR w).imp fun x ρ1 G1 H1 s1 ⟨S1, R1, w1⟩ v rv => ?_⟩
    refine ⟨ρ1, G1, s1, R1, (Wp.bnd R1 w1).imp fun xs ρ2 G2 H2 s2 ⟨S2, R2, w2⟩ vs rvs => ?_⟩
    exact Wp.pur R2 w2 _ ⟨v, vs, rfl, rv.mono S2.rho S2.same, rvs⟩⟩
def S2 (c : Kx) (r : R2) (f : Store → W → W → Option (W × Store)) : Prop :=
  ∀ (ρ : Rho) (G H : Hp) (st : Store) (x y w : W) (st' : Store) (vx vy : V) (Q : VK), RS c ρ G H st → RepW c ρ G x vx → RepW c ρ G y vy → f st x y = some (w, st') →
    (∀ v ρ' G' H', Stp ρ G H st ρ' G' H' st' → RS c ρ' G' H' st' → RepW c ρ' G' w v → Q v H') → r vx vy H Q
def op2 (f : Store → W → W → Option (W × Store)) (ma mb : EM W) : EM W := bnd ma fun x => bnd mb fun y => lft fun st => f st x y
theorem wp_op2 {r : R2} {f : Store → W → W → Option (W × Store)} (hs : S2 c r f) {ρ : Rho} {G H : Hp} {σ : L2.St} {s : SS} {Q : VK} (hR : R c ρ G σ H s) (w : Wp c U (op2 f ma mb) ρ G σ H s (fun w ρ' G' H' _ => ∀ v, RepW c ρ' G' w v → Q v H')) :
    tOp r (tE c U ma) (tE c U mb) σ H Q := by
  refine ⟨ρ, G, s, hR, (Wp.bnd hR w).imp fun x ρ1 G1 H1 s1 ⟨S1, R1, w1⟩ v rv => ?_⟩
  refine ⟨ρ1, G1, s1, R1, (Wp.bnd R1 w1).imp fun y ρ2 G2 H2 s2 ⟨S2, R2, w2⟩ u ru => ?_⟩
  obtain ⟨w, st', e, q⟩ := Wp.lft w2
  exact hs ρ2 G2 H2 s2.st x y w st' v u Q R2.rs (rv.mono S2.rho S2.same) ru e fun v' ρ' G' H' S3 R3 r3 => q ρ' G' H' S3 ⟨R3, R2.env.mono S3.rho S3.same, R2.len⟩ v' r3
theorem ee_op {op : Operator} {r : R2} {f : Store → W → W → Option (W × Store)} (ho : OpR X (binaryOp op) r) (hs : S2 c r f) (ha : EE c X U a ma) (hb : EE c X U b mb) : EE c X U (.BinOp a op b pos) (op2 f ma mb) :=
  EE.mk1 ha.K (pe_op ho ha.pe hb.pe) fun ρ G s σ H Q hR w => wp_op2 hs hR w
theorem ee_cmp {op : CmpOp} {r : R2} {f : Store → W → W → Option (W × Store)} (ho : OpR X (compareOp op) r) (hm : behindInMarks op b = false) (hs : S2 c r f) (ha : EE c X U a ma) (hb : EE c X U b mb) : EE c X U (.Compare a [op] [b] pos) (op2 f ma mb) :=
  EE.mk1 ha.K (pe_cmpR ho ha.pe hb.pe hm) fun ρ G s σ H Q hR w => wp_op2 hs hR w
def toB (m : EM W) : EM Bool := bnd m fun w => match w with
  | .d (.bl b) => pur b
  | _ => non
theorem wp_toB {m : EM W} {ρ : Rho} {G H : Hp} {σ : L2.St} {s : SS} {Q : Bool → Hp → Prop} (hR : R c ρ G σ H s) (w : Wp c U (toB m) ρ G σ H s (fun b _ _ H' _ => Q b H')) :
    Wp c U m ρ G σ H s (fun w ρ' G' H' _ => ∀ v, RepW c ρ' G' w v → ∃ k, v = .bl k ∧ Q k H') := by
  refine (Wp.bnd hR w).imp fun x ρ1 G1 H1 s1 ⟨S1, R1, w1⟩ v rv => ?_
  cases x with
  | loc n => exact w1.none rfl
  | d x =>
    cases x with
    | bl b =>
      cases rv
      exact ⟨b, rfl, Wp.pur R1 w1⟩
    | _ => exact w1.none rfl
theorem et_cmp {op : CmpOp} {r : R2} {f : Store → W → W → Option (W × Store)} (ho : OpR X (compareOp op) r) (hm : behindInMarks op b = false) (hs : S2 c r f) (ha : EE c X U a ma) (hb : EE c X U b mb) : ET c X U (.Compare a [op] [b] pos) (toB (op2 f ma mb)) :=
  ⟨ha.K, PT.imp (pt_cmpR ho ha.pe hb.pe hm) fun σ H Q ⟨ρ, G, s, hR, w⟩ => wp_op2 hs hR (wp_toB hR w)⟩
theorem et_val {m : EM W} (h : EE c X U e m) (he : ∀ whole, isTrue e X.env whole = (do let v ← whole; standAt e.pos; holding [v] (truthy v)) := by intro _; rfl) : ET c X U e (toB m) :=
  ⟨h.K, PT.imp (pt_val h.pe he) fun σ H Q ⟨ρ, G, s, hR, w⟩ => ⟨ρ, G, s, hR, wp_toB hR w⟩⟩
def ntB (m : EM Bool) : EM Bool := bnd m fun b => pur (!b)
def anB (m r : EM Bool) : EM Bool := bnd m fun b => if b then r else pur false
def orB (m r : EM Bool) : EM Bool := bnd m fun b => if b then pur true else r
variable {m1 m2 : EM Bool} {rest : List Expr}
theorem et_not (h : ET c X U a m1) : ET c X U (.UnaryOp .Not a pos) (ntB m1) :=
  ⟨h.K, PT.imp (pt_not h.pt) fun σ H Q ⟨ρ, G, s, hR, w⟩ => ⟨ρ, G, s, hR, (Wp.bnd hR w).imp fun x ρ1 G1 H1 s1 ⟨S1, R1, w1⟩ => Wp.pur R1 w1⟩⟩
theorem ew_and1 (h : ET c X U a m1) : EWt c X U (.BoolOp .And [a] pos) m1 := ⟨h.K, pw_and1 h.pt⟩
theorem ew_or1 (h : ET c X U a m1) : EWt c X U (.BoolOp .Or [a] pos) m1 := ⟨h.K, pw_or1 h.pt⟩
theorem ew_and (h : ET c X U a m1) (h2 : EWt c X U (.BoolOp .And (b :: rest) pos) m2) : EWt c X U (.BoolOp .And (a :: b :: rest) pos) (anB m1 m2) :=
  ⟨h.K, PW.imp (pw_and h.pt h2.pw) fun σ H Q ⟨ρ, G, s, hR, w⟩ => ⟨ρ, G, s, hR, (Wp.bnd hR w).imp fun x ρ1 G1 H1 s1 ⟨S1, R1, w1⟩ => by
    cases x with
    | true => exact iteT ⟨ρ1, G1, s1, R1, w1⟩
    | false => exact iteF (Wp.pur R1 w1)⟩⟩
theorem ew_or (h : ET c X U a m1) (h2 : EWt c X U (.BoolOp .Or (b :: rest) pos) m2) : EWt c X U (.BoolOp .Or (a :: b :: rest) pos) (orB m1 m2) :=
  ⟨h.K, PW.imp (pw_or h.pt h2.pw) fun σ H Q ⟨ρ, G, s, hR, w⟩ => ⟨ρ, G, s, hR, (Wp.bnd hR w).imp fun x ρ1 G1 H1 s1 ⟨S1, R1, w1⟩ => by
    cases x with
    | true => exact iteT (Wp.pur R1 w1)
    | false => exact iteF ⟨ρ1, G1, s1, R1, w1⟩⟩⟩
theorem EWt.et (h : EWt c X U e m1) : ET c X U e m1 := ⟨h.K, h.pw.pt⟩
def ofB (m : EM Bool) : EM W := bnd m fun b => pur (.d (.bl b))
theorem ee_one {op} {m : EM W} (h : EE c X U a m) : EE c X U (.BoolOp op [a] pos) m := ⟨h.K, pe_one h.pe⟩
def anV (m r : EM W) : EM W := bnd (toB m) fun b => if b then r else pur (.d (.bl false))
def orV (m r : EM W) : EM W := bnd (toB m) fun b => if b then pur (.d (.bl true)) else r
def ntV (m : EM W) : EM W := bnd (toB m) fun b => pur (.d (.bl (!b)))
theorem wp_toBv {α : Type} {m : EM W} {f : Bool → EM α} {ρ : Rho} {G H : Hp} {σ : L2.St} {s : SS} {k : α → Rho → Hp → Hp → SS → Prop} (hR : R c ρ G σ H s) (w : Wp c U (bnd (toB m) f) ρ G σ H s k) :
    Wp c U m ρ G σ H s (fun w ρ1 G1 H1 s1 => ∀ v, RepW c ρ1 G1 w v → ∃ b, v = .bl b ∧ Stp ρ G H s.st ρ1 G1 H1 s1.st ∧ R c ρ1 G1 σ H1 s1 ∧ Wp c U (f b) ρ1 G1 σ H1 s1 k) := by
  have e : bnd (toB m) f = bnd m fun w => bnd (match w with | .d (.bl b) => pur b | _ => non) f := by
    funext s
    unfold toB bnd
    cases m s with
    | none => rfl
    | some p => obtain ⟨o, s1⟩ := p; cases o <;> rfl
  rw [e] at w
  refine (Wp.bnd hR w).imp fun x ρ1 G1 H1 s1 ⟨S1, R1, w1⟩ v rv => ?_
  cases x with
  | loc n => exact w1.none rfl
  | d x =>
    cases x with
    | bl b =>
      cases rv
      exact ⟨b, rfl, S1, R1, w1⟩
    | _ => exact w1.none rfl
theorem ee_and {mr : EM W} (ha : EE c X U a ma) (hb : EE c X U (.BoolOp .And (b :: rest) pos) mr) : EE c X U (.BoolOp .And (a :: b :: rest) pos) (anV ma mr) :=
  EE.mk1 ha.K (pe_and ha.pe hb.pe) fun ρ G s σ H Q hR w => ⟨ρ, G, s, hR, (wp_toBv hR w).imp fun x ρ1 G1 H1 s1 h v rv => by
    obtain ⟨b, rfl, S1, R1, w1⟩ := h v rv
    refine ⟨b, rfl, ?_⟩
    cases b with
    | true => exact iteT ⟨ρ1, G1, s1, R1, w1⟩
    | false => exact iteF (Wp.pur R1 w1 _ (.bl false))⟩
theorem ee_not (ha : EE c X U a ma) : EE c X U (.UnaryOp .Not a pos) (ntV ma) :=
  EE.mk1 ha.K (pe_not ha.pe) fun ρ G s σ H Q hR w => ⟨ρ, G, s, hR, (wp_toBv hR w).imp fun x ρ1 G1 H1 s1 h v rv => by
    obtain ⟨b, rfl, S1, R1, w1⟩ := h v rv
    exact ⟨b, rfl, Wp.pur R1 w1 _ (.bl (!b))⟩⟩
def ifE {α : Type} (t : EM Bool) (ma mb : EM α) : EM α := bnd t fun b => if b then ma else mb
end
end EV
namespace EV
open PySem L2
section
variable {α β : Type}
def Ws (c : Kx) (U : WX) (m : EM α) (ρ : Rho) (G H : Hp) (s : SS) (k : α → Rho → Hp → L2.St → Hp → SS → Prop) : Prop :=
  match m s with
  | none => False
  | some (.ok a, s') => ∀ ρ' G' σ' H', Stp ρ G H s.st ρ' G' H' s'.st → R c ρ' G' σ' H' s' → k a ρ' G' σ' H' s'
  | some (.ex C ks ds, s') => ∀ ρ' G' σ' H' cls d, Stp ρ G H s.st ρ' G' H' s'.st → R c ρ' G' σ' H' s' → XOk c G' C ks ds cls d → U cls d σ' H'
variable {c : Kx} {U : WX} {m : EM α} {ρ : Rho} {G : Hp} {σ : L2.St} {H : Hp} {s s' : SS} {k k' : α → Rho → Hp → L2.St → Hp → SS → Prop}
theorem Ws.imp (h : Ws c U m ρ G H s k) (q : ∀ a ρ' G' σ' H' s', k a ρ' G' σ' H' s' → k' a ρ' G' σ' H' s') : Ws c U m ρ G H s k' := by
  unfold Ws at h ⊢
  cases e : m s with
  | none => rw [e] at h; exact h.elim
  | some p =>
    obtain ⟨o, s1⟩ := p
    cases o with
    | ok a => rw [e] at h; exact fun ρ' G' σ' H' S R => q _ _ _ _ _ _ (h ρ' G' σ' H' S R)
    | ex _ _ _ => rw [e] at h; exact h
theorem Ws.bndE {f : α → EM β} {k : β → Rho → Hp → L2.St → Hp → SS → Prop} (hR : R c ρ G σ H s) (h : Ws c U (bnd m f) ρ G H s k) :
    Wp c U m ρ G σ H s (fun a ρ1 G1 H1 s1 => Stp ρ G H s.st ρ1 G1 H1 s1.st ∧ R c ρ1 G1 σ H1 s1 ∧ Ws c U (f a) ρ1 G1 H1 s1 k) := by
  unfold Ws at h
  unfold Wp
  cases e : m s with
  | none => rw [bnd_no e] at h; exact h.elim
  | some p =>
    obtain ⟨o, s1⟩ := p
    cases o with
    | ok a =>
      rw [bnd_ok e] at h
      intro ρ1 G1 H1 S1 R1
      refine ⟨S1, R1, ?_⟩
      unfold Ws
      cases e2 : f a s1 with
      | none => rw [e2] at h; exact h.elim
      | some p =>
        obtain ⟨o, s2⟩ := p
        cases o with
        | ok b => rw [e2] at h; exact fun ρ2 G2 σ2 H2 S2 R2 => h ρ2 G2 σ2 H2 (S1.trans hR.rs.len S2) R2
        | ex _ _ _ => rw [e2] at h; exact fun ρ2 G2 σ2 H2 cls d S2 R2 x => h ρ2 G2 σ2 H2 cls d (S1.trans hR.rs.len S2) R2 x
    | ex _ _ _ => rw [bnd_ex e] at h; exact fun ρ1 G1 H1 cls d S1 R1 x => h ρ1 G1 σ H1 cls d S1 R1 x
theorem Ws.bnd {f : α → EM β} {k : β → Rho → Hp → L2.St → Hp → SS → Prop} (hl : ρ.length = s.st.length) (h : Ws c U (bnd m f) ρ G H s k) :
    Ws c U m ρ G H s (fun a ρ1 G1 σ1 H1 s1 => Stp ρ G H s.st ρ1 G1 H1 s1.st ∧ R c ρ1 G1 σ1 H1 s1 ∧ Ws c U (f a) ρ1 G1 H1 s1 k) := by
  unfold Ws at h ⊢
  cases e : m s with
  | none => rw [bnd_no e] at h; exact h.elim
  | some p =>
    obtain ⟨o, s1⟩ := p
    cases o with
    | ok a =>
      rw [bnd_ok e] at h
      intro ρ1 G1 σ1 H1 S1 R1
      refine ⟨S1, R1, ?_⟩
      cases e2 : f a s1 with
      | none => rw [e2] at h; exact h.elim
      | some p =>
        obtain ⟨o, s2⟩ := p
        cases o with
        | ok b => rw [e2] at h; exact fun ρ2 G2 σ2 H2 S2 R2 => h ρ2 G2 σ2 H2 (S1.trans hl S2) R2
        | ex _ _ _ => rw [e2] at h; exact fun ρ2 G2 σ2 H2 cls d S2 R2 x => h ρ2 G2 σ2 H2 cls d (S1.trans hl S2) R2 x
    | ex _ _ _ => rw [bnd_ex e] at h; exact h
theorem Ws.pur {a : α} (hR : R c ρ G σ H s) (h : Ws c U (pur a) ρ G H s k) : k a ρ G σ H s := h ρ G σ H Stp.refl hR
theorem Ws.none (e : m s = none) (h : Ws c U m ρ G H s k) {P : Prop} : P := by
  unfold Ws at h; rw [e] at h; exact h.elim
theorem Ws.after {ρ1 : Rho} {G1 H1 : Hp} {st : Store} (hl : ρ.length = st.length) (S : Stp ρ G H st ρ1 G1 H1 s.st) (h : Ws c U m ρ G H ⟨s.env, st⟩ k) (e : m ⟨s.env, st⟩ = m s) : Ws c U m ρ1 G1 H1 s k := by
  unfold Ws at h ⊢
  rw [e] at h
  cases e : m s with
  | none => rw [e] at h; exact h.elim
  | some p =>
    obtain ⟨o, s1⟩ := p
    cases o with
    | ok a => rw [e] at h; exact fun ρ' G' σ' H' S' R => h ρ' G' σ' H' (S.trans hl S') R
    | ex _ _ _ => rw [e] at h; exact fun ρ' G' σ' H' cls d S' R x => h ρ' G' σ' H' cls d (S.trans hl S') R x
end
def kD (c : Kx) (D : Ends) : Fl → Rho → Hp → L2.St → Hp → SS → Prop := fun f ρ' G' σ' H' _ => match f with
  | .nx => D.nx σ' H'
  | .ret w => ∀ v, RepW c ρ' G' w v → D.rt v H'
  | .brk => D.bk σ' H'
  | .cnt => D.ct σ' H'
def tS (c : Kx) (U : WX) (m : EM Fl) : TS := fun D σ H => ∃ ρ G s, R c ρ G σ H s ∧ Ws c U m ρ G H s (kD c D)
structure ES (c : Kx) (X : Cx) (U : WX) (st : Stmt) (m : EM Fl) : Prop where
  K : X.K = c.K
  ps : PS X st (tS c U m)
structure ESs (c : Kx) (X : Cx) (U : WX) (sts : List Stmt) (m : EM Fl) : Prop where
  K : X.K = c.K
  ps : PSs X sts (tS c U m)
theorem PS.imp {X : Cx} {st : Stmt} {t t' : TS} (h : PS X st t) (q : ∀ D σ H, t' D σ H → t D σ H) : PS X st t' := ⟨fun pins s σ H D I x => h.run pins s σ H D I (q D σ H x)⟩
theorem PSs.imp {X : Cx} {st : List Stmt} {t t' : TS} (h : PSs X st t) (q : ∀ D σ H, t' D σ H → t D σ H) : PSs X st t' := ⟨fun pins s σ H D I x => h.run pins s σ H D I (q D σ H x)⟩
def sq (m r : EM Fl) : EM Fl := bnd m fun f => match f with
  | .nx => r
  | .ret w => pur (.ret w)
  | .brk => pur .brk
  | .cnt => pur .cnt
section
variable {c : Kx} {X : Cx} {U : WX} {st : Stmt} {rest body orelse : List Stmt} {e t a b : Expr} {m r : EM Fl} {me ma mb : EM W} {mt : EM Bool} {pos pos' : Pos}
theorem ess_nil (hK : X.K = c.K) : ESs c X U [] (pur .nx) := ⟨hK, PSs.imp pss_nil fun D σ H ⟨ρ, G, s, hR, w⟩ => Ws.pur hR w⟩
theorem wp_sq {D : Ends} {ρ : Rho} {G H : Hp} {σ : L2.St} {s : SS} (hR : R c ρ G σ H s) (w : Ws c U (sq m r) ρ G H s (kD c D)) : Ws c U m ρ G H s (kD c { D with nx := tS c U r D }) := by
  refine (Ws.bnd hR.rs.len w).imp fun f ρ1 G1 σ1 H1 s1 ⟨S1, R1, w1⟩ => ?_
  cases f with
  | nx => exact ⟨ρ1, G1, s1, R1, w1⟩
  | ret w => exact fun v rv => Ws.pur (U := U) R1 w1 v rv
  | brk => exact Ws.pur (U := U) R1 w1
  | cnt => exact Ws.pur (U := U) R1 w1
theorem ess_cons (h : ES c X U st m) (hr : ESs c X U rest r) : ESs c X U (st :: rest) (sq m r) :=
  ⟨h.K, PSs.imp (pss_cons h.ps hr.ps) fun D σ H ⟨ρ, G, s, hR, w⟩ => ⟨ρ, G, s, hR, wp_sq hR w⟩⟩
theorem ess_one (h : ES c X U st m) : ESs c X U [st] m := ⟨h.K, pss_one h.ps⟩
def exprS (m : EM W) : EM Fl := bnd m fun _ => pur .nx
theorem es_expr (he : EE c X U e me) (hs : swapsWith e none pos.line X.env = pure false := by rfl) : ES c X U (.Expr e pos) (exprS me) :=
  ⟨he.K, PS.imp (ps_expr he.pe hs) fun D σ H ⟨ρ, G, s, hR, w⟩ => ⟨ρ, G, s, hR, (Ws.bndE hR w).imp fun x ρ1 G1 H1 s1 ⟨S1, R1, w1⟩ v rv => Ws.pur R1 w1⟩⟩
def retS (m : EM W) : EM Fl := bnd m fun w => pur (.ret w)
theorem es_ret (he : EE c X U e me) : ES c X U (.Return (some e) pos) (retS me) :=
  ⟨he.K, PS.imp (ps_ret he.pe) fun D σ H ⟨ρ, G, s, hR, w⟩ => ⟨ρ, G, s, hR, (Ws.bndE hR w).imp fun x ρ1 G1 H1 s1 ⟨S1, R1, w1⟩ v rv => Ws.pur R1 w1 v rv⟩⟩
theorem es_if (ht : ET c X U t mt) (h1 : ESs c X U body m) (h2 : ESs c X U orelse r) : ES c X U (.If t body orelse pos) (ifE mt m r) :=
  ⟨ht.K, PS.imp (ps_if ht.pt h1.ps h2.ps) fun D σ H ⟨ρ, G, s, hR, w⟩ => ⟨ρ, G, s, hR, (Ws.bndE hR w).imp fun b ρ1 G1 H1 s1 ⟨S1, R1, w1⟩ => by
    cases b with
    | true => exact iteT ⟨ρ1, G1, s1, R1, w1⟩
    | false => exact iteF ⟨ρ1, G1, s1, R1, w1⟩⟩⟩
inductive Tg where
  | name (i : Nat) | tup (is : List Nat)
def Tg.is : Tg → List Nat
  | .name i => [i]
  | .tup is => is
def gNames : List Nat → TGs
  | [] => gNil
  | i :: r => gCons (gName i) (gNames r)
def gOf (K : PySem.W.Frag) : Tg → TG
  | .name i => gName i
  | .tup is => gTup K is.length (gNames is)
def setAll {α : Type} : List Nat → List α → List (Option α) → List (Option α)
  | i :: is, w :: ws, l => setAll is ws (l.set i (some w))
  | _, _, l => l
def asg (t : Tg) (w : W) : EM Unit := fun s => match t with
  | .name i => some (.ok (), ⟨s.env.set i (some w), s.st⟩)
  | .tup is => match w with
    | .d (.tup ds) => if ds.length = is.length then some (.ok (), ⟨setAll is (ds.map .d) s.env, s.st⟩) else none
    | .loc n => match s.st[n]? with
      | some (some (.tup ws)) => if ws.length = is.length then some (.ok (), ⟨setAll is ws s.env, s.st⟩) else none
      | _ => none
    | _ => none
theorem EnvOk.set {ρ : Rho} {G : Hp} {env : List (Option W)} {σ : L2.St} {i : Nat} {w : W} {v : V} (hl : env.length = σ.length) (h : EnvOk c ρ G env σ) (r : RepW c ρ G w v) : EnvOk c ρ G (env.set i (some w)) (σ.set i (some v)) := fun j x e => by
  by_cases hj : j = i
  · subst hj
    have hlt : j < env.length := by
      have := (List.getElem?_eq_some_iff.mp e).1
      simpa using this
    rw [List.getElem?_set_self hlt] at e
    cases e
    exact ⟨v, by rw [List.getElem?_set_self (by omega)], r⟩
  · rw [List.getElem?_set_ne (Ne.symm hj)] at e
    obtain ⟨u, h1, h2⟩ := h j x e
    exact ⟨u, by rw [List.getElem?_set_ne (Ne.symm hj)]; exact h1, h2⟩
theorem setAll_len {α : Type} : ∀ (is : List Nat) (ws : List α) (l : List (Option α)), (setAll is ws l).length = l.length
  | [], _, _ => rfl
  | _ :: _, [], _ => rfl
  | i :: is, w :: ws, l => by unfold setAll; rw [setAll_len is ws]; simp
theorem setAll_ok {ρ : Rho} {G : Hp} : ∀ (is : List Nat) (ws : List W) (vs : List V) (env : List (Option W)) (σ : L2.St), env.length = σ.length → EnvOk c ρ G env σ → RepWs c ρ G ws vs → EnvOk c ρ G (setAll is ws env) (setAll is vs σ)
  | [], _, _, _, _, _, h, _ => h
  | _ :: _, [], _, _, _, _, h, r => by have r : _ = [] := r; subst r; exact h
  | i :: is, w :: ws, _, env, σ, hl, h, ⟨v, vs, e, r, t⟩ => by
    subst e
    exact setAll_ok is ws vs _ _ (by simpa using hl) (h.set hl r) t
theorem gNames_of {Q : L2.St → Hp → Prop} {H : Hp} : ∀ (is : List Nat) (vs : List V) (σ : L2.St), vs.length = is.length → Q (setAll is vs σ) H → gNames is vs σ H Q
  | [], [], _, _, q => ⟨rfl, q⟩
  | [], _ :: _, _, h, _ => by simp at h
  | _ :: _, [], _, h, _ => by simp at h
  | i :: is, v :: vs, σ, h, q => ⟨v, vs, rfl, gNames_of is vs _ (by simpa using h) q⟩
theorem asg_ok {t : Tg} {w : W} {ρ : Rho} {G H : Hp} {σ : L2.St} {s s' : SS} {v : V} {o : Out Unit} {Q : L2.St → Hp → Prop} (hR : R c ρ G σ H s) (r : RepW c ρ G w v) (e : asg t w s = some (o, s'))
    (q : ∀ σ', R c ρ G σ' H s' → s'.st = s.st → o = .ok () → (∃ ws : List V, σ' = setAll t.is ws σ) → Q σ' H) : gOf c.K t v σ H Q := by
  unfold asg at e
  cases t with
  | name i =>
    simp only [Option.some.injEq, Prod.mk.injEq] at e
    obtain ⟨rfl, rfl⟩ := e
    exact q _ ⟨hR.rs, hR.env.set hR.len r, by simpa using hR.len⟩ rfl rfl ⟨[v], rfl⟩
  | tup is =>
    cases w with
    | loc n =>
      simp only at e
      cases ho : s.st[n]? with
      | none => rw [ho] at e; cases e
      | some oo =>
        cases oo with
        | none => rw [ho] at e; cases e
        | some oo =>
          cases oo with
          | lst _ => rw [ho] at e; cases e
          | dct _ _ => rw [ho] at e; cases e
          | dtt _ _ => rw [ho] at e; cases e
          | tab => rw [ho] at e; cases e
          | ins _ _ _ => rw [ho] at e; cases e
          | tup ws =>
            rw [ho] at e
            simp only at e
            split at e
            · rename_i hl
              simp only [Option.some.injEq, Prod.mk.injEq] at e
              obtain ⟨rfl, rfl⟩ := e
              obtain ⟨p, hp, rfl⟩ := r
              obtain ⟨_, _, _, vs, h, hr⟩ := hR.rs.own n p _ hp ho
              have hl2 : vs.length = is.length := by rw [hr.len]; exact hl
              refine ⟨p.1, vs, rfl, SqT.of h, hl2, gNames_of is vs σ hl2 (q _ ⟨hR.rs, setAll_ok is _ vs _ _ hR.len hR.env hr, ?_⟩ rfl rfl ⟨vs, rfl⟩)⟩
              show (setAll _ _ _).length = (setAll _ _ _).length
              rw [setAll_len, setAll_len]
              exact hR.len
            · cases e
    | d x =>
      cases x with
      | tup ds =>
        simp only at e
        split at e
        · rename_i hl
          simp only [Option.some.injEq, Prod.mk.injEq] at e
          obtain ⟨rfl, rfl⟩ := e
          cases r with
          | tup hs rs =>
            rename_i a vs
            have hl2 : vs.length = is.length := by rw [rs.len]; exact hl
            refine ⟨a, vs, rfl, SqT.same hR.rs.sub hs, hl2, gNames_of is vs σ hl2 (q _ ⟨hR.rs, setAll_ok is _ vs _ _ hR.len hR.env (RepWs.ofD rs), ?_⟩ rfl rfl ⟨vs, rfl⟩)⟩
            show (setAll _ _ _).length = (setAll _ _ _).length
            rw [setAll_len, setAll_len]
            exact hR.len
        · cases e
      | _ => simp at e
structure EG (c : Kx) (X : Cx) (target : Expr) (t : Tg) : Prop where
  pg : PG X target (gOf c.K t)
theorem eg_name {i : Nat} {x : Str} (h : PG X (.Name x pos) (gName i)) : EG c X (.Name x pos) (.name i) := ⟨h⟩
theorem eg_tup {is : List Nat} {es : List Expr} {k : Nat} (hK : X.K = c.K) (hc : X.calm = true) (h : PGs X es (gNames is)) (hn : (assignEach es X.env).length = is.length := by rfl) (hst : (assignEach es X.env).findIdx? (·.1) = none := by rfl) : EG c X (.Tuple es k pos) (.tup is) :=
  ⟨by
    have h := pg_tup (k := k) (pos := pos) hc h hn hst
    rw [hK] at h
    exact h⟩
def asgS (t : Tg) (m : EM W) : EM Fl := bnd m fun w => bnd (asg t w) fun _ => pur .nx
theorem ws_asg {t : Tg} {w : W} {f : Unit → EM Fl} {ρ : Rho} {G H : Hp} {σ : L2.St} {s : SS} {v : V} {k : Fl → Rho → Hp → L2.St → Hp → SS → Prop} {Q : L2.St → Hp → Prop} (hR : R c ρ G σ H s) (r : RepW c ρ G w v) (h : Ws c U (bnd (asg t w) f) ρ G H s k)
    (q : ∀ σ' s', R c ρ G σ' H s' → s'.st = s.st → (∃ ws : List V, σ' = setAll t.is ws σ) → Ws c U (f ()) ρ G H s' k → Q σ' H) : gOf c.K t v σ H Q := by
  cases e : asg t w s with
  | none => exact h.none (bnd_no e)
  | some p =>
    obtain ⟨o, s'⟩ := p
    refine asg_ok hR r e fun σ' R' hst ho hw => q σ' s' R' hst hw ?_
    subst ho
    unfold Ws at h ⊢
    rw [bnd_ok e, ← hst] at h
    exact h
theorem es_asg {tg : Expr} {t : Tg} (he : EE c X U e me) (hg : EG c X tg t) (hs : swapsWithSole [tg] e pos.line X.env = pure false := by rfl) (hw : swappedStores [tg] e X.env = pure none := by rfl)
    (h1 : (assignEach [tg] X.env).map (·.2) = [assign tg X.env] := by rfl) : ES c X U (.Assign [tg] e pos) (asgS t me) :=
  ⟨he.K, PS.imp (ps_asg he.pe hg.pg hs hw h1) fun D σ H ⟨ρ, G, s, hR, w⟩ => ⟨ρ, G, s, hR, (Ws.bndE hR w).imp fun x ρ1 G1 H1 s1 ⟨S1, R1, w1⟩ v rv => ws_asg R1 rv w1 fun σ' s' R' _ _ w' => Ws.pur R' w'⟩⟩
structure Iter (c : Kx) (G : Hp) (J : It) (ds : List D) : Prop where
  go : ∀ i H, Same G H → i < ds.length → J.go i H
  stop : ∀ H, Same G H → J.stop ds.length H
  yld : ∀ (i : Nat) H x H' (d : D), Same G H → ds[i]? = some d → J.yld i H x H' → ∀ ρ G1 st, Same G G1 → RS c ρ G1 H st → ∃ G2, Stp ρ G1 H st ρ G2 H' st ∧ RS c ρ G2 H' st ∧ RepD c G2 d x
def tI (c : Kx) (U : WX) (m : EM (List D)) : TI := fun σ H Rk => ∃ ρ G s, R c ρ G σ H s ∧ Wp c U m ρ G σ H s (fun ds _ G' H' _ => ∀ J, Iter c G' J ds → Rk J H')
structure EI (c : Kx) (X : Cx) (U : WX) (tg iter : Expr) (m : EM (List D)) : Prop where
  K : X.K = c.K
  pi : PI X tg iter (tI c U m)
def loopS (t : Tg) (body : EM Fl) : List D → EM Fl
  | [] => pur .nx
  | d :: ds => bnd (bnd (asg t (.d d)) fun _ => body) fun f => match f with
    | .nx => loopS t body ds
    | .cnt => loopS t body ds
    | .brk => pur .nx
    | .ret w => pur (.ret w)
def forS (mi : EM (List D)) (t : Tg) (body : EM Fl) : EM Fl := bnd mi fun ds => loopS t body ds
theorem Ws.step {α : Type} {mm : EM α} {ρ : Rho} {G H G1 H1 : Hp} {s : SS} {k : α → Rho → Hp → L2.St → Hp → SS → Prop} (hl : ρ.length = s.st.length) (S : Stp ρ G H s.st ρ G1 H1 s.st) (h : Ws c U mm ρ G H s k) : Ws c U mm ρ G1 H1 s k :=
  Ws.after (s := s) hl S h rfl
theorem bnd_assoc {α β γ : Type} (m : EM α) (f : α → EM β) (g : β → EM γ) : bnd (bnd m f) g = bnd m fun a => bnd (f a) g := by
  funext s
  unfold bnd
  cases m s with
  | none => rfl
  | some p =>
    obtain ⟨o, s1⟩ := p
    cases o <;> rfl
theorem es_for {tg iter : Expr} {t : Tg} {mi : EM (List D)} (hp : PassesOwn (model X.prog X.w) X.A X.env X.xe) (hc : X.calm = true) (hi : EI c X U tg iter mi) (hg : EG c X tg t) (hb : ESs c X U body m) (hs : ∀ x, foldedSetIterable iter X.env x = pure x := by intro _; rfl) :
    ES c X U (.For tg iter body [] pos) (forS mi t m) :=
  ⟨hi.K, PS.imp (ps_for hp hc hi.pi hg.pg hb.ps hs) fun D σ H ⟨ρ, G, s, hR, w⟩ => ⟨ρ, G, s, hR, (Ws.bndE hR w).imp fun ds ρ1 G1 H1 s1 ⟨S1, R1, w1⟩ J it => by
    refine ⟨fun i n σ H => ∃ ρ2 G2 s2, i ≤ ds.length ∧ n = ds.length - i ∧ Same G1 G2 ∧ R c ρ2 G2 σ H s2 ∧ Ws c U (loopS t m (ds.drop i)) ρ2 G2 H s2 (kD c D), ⟨ds.length, ρ1, G1, s1, Nat.zero_le _, by simp, Same.refl _, R1, by simpa using w1⟩, ?_⟩
    rintro i n σ2 H2 ⟨ρ2, G2, s2, hi, rfl, sm, R2, w2⟩
    have sH : Same G1 H2 := sm.trans R2.rs.sub
    by_cases hlt : i < ds.length
    · refine .inr ⟨it.go i H2 sH hlt, fun σ H => ∃ ρ2 G2 s2, Same G1 G2 ∧ R c ρ2 G2 σ H s2 ∧ Ws c U (loopS t m (ds.drop (i + 1))) ρ2 G2 H s2 (kD c D), fun σ' H' ⟨ρ3, G3, s3, h1, h2, h3⟩ => ⟨ds.length - (i + 1), by omega, ρ3, G3, s3, hlt, rfl, h1, h2, h3⟩, fun x H' hy => ?_⟩
      obtain ⟨G3, S3, RS3, rx⟩ := it.yld i H2 x H' ds[i] sH (List.getElem?_eq_getElem hlt) hy ρ2 G2 s2.st sm R2.rs
      have R3 : R c ρ2 G3 σ2 H' s2 := ⟨RS3, R2.env.mono S3.rho S3.same, R2.len⟩
      have ed : ds.drop i = ds[i] :: ds.drop (i + 1) := List.drop_eq_getElem_cons hlt
      rw [ed] at w2
      unfold loopS at w2
      rw [bnd_assoc] at w2
      refine ws_asg (w := .d ds[i]) R3 rx (w2.step R2.rs.len S3) fun σ4 s4 R4 _ _ w4 => ?_
      refine ⟨ρ2, G3, s4, R4, (Ws.bnd R4.rs.len w4).imp fun f ρ5 G5 σ5 H5 s5 ⟨S5, R5, w5⟩ => ?_⟩
      cases f with
      | nx => exact ⟨ρ5, G5, s5, (sm.trans S3.same).trans S5.same, R5, w5⟩
      | cnt => exact ⟨ρ5, G5, s5, (sm.trans S3.same).trans S5.same, R5, w5⟩
      | brk => exact Ws.pur (U := U) R5 w5
      | ret w => exact fun v rv => Ws.pur (U := U) R5 w5 v rv
    · have e : i = ds.length := by omega
      subst e
      rw [List.drop_length] at w2
      exact .inl ⟨it.stop H2 sH, Ws.pur R2 w2⟩⟩⟩
def whileS : Nat → EM Bool → EM Fl → EM Fl
  | 0, _, _ => non
  | n + 1, t, b => bnd t fun k => if k then bnd b fun f => match f with
    | .nx => whileS n t b
    | .cnt => whileS n t b
    | .brk => pur .nx
    | .ret w => pur (.ret w)
    else pur .nx
end
end EV
namespace EV
open PySem L2
theorem get_set {α : Type} (l : List α) (n m : Nat) (x y : α) (h : (l.set n x)[m]? = some y) : (m = n ∧ x = y ∧ n < l.length) ∨ (m ≠ n ∧ l[m]? = some y) := by
  by_cases e : m = n
  · subst e
    have hlt : m < l.length := by
      have := (List.getElem?_eq_some_iff.mp h).1
      simpa using this
    rw [List.getElem?_set_self hlt] at h
    exact .inl ⟨rfl, Option.some.inj h, hlt⟩
  · rw [List.getElem?_set_ne (Ne.symm e)] at h
    exact .inr ⟨e, h⟩
section
variable {c : Kx} {ρ : Rho} {G H G' H' : Hp} {st : Store}
theorem OwnOk.sort {p : Addr × Addr} {o : OO} (h : OwnOk c ρ G H p o) : ∃ u, H p.1 = some u ∧ (∀ x, u ≠ .own x) := by
  cases o with
  | lst ws => obtain ⟨_, vs, e, _⟩ := h; exact ⟨_, e, fun x z => by cases z⟩
  | tup ws => obtain ⟨_, vs, e, _⟩ := h; exact ⟨_, e, fun x z => by cases z⟩
  | dct ks ws => obtain ⟨_, _, vs, e, _⟩ := h; exact ⟨_, e, fun x z => by cases z⟩
  | dtt ks ws => obtain ⟨_, _, vs, e, _⟩ := h; exact ⟨_, e, fun x z => by cases z⟩
  | ins k ks ws => obtain ⟨_, C, vs, _, _, e, _, _⟩ := h; exact ⟨_, e, fun x z => by cases z⟩
  | tab => obtain ⟨_, _, ps, e, _⟩ := h; exact ⟨_, e, fun x z => by cases z⟩
theorem OwnOk.second {p : Addr × Addr} {o : OO} (h : OwnOk c ρ G H p o) : p.2 = p.1 ∨ H p.2 = some (.own p.1) := by
  cases o with
  | lst ws => exact .inl h.1
  | tup ws => exact .inl h.1
  | dct ks ws => exact .inl h.1
  | dtt ks ws => exact .inl h.1
  | ins k ks ws => obtain ⟨_, C, vs, _, _, _, e, _⟩ := h; exact .inr e
  | tab => exact .inl h.1
theorem RS.apart (r : RS c ρ G H st) {n m : Nat} {p q : Addr × Addr} {o o' : OO} (hp : ρ[n]? = some p) (hq : ρ[m]? = some q) (ho : st[n]? = some (some o)) (ho' : st[m]? = some (some o')) (ne : n ≠ m) :
    p.1 ≠ q.1 ∧ p.1 ≠ q.2 ∧ p.2 ≠ q.1 ∧ p.2 ≠ q.2 := by
  have e1 : p.1 ≠ q.1 := fun e => ne (r.inj n m p q o o' hp hq ho ho' e)
  obtain ⟨_, _, a⟩ := r.own n p o hp ho
  obtain ⟨_, _, b⟩ := r.own m q o' hq ho'
  obtain ⟨u, hu, nu⟩ := a.sort
  obtain ⟨v, hv, nv⟩ := b.sort
  have e2 : p.1 ≠ q.2 := fun e => by
    rcases b.second with z | z
    · exact e1 (e.trans z)
    · rw [← e, hu] at z
      exact nu _ (Option.some.inj z)
  have e3 : p.2 ≠ q.1 := fun e => by
    rcases a.second with z | z
    · exact e1 (z.symm.trans e)
    · rw [e, hv] at z
      exact nv _ (Option.some.inj z)
  refine ⟨e1, e2, e3, fun e => ?_⟩
  rcases a.second with z | z
  · exact e2 (z.symm.trans e)
  · rcases b.second with y | y
    · exact e3 (e.trans y)
    · rw [e, y] at z
      have z := Option.some.inj z
      injection z with z
      exact e1 z.symm
theorem RS.dead (r : RS c ρ G H st) (n : Nat) : RS c ρ G H (st.set n none) where
  sub := r.sub
  len := by rw [List.length_set]; exact r.len
  own := fun m p o hp ho => by
    rcases get_set _ _ _ _ _ ho with ⟨_, z, _⟩ | ⟨_, z⟩
    · cases z
    · exact r.own m p o hp z
  inj := fun m m' p q o o' hp hq ho ho' e => by
    rcases get_set _ _ _ _ _ ho with ⟨_, z, _⟩ | ⟨_, z⟩
    · cases z
    · rcases get_set _ _ _ _ _ ho' with ⟨_, z', _⟩ | ⟨_, z'⟩
      · cases z'
      · exact r.inj m m' p q o o' hp hq z z' e
def frzG (H G : Hp) (p : Addr × Addr) : Hp := fun a => if a = p.1 ∨ a = p.2 then H a else G a
theorem frzG_same {p : Addr × Addr} (s : Same G H) : Same G (frzG H G p) := fun a u e => by
  unfold frzG
  split
  · exact s a u e
  · exact e
theorem frzG_sub {p : Addr × Addr} (s : Same G H) : Same (frzG H G p) H := fun a u e => by
  unfold frzG at e
  split at e
  · exact e
  · exact s a u e
theorem frzG_1 {p : Addr × Addr} : frzG H G p p.1 = H p.1 := if_pos (.inl rfl)
theorem frzG_2 {p : Addr × Addr} : frzG H G p p.2 = H p.2 := if_pos (.inr rfl)
theorem RS.frozen (r : RS c ρ G H st) {n : Nat} {p : Addr × Addr} {o : OO} (hp : ρ[n]? = some p) (ho : st[n]? = some (some o)) {ρ1 : Rho} {G1 : Hp} {st1 : Store} (S : Stp ρ G H (st.set n none) ρ G1 H st1) (r1 : RS c ρ G1 H st1) :
    Stp ρ G H st ρ (frzG H G1 p) H st1 ∧ RS c ρ (frzG H G1 p) H st1 := by
  have back : ∀ m o', st1[m]? = some (some o') → m ≠ n ∧ ∃ o, st[m]? = some (some o) := fun m o' h => by
    have hm : m < ρ.length := by
      have := (List.getElem?_eq_some_iff.mp h).1
      rw [r1.len]; exact this
    obtain ⟨o2, e⟩ := S.live m o' hm h
    rcases get_set _ _ _ _ _ e with ⟨_, z, _⟩ | ⟨ne, z⟩
    · cases z
    · exact ⟨ne, _, z⟩
  refine ⟨⟨S.same.trans (frzG_same r1.sub), Rle.refl _, fun m o' _ h => (back m o' h).2, fun a u h _ => h, fun a u h => ⟨u, h⟩, fun a u h h' => ?_, fun m q hm hq => absurd (List.getElem?_eq_some_iff.mp hq).1 (by omega)⟩, frzG_sub r1.sub, r1.len, fun m q o' hq h => ?_, r1.inj⟩
  · unfold frzG at h'
    split at h'
    · rename_i e
      exact .inr ⟨n, p, o, hp, ho, e⟩
    · rcases S.fresh a u h h' with z | ⟨m, q, o2, hq, h2, e⟩
      · exact .inl z
      · rcases get_set _ _ _ _ _ h2 with ⟨_, z, _⟩ | ⟨ne, z⟩
        · cases z
        · exact .inr ⟨m, q, o2, hq, z, e⟩
  · obtain ⟨ne, o2, h2⟩ := back m o' h
    obtain ⟨a1, a2, a3, a4⟩ := r.apart hq hp h2 ho ne
    obtain ⟨b1, b2, b3⟩ := r1.own m q o' hq h
    refine ⟨?_, ?_, b3.mono (Rle.refl _) (frzG_same r1.sub) (fun _ e => e) (fun _ e => e)⟩
    · unfold frzG
      rw [if_neg (by rintro (z | z); exact a1 z; exact a2 z)]
      exact b1
    · unfold frzG
      rw [if_neg (by rintro (z | z); exact a3 z; exact a4 z)]
      exact b2
end
def fzL (f : W → Store → Option (D × Store)) : List W → Store → Option (List D × Store)
  | [], st => some ([], st)
  | w :: ws, st => match f w st with
    | some (d, st1) => match fzL f ws st1 with
      | some (ds, st2) => some (d :: ds, st2)
      | none => none
    | none => none
def fz : Nat → W → Store → Option (D × Store)
  | _, .d x, st => some (x, st)
  | 0, .loc _, _ => none
  | k + 1, .loc n, st => match st[n]? with
    | some (some (.lst ws)) => match fzL (fz k) ws (st.set n none) with
      | some (ds, st1) => some (.lst ds, st1)
      | none => none
    | some (some (.dct ks ws)) => match fzL (fz k) ws (st.set n none) with
      | some (ds, st1) => some (.dct ks ds, st1)
      | none => none
    | some (some (.ins i ks ws)) => match fzL (fz k) ws (st.set n none) with
      | some (ds, st1) => some (.ins i ks ds, st1)
      | none => none
    | some (some (.tup ws)) => match fzL (fz k) ws (st.set n none) with
      | some (ds, st1) => some (.tup ds, st1)
      | none => none
    | some (some (.dtt ks ws)) => match fzL (fz k) ws (st.set n none) with
      | some (ds, st1) => some (.dtt ks ds, st1)
      | none => none
    | _ => none
theorem fz_d (k : Nat) (x : D) (st : Store) : fz k (.d x) st = some (x, st) := by cases k <;> rfl
theorem fzL_d (k : Nat) : ∀ (ds : List D) (st : Store), fzL (fz k) (ds.map .d) st = some (ds, st)
  | [], _ => rfl
  | d :: ds, st => by
    show (match fz k (.d d) st with | some (d, st1) => (match fzL (fz k) (ds.map .d) st1 with | some (ds, st2) => some (d :: ds, st2) | none => none) | none => none) = _
    rw [fz_d]
    simp only []
    rw [fzL_d k ds st]
section
variable {c : Kx} {H : Hp}
theorem fzL_ok {ρ : Rho} {f : W → Store → Option (D × Store)} (hf : ∀ (G : Hp) (st st' : Store) (w : W) (v : V) (d : D), RS c ρ G H st → RepW c ρ G w v → f w st = some (d, st') → ∃ G', Stp ρ G H st ρ G' H st' ∧ RS c ρ G' H st' ∧ RepD c G' d v) :
    ∀ (ws : List W) (vs : List V) (G : Hp) (st st' : Store) (ds : List D), RS c ρ G H st → RepWs c ρ G ws vs → fzL f ws st = some (ds, st') → ∃ G', Stp ρ G H st ρ G' H st' ∧ RS c ρ G' H st' ∧ RepDs c G' ds vs
  | [], _, G, st, st', ds, r, h, e => by
    have h : _ = [] := h
    subst h
    simp only [fzL, Option.some.injEq, Prod.mk.injEq] at e
    obtain ⟨rfl, rfl⟩ := e
    exact ⟨G, Stp.refl, r, .nil⟩
  | w :: ws, _, G, st, st', ds, r, ⟨v, vs, q, h, t⟩, e => by
    subst q
    unfold fzL at e
    split at e
    · rename_i d st1 e1
      split at e
      · rename_i ds2 st2 e2
        simp only [Option.some.injEq, Prod.mk.injEq] at e
        obtain ⟨rfl, rfl⟩ := e
        obtain ⟨G1, S1, r1, h1⟩ := hf G st st1 w v d r h e1
        obtain ⟨G2, S2, r2, h2⟩ := fzL_ok hf ws vs G1 st1 st2 ds2 r1 (t.mono (Rle.refl _) S1.same) e2
        exact ⟨G2, S1.trans r.len S2, r2, .cons (h1.mono S2.same) h2⟩
      · cases e
    · cases e
theorem fz_ok {ρ : Rho} : ∀ (k : Nat) (G : Hp) (st st' : Store) (w : W) (v : V) (d : D), RS c ρ G H st → RepW c ρ G w v → fz k w st = some (d, st') → ∃ G', Stp ρ G H st ρ G' H st' ∧ RS c ρ G' H st' ∧ RepD c G' d v
  | k, G, st, st', .d x, v, d, r, h, e => by
    rw [fz_d] at e
    simp only [Option.some.injEq, Prod.mk.injEq] at e
    obtain ⟨rfl, rfl⟩ := e
    exact ⟨G, Stp.refl, r, h⟩
  | 0, G, st, st', .loc n, v, d, r, h, e => by cases e
  | k + 1, G, st, st', .loc n, v, d, r, ⟨p, hp, hv⟩, e => by
    subst hv
    unfold fz at e
    split at e
    · rename_i ws ho
      split at e
      · rename_i ds st1 e1
        simp only [Option.some.injEq, Prod.mk.injEq] at e
        obtain ⟨rfl, rfl⟩ := e
        obtain ⟨_, _, q, vs, hH, hw⟩ := r.own n p _ hp ho
        obtain ⟨G1, S1, r1, h1⟩ := fzL_ok (fz_ok k) ws vs G _ _ ds (r.dead n) hw e1
        obtain ⟨S2, r2⟩ := r.frozen hp ho (ρ1 := ρ) S1 r1
        exact ⟨_, S2, r2, .lst (frzG_1.trans hH) (h1.mono (frzG_same r1.sub))⟩
      · cases e
    · rename_i ks ws ho
      split at e
      · rename_i ds st1 e1
        simp only [Option.some.injEq, Prod.mk.injEq] at e
        obtain ⟨rfl, rfl⟩ := e
        obtain ⟨_, _, q, hk, vs, hH, hw⟩ := r.own n p _ hp ho
        obtain ⟨G1, S1, r1, h1⟩ := fzL_ok (fz_ok k) ws vs G _ _ ds (r.dead n) hw e1
        obtain ⟨S2, r2⟩ := r.frozen hp ho (ρ1 := ρ) S1 r1
        exact ⟨_, S2, r2, .dct (.inl (frzG_1.trans hH)) (by rw [hk, ← hw.len, h1.len]) (h1.mono (frzG_same r1.sub))⟩
      · cases e
    · rename_i i ks ws ho
      split at e
      · rename_i ds st1 e1
        simp only [Option.some.injEq, Prod.mk.injEq] at e
        obtain ⟨rfl, rfl⟩ := e
        obtain ⟨_, _, hk, C, vs, hC, hF, hH, hO, hw⟩ := r.own n p _ hp ho
        obtain ⟨G1, S1, r1, h1⟩ := fzL_ok (fz_ok k) ws vs G _ _ ds (r.dead n) hw e1
        obtain ⟨S2, r2⟩ := r.frozen hp ho (ρ1 := ρ) S1 r1
        exact ⟨_, S2, r2, .ins hC hF (frzG_1.trans hH) (frzG_2.trans hO) (by rw [hk, ← hw.len, h1.len]) (h1.mono (frzG_same r1.sub))⟩
      · cases e
    · rename_i ws ho
      split at e
      · rename_i ds st1 e1
        simp only [Option.some.injEq, Prod.mk.injEq] at e
        obtain ⟨rfl, rfl⟩ := e
        obtain ⟨_, _, q, vs, hH, hw⟩ := r.own n p _ hp ho
        obtain ⟨G1, S1, r1, h1⟩ := fzL_ok (fz_ok k) ws vs G _ _ ds (r.dead n) hw e1
        obtain ⟨S2, r2⟩ := r.frozen hp ho (ρ1 := ρ) S1 r1
        exact ⟨_, S2, r2, .tup (SqT.of (frzG_1.trans hH)) (h1.mono (frzG_same r1.sub))⟩
      · cases e
    · rename_i ks ws ho
      split at e
      · rename_i ds st1 e1
        simp only [Option.some.injEq, Prod.mk.injEq] at e
        obtain ⟨rfl, rfl⟩ := e
        obtain ⟨_, _, q, hk, vs, hH, hw⟩ := r.own n p _ hp ho
        obtain ⟨G1, S1, r1, h1⟩ := fzL_ok (fz_ok k) ws vs G _ _ ds (r.dead n) hw e1
        obtain ⟨S2, r2⟩ := r.frozen hp ho (ρ1 := ρ) S1 r1
        exact ⟨_, S2, r2, .dtt (.inl (frzG_1.trans hH)) (by rw [hk, ← hw.len, h1.len]) (h1.mono (frzG_same r1.sub))⟩
      · cases e
    · cases e
end
def rpl (n : Nat) (d : D) : Option W → Option W
  | some (.loc m) => if m = n then some (.d d) else some (.loc m)
  | x => x
def frz (m : EM W) : EM W := bnd m fun w => match w with
  | .d x => pur (.d x)
  | .loc n => fun s => match fz 20 (.loc n) s.st with
    | some (d, st) => some (.ok (.d d), ⟨s.env.map (rpl n d), st⟩)
    | none => none
theorem EnvOk.rpl {c : Kx} {ρ : Rho} {G : Hp} {env : List (Option W)} {σ : L2.St} {n : Nat} {p : Addr × Addr} {d : D} (h : EnvOk c ρ G env σ) (hp : ρ[n]? = some p) (r : RepD c G d (.ref p.1)) : EnvOk c ρ G (env.map (rpl n d)) σ := fun i w e => by
  rw [List.getElem?_map] at e
  cases q : env[i]? with
  | none => rw [q] at e; cases e
  | some o =>
    rw [q] at e
    have e : EV.rpl n d o = some w := Option.some.inj e
    cases o with
    | none => cases e
    | some x =>
      obtain ⟨v, h1, h2⟩ := h i x q
      refine ⟨v, h1, ?_⟩
      cases x with
      | d y => have e : some (W.d y) = some w := e; cases e; exact h2
      | loc m =>
        have e : (if m = n then some (W.d d) else some (W.loc m)) = some w := e
        by_cases z : m = n
        · subst z
          rw [if_pos rfl] at e
          cases e
          obtain ⟨p', hp', hv⟩ := h2
          rw [hp] at hp'
          cases hp'
          subst hv
          exact r
        · rw [if_neg z] at e
          cases e
          exact h2
section
variable {c : Kx} {X : Cx} {U : WX} {e : Expr} {m : EM W}
theorem ee_frz (h : EE c X U e m) : EE c X U e (frz m) :=
  EE.mk1 h.K h.pe fun ρ G s σ H Q hR w => ⟨ρ, G, s, hR, (Wp.bnd hR w).imp fun x ρ1 G1 H1 s1 ⟨S1, R1, w1⟩ v rv => by
    cases x with
    | d x => exact Wp.pur R1 w1 v rv
    | loc n =>
      unfold Wp at w1
      cases e1 : fz 20 (.loc n) s1.st with
      | none => simp only [e1] at w1
      | some z =>
        obtain ⟨d, st⟩ := z
        simp only [e1] at w1
        obtain ⟨G2, S2, r2, h2⟩ := fz_ok 20 G1 s1.st st (.loc n) v d R1.rs rv e1
        obtain ⟨p, hp, hv⟩ := rv
        subst hv
        refine w1 ρ1 G2 H1 S2 ⟨r2, (R1.env.mono S2.rho S2.same).rpl hp h2, ?_⟩ _ h2
        show (List.map _ _).length = _
        rw [List.length_map]
        exact R1.len⟩
end
section
variable {c : Kx} {ρ : Rho} {G H : Hp} {st : Store}
theorem new_frozen (r : RS c ρ G H st) {p : Addr} {o : HO} (hp : H p = none) : Stp ρ G H st ρ (upd G p o) (upd H p o) st ∧ RS c ρ (upd G p o) (upd H p o) st := by
  have gp : G p = none := r.sub.free hp
  have sG : Same G (upd G p o) := fun a u e => by rw [upd_ne (ne_of_none e gp)]; exact e
  have sH : Same H (upd H p o) := fun a u e => by rw [upd_ne (ne_of_none e hp)]; exact e
  refine ⟨⟨sG, Rle.refl _, fun m o' _ h => ⟨o', h⟩, fun a u h _ => sH a u h, fun a u h => ⟨u, sH a u h⟩, fun a u h h' => ?_, fun m q hm hq => absurd (List.getElem?_eq_some_iff.mp hq).1 (by omega)⟩, fun a u e => ?_, r.len, fun m q o' hq h => ?_, r.inj⟩
  · by_cases e : a = p
    · rw [e]; exact .inl hp
    · rw [upd_ne e, h] at h'; cases h'
  · by_cases z : a = p
    · subst z; rw [upd_same] at e ⊢; exact e
    · rw [upd_ne z] at e ⊢; exact r.sub a u e
  · obtain ⟨b1, b2, b3⟩ := r.own m q o' hq h
    obtain ⟨⟨u1, t1⟩, ⟨u2, t2⟩⟩ := b3.there
    exact ⟨by rw [upd_ne (ne_of_none t1 hp)]; exact b1, by rw [upd_ne (ne_of_none t2 hp)]; exact b2, b3.mono (Rle.refl _) sG (fun o e => sH _ o e) (fun o e => sH _ o e)⟩
theorem new_own (r : RS c ρ G H st) {p : Addr × Addr} {o : OO} {H' : Hp} (h1 : H p.1 = none) (h2 : H p.2 = none) (s : Same H H') (ok : OwnOk c ρ G H' p o) : Stp ρ G H st (ρ ++ [p]) G H' (st ++ [some o]) ∧ RS c (ρ ++ [p]) G H' (st ++ [some o]) := by
  have g1 : G p.1 = none := r.sub.free h1
  have g2 : G p.2 = none := r.sub.free h2
  have le : Rle ρ (ρ ++ [p]) := fun n q e => by rw [List.getElem?_append_left (List.getElem?_eq_some_iff.mp e).1]; exact e
  have at1 : ∀ (n : Nat) (q : Addr × Addr), (ρ ++ [p])[n]? = some q → ρ[n]? = some q ∨ (n = ρ.length ∧ q = p) := fun n q e => by
    by_cases hn : n < ρ.length
    · rw [List.getElem?_append_left hn] at e; exact .inl e
    · rw [List.getElem?_append_right (by omega)] at e
      have hz : n - ρ.length = 0 := by
        have := (List.getElem?_eq_some_iff.mp e).1
        simp at this; omega
      rw [hz] at e
      exact .inr ⟨by omega, (Option.some.inj e).symm⟩
  have at2 : ∀ (n : Nat) (o' : Option OO), (st ++ [some o])[n]? = some o' → st[n]? = some o' ∨ (n = st.length ∧ o' = some o) := fun n o' e => by
    by_cases hn : n < st.length
    · rw [List.getElem?_append_left hn] at e; exact .inl e
    · rw [List.getElem?_append_right (by omega)] at e
      have hz : n - st.length = 0 := by
        have := (List.getElem?_eq_some_iff.mp e).1
        simp at this; omega
      rw [hz] at e
      exact .inr ⟨by omega, (Option.some.inj e).symm⟩
  have old : ∀ (n : Nat) (q : Addr × Addr) (o' : OO), (ρ ++ [p])[n]? = some q → (st ++ [some o])[n]? = some (some o') → (ρ[n]? = some q ∧ st[n]? = some (some o')) ∨ (n = st.length ∧ q = p ∧ o' = o) := fun n q o' hq ho => by
    rcases at1 n q hq with z | ⟨z, e⟩
    · rcases at2 n _ ho with y | ⟨y, e⟩
      · exact .inl ⟨z, y⟩
      · have := (List.getElem?_eq_some_iff.mp z).1
        rw [r.len] at this
        omega
    · rcases at2 n _ ho with y | ⟨y, e'⟩
      · have := (List.getElem?_eq_some_iff.mp y).1
        rw [← r.len] at this
        omega
      · exact .inr ⟨y, e, Option.some.inj e'⟩
  refine ⟨⟨Same.refl _, le, fun m o' hm h => ?_, fun a u h _ => s a u h, fun a u h => ⟨u, s a u h⟩, fun a u h h' => (by rw [h] at h'; cases h'), fun m q hm hq => ?_⟩, r.sub.trans s, by simp [r.len], fun m q o' hq h => ?_, fun m m' q q' o1 o2 hq hq' ho ho' e => ?_⟩
  · rcases at2 m _ h with z | ⟨z, _⟩
    · exact ⟨o', z⟩
    · rw [← r.len] at z; omega
  · rcases at1 m q hq with z | ⟨_, e⟩
    · have := (List.getElem?_eq_some_iff.mp z).1
      omega
    · rw [e]; exact ⟨h1, h2⟩
  · rcases old m q o' hq h with ⟨z, y⟩ | ⟨_, e, e'⟩
    · obtain ⟨b1, b2, b3⟩ := r.own m q o' z y
      exact ⟨b1, b2, b3.mono le (Same.refl _) (fun o e => s _ o e) (fun o e => s _ o e)⟩
    · subst e e'
      exact ⟨g1, g2, ok.mono le (Same.refl _) (fun _ e => e) (fun _ e => e)⟩
  · rcases old m q o1 hq ho with ⟨z, y⟩ | ⟨z, y, _⟩
    · rcases old m' q' o2 hq' ho' with ⟨z', y'⟩ | ⟨z', y', _⟩
      · exact r.inj m m' q q' o1 o2 z z' y y' e
      · obtain ⟨⟨u, t⟩, _⟩ := (r.own m q o1 z y).2.2.there
        rw [e, y', h1] at t
        cases t
    · rcases old m' q' o2 hq' ho' with ⟨z', y'⟩ | ⟨z', y', _⟩
      · obtain ⟨⟨u, t⟩, _⟩ := (r.own m' q' o2 z' y').2.2.there
        rw [← e, y, h1] at t
        cases t
      · omega
theorem written (r : RS c ρ G H st) {n : Nat} {p : Addr × Addr} {o o' : OO} {u : HO} (hp : ρ[n]? = some p) (ho : st[n]? = some (some o)) (ok : OwnOk c ρ G (upd H p.1 u) p o') : Stp ρ G H st ρ G (upd H p.1 u) (st.set n (some o')) ∧ RS c ρ G (upd H p.1 u) (st.set n (some o')) := by
  obtain ⟨g1, g2, b⟩ := r.own n p o hp ho
  have back : ∀ (m : Nat) (o1 : OO), (st.set n (some o'))[m]? = some (some o1) → (m = n ∧ o1 = o') ∨ (m ≠ n ∧ st[m]? = some (some o1)) := fun m o1 h => by
    rcases get_set _ _ _ _ _ h with ⟨e, z, _⟩ | ⟨ne, z⟩
    · exact .inl ⟨e, (Option.some.inj z).symm⟩
    · exact .inr ⟨ne, z⟩
  refine ⟨⟨Same.refl _, Rle.refl _, fun m o1 _ h => ?_, fun a w h hn => ?_, fun a w h => ?_, fun a w h h' => (by rw [h] at h'; cases h'), fun m q hm hq => absurd (List.getElem?_eq_some_iff.mp hq).1 (by omega)⟩, fun a w e => ?_, by rw [List.length_set]; exact r.len, fun m q o1 hq h => ?_, fun m m' q q' o1 o2 hq hq' h1 h2 e => ?_⟩
  · rcases back m o1 h with ⟨e, _⟩ | ⟨_, z⟩
    · exact ⟨o, by rw [e]; exact ho⟩
    · exact ⟨o1, z⟩
  · rw [upd_ne (Ne.symm (hn n p o hp ho).1)]; exact h
  · by_cases e : a = p.1
    · exact ⟨u, by rw [e, upd_same]⟩
    · exact ⟨w, by rw [upd_ne e]; exact h⟩
  · rw [upd_ne (ne_of_none e g1)]; exact r.sub a w e
  · rcases back m o1 h with ⟨e, e'⟩ | ⟨ne, z⟩
    · subst e e'
      rw [hp] at hq; cases hq
      exact ⟨g1, g2, ok⟩
    · obtain ⟨b1, b2, b3⟩ := r.own m q o1 hq z
      obtain ⟨a1, a2, a3, a4⟩ := r.apart hq hp z ho ne
      exact ⟨b1, b2, b3.mono (Rle.refl _) (Same.refl _) (fun w e => by rw [upd_ne a1]; exact e) (fun w e => by rw [upd_ne a3]; exact e)⟩
  · have oldn : ∀ (m : Nat) (o1 : OO), (st.set n (some o'))[m]? = some (some o1) → ∃ o2, st[m]? = some (some o2) := fun m o1 h => by
      rcases back m o1 h with ⟨e, _⟩ | ⟨_, z⟩
      · exact ⟨o, by rw [e]; exact ho⟩
      · exact ⟨o1, z⟩
    obtain ⟨x1, y1⟩ := oldn m o1 h1
    obtain ⟨x2, y2⟩ := oldn m' o2 h2
    exact r.inj m m' q q' x1 x2 hq hq' y1 y2 e
theorem called (r : RS c ρ G H st) {G' H' : Hp} (sH : Same H H') (sG : Same G G') (sub : Same G' H') (fr : ∀ a u, G a = none → G' a = some u → H a = none) : Stp ρ G H st ρ G' H' st ∧ RS c ρ G' H' st := by
  refine ⟨⟨sG, Rle.refl _, fun m o' _ h => ⟨o', h⟩, fun a u h _ => sH a u h, fun a u h => ⟨u, sH a u h⟩, fun a u h h' => .inl (fr a u h h'), fun m q hm hq => absurd (List.getElem?_eq_some_iff.mp hq).1 (by omega)⟩, sub, r.len, fun m q o' hq h => ?_, r.inj⟩
  obtain ⟨b1, b2, b3⟩ := r.own m q o' hq h
  obtain ⟨⟨u1, t1⟩, ⟨u2, t2⟩⟩ := b3.there
  have no : ∀ a u, H a = some u → G a = none → G' a = none := fun a u t g => by
    cases e : G' a with
    | none => rfl
    | some w =>
      have := fr a w g e
      rw [t] at this; cases this
  exact ⟨no _ _ t1 b1, no _ _ t2 b2, b3.mono (Rle.refl _) sG (fun o e => sH _ o e) (fun o e => sH _ o e)⟩
end
end EV
namespace EV
open PySem PySem.Spec PyProof.Rows L2
def initS (n : Nat) (ws : List W) (st : Store) : SS := ⟨ws.map some ++ List.replicate (n - ws.length) none, st⟩
def bodyF (n : Nat) (m : EM Fl) (ws : List W) (st : Store) : Option (Out W × Store) := match m (initS n ws st) with
  | some (.ok .nx, s) => some (.ok (.d .non), s.st)
  | some (.ok (.ret w), s) => some (.ok w, s.st)
  | some (.ok .brk, _) => none
  | some (.ok .cnt, _) => none
  | some (.ex c ks vs, s) => some (.ex c ks vs, s.st)
  | none => none
abbrev FF := List W → Store → Option (Out W × Store)
abbrev FP := List D → Option (Out D)
abbrev FO := List D → Option (Out OO)
def spF (c : Kx) (np : Nat) (F : FF) : Sp := fun vs H Q E => ∃ ρ G st ws, RS c ρ G H st ∧ RepWs c ρ G ws vs ∧ ws.length = np ∧ match F ws st with
  | none => False
  | some (.ok w, st') => ∀ v ρ' G' H', Stp ρ G H st ρ' G' H' st' → RS c ρ' G' H' st' → RepW c ρ' G' w v → Q v H'
  | some (.ex C ks es, st') => ∀ ρ' G' H' cls d, Stp ρ G H st ρ' G' H' st' → RS c ρ' G' H' st' → XOk c G' C ks es cls d → E cls d H'
structure Grown (G H G' H' : Hp) : Prop where
  sH : Same H H'
  sG : Same G G'
  sub : Same G' H'
  fr : ∀ a u, G a = none → G' a = some u → H a = none
def spP (c : Kx) (np : Nat) (F : FP) : Sp := fun vs H Q E => ∃ G ds, Same G H ∧ RepDs c G ds vs ∧ ds.length = np ∧ match F ds with
  | none => False
  | some (.ok d) => ∀ v G' H', Grown G H G' H' → RepD c G' d v → Q v H'
  | some (.ex C ks es) => ∀ G' H' cls d, Grown G H G' H' → XOk c G' C ks es cls d → E cls d H'
def spO (c : Kx) (np : Nat) (F : FO) : Sp := fun vs H Q E => ∃ G ds, Same G H ∧ RepDs c G ds vs ∧ ds.length = np ∧ match F ds with
  | none => False
  | some (.ok o) => ∀ p G' H', Grown G H G' H' → G' p.1 = none → G' p.2 = none → H p.1 = none → H p.2 = none → OwnOk c [] G' H' p o → Q (.ref p.1) H'
  | some (.ex C ks es) => ∀ G' H' cls d, Grown G H G' H' → XOk c G' C ks es cls d → E cls d H'
def pureP (F : FF) : FP := fun ds => match F (ds.map .d) [] with
  | some (.ok w, st) => match fz 20 w st with
    | some (d, _) => some (.ok d)
    | none => none
  | some (.ex C ks es, _) => some (.ex C ks es)
  | none => none
def OO.fz (o : OO) (st : Store) : Option OO := match o with
  | .lst ws => match fzL (EV.fz 20) ws st with
    | some (ds, _) => some (.lst (ds.map .d))
    | none => none
  | .dct ks ws => match fzL (EV.fz 20) ws st with
    | some (ds, _) => some (.dct ks (ds.map .d))
    | none => none
  | .dtt ks ws => match fzL (EV.fz 20) ws st with
    | some (ds, _) => some (.dtt ks (ds.map .d))
    | none => none
  | .ins i ks ws => match fzL (EV.fz 20) ws st with
    | some (ds, _) => some (.ins i ks (ds.map .d))
    | none => none
  | .tup _ => none
  | .tab => none
def pureO (F : FF) : FO := fun ds => match F (ds.map .d) [] with
  | some (.ok (.loc n), st) => match st[n]? with
    | some (some o) => match o.fz (st.set n none) with
      | some o' => some (.ok o')
      | none => none
    | _ => none
  | some (.ok (.d _), _) => none
  | some (.ex C ks es, _) => some (.ex C ks es)
  | none => none
section
variable {c : Kx} {ρ : Rho} {G H G1 H1 : Hp} {st : Store}
theorem RS.nil (s : Same G H) : RS c [] G H [] := ⟨s, rfl, fun n p o h => (by simp at h), fun n m p q o o' h => (by simp at h)⟩
theorem Stp.grown (r : RS c ρ G1 H1 st) (S : Stp [] G H [] ρ G1 H1 st) : Grown G H G1 H1 :=
  ⟨fun a u h => S.keep a u h fun n p o e => (by simp at e), S.same, r.sub, fun a u h h' => by
    rcases S.fresh a u h h' with z | ⟨n, p, o, e, _⟩
    · exact z
    · simp at e⟩
theorem spP_of {np : Nat} {F : FF} {vs : List V} {Q : VK} {E : XK} (h : spP c np (pureP F) vs H Q E) : spF c np F vs H Q E := by
  obtain ⟨G, ds, sG, r, hl, h⟩ := h
  refine ⟨[], G, [], ds.map .d, RS.nil sG, RepWs.ofD r, by rw [List.length_map]; exact hl, ?_⟩
  unfold pureP at h
  cases e : F (ds.map .d) [] with
  | none => simp only [e] at h
  | some p =>
    obtain ⟨o, st'⟩ := p
    cases o with
    | ok w =>
      simp only [e] at h ⊢
      cases e2 : fz 20 w st' with
      | none => simp only [e2] at h
      | some q =>
        obtain ⟨d, st2⟩ := q
        simp only [e2] at h
        intro v ρ' G' H' S' r' rw'
        obtain ⟨G2, S2, r2, h2⟩ := fz_ok 20 G' st' st2 w v d r' rw' e2
        exact h v G2 H' ((S'.trans rfl S2).grown r2) h2
    | ex C ks es =>
      simp only [e] at h ⊢
      intro ρ' G' H' cls d S' r' x
      exact h G' H' cls d (S'.grown r') x
theorem OO.fz_ok {n : Nat} {p : Addr × Addr} {o o' : OO} (r : RS c ρ G H st) (hp : ρ[n]? = some p) (ho : st[n]? = some (some o)) (e : o.fz (st.set n none) = some o') :
    ∃ G' st', Stp ρ G H (st.set n none) ρ G' H st' ∧ RS c ρ G' H st' ∧ OwnOk c [] G' H p o' := by
  obtain ⟨_, _, ok⟩ := r.own n p o hp ho
  unfold OO.fz at e
  cases o with
  | tup ws => cases e
  | tab => cases e
  | lst ws =>
    simp only at e
    split at e
    · rename_i ds st1 e1
      cases e
      obtain ⟨q, vs, hH, hw⟩ := ok
      obtain ⟨G1, S1, r1, h1⟩ := fzL_ok (EV.fz_ok 20) ws vs G _ _ ds (r.dead n) hw e1
      exact ⟨G1, st1, S1, r1, q, vs, hH, RepWs.ofD h1⟩
    · cases e
  | dct ks ws =>
    simp only at e
    split at e
    · rename_i ds st1 e1
      cases e
      obtain ⟨q, hk, vs, hH, hw⟩ := ok
      obtain ⟨G1, S1, r1, h1⟩ := fzL_ok (EV.fz_ok 20) ws vs G _ _ ds (r.dead n) hw e1
      exact ⟨G1, st1, S1, r1, q, by rw [List.length_map, hk, ← hw.len, h1.len], vs, hH, RepWs.ofD h1⟩
    · cases e
  | dtt ks ws =>
    simp only at e
    split at e
    · rename_i ds st1 e1
      cases e
      obtain ⟨q, hk, vs, hH, hw⟩ := ok
      obtain ⟨G1, S1, r1, h1⟩ := fzL_ok (EV.fz_ok 20) ws vs G _ _ ds (r.dead n) hw e1
      exact ⟨G1, st1, S1, r1, q, by rw [List.length_map, hk, ← hw.len, h1.len], vs, hH, RepWs.ofD h1⟩
    · cases e
  | ins i ks ws =>
    simp only at e
    split at e
    · rename_i ds st1 e1
      cases e
      obtain ⟨hk, C, vs, hC, hF, hH, hO, hw⟩ := ok
      obtain ⟨G1, S1, r1, h1⟩ := fzL_ok (EV.fz_ok 20) ws vs G _ _ ds (r.dead n) hw e1
      exact ⟨G1, st1, S1, r1, by rw [List.length_map, hk, ← hw.len, h1.len], C, vs, hC, hF, hH, hO, RepWs.ofD h1⟩
    · cases e
theorem spF.len {np : Nat} {F : FF} {vs : List V} {Q : VK} {E : XK} (h : spF c np F vs H Q E) : vs.length = np := by
  obtain ⟨ρ, G, st, ws, _, r, hl, _⟩ := h
  rw [r.len, hl]
end
section
variable {P : Program} {w : World} {mg : Str → Option Value} {base : Heap} {c : Kx}
abbrev cxE (P : Program) (w : World) (c : Kx) (mg : Str → Option Value) (base : Heap) (N : List Str) (qual : Str) (st : Stmt) (f : Addr) (cdv : Value) (A : Around) (outer : List Env) (s : Shared) (H : Hp) (E : XK) : Cx :=
  cxOf (L2.CX P w) P w c.K mg base N qual (defScope st) f cdv A outer s H E
abbrev wx (E : XK) : WX := fun cls d _ H => E cls d H
theorem fn_full {x qual : Str} {sd : Stmt} {f : Addr} {fd : FuncData} {N ps : List Str} {k : Nat} {m : EM Fl} (F : Fun c.K x qual sd f fd) (S : FnScope N ps (defScope sd)) (hn : ps.length ≤ N.length)
    (hb : ∀ (cdv : Value) (A : Around) (outer : List Env) (s : Shared) (H : Hp) (E : XK), Room k (A.deeper (envOfC qual (defScope sd) s.heap.objs.size f cdv)) → ESs c (cxE P w c mg base N qual sd f cdv A outer s H E) (wx E) (defBody sd) m) :
    FnOk P w c.K mg base (L2.CX P w) (k + 1) f fd ps (spF c ps.length (bodyF N.length m)) := by
  refine F.okX S (fun vs H Q E h => h.len) (fun cdv A outer s H vs Q E hr h => ⟨_, (hb cdv A outer s H E hr).ps, ?_⟩)
  obtain ⟨ρ, G, st, ws, r, rw', hl, h⟩ := h
  have hv : vs.length = ws.length := rw'.len
  have hR : R c ρ G (L2.start N vs) H (initS N.length ws st) := by
    refine ⟨r, fun i w e => ?_, ?_⟩
    · unfold initS at e
      unfold L2.start
      simp only at e
      by_cases hi : i < ws.length
      · rw [List.getElem?_append_left (by simpa using hi), List.getElem?_map] at e
        cases q : ws[i]? with
        | none => rw [q] at e; cases e
        | some y =>
          rw [q] at e
          cases e
          obtain ⟨v, h1, h2⟩ := rw'.get q
          exact ⟨v, by rw [List.getElem?_append_left (by simp [hv]; exact hi), List.getElem?_map, h1]; rfl, h2⟩
      · rw [List.getElem?_append_right (by simpa using hi), List.getElem?_replicate] at e
        split at e <;> cases e
    · unfold initS L2.start
      simp [hv]
  refine ⟨ρ, G, initS N.length ws st, hR, ?_⟩
  unfold bodyF at h
  unfold Ws
  cases e : m (initS N.length ws st) with
  | none => simp only [e] at h
  | some p =>
    obtain ⟨o, s'⟩ := p
    cases o with
    | ok fl =>
      cases fl with
      | nx =>
        simp only [e] at h
        exact fun ρ' G' σ' H' S' R' => h _ ρ' G' H' S' R'.rs .non
      | ret w =>
        simp only [e] at h
        exact fun ρ' G' σ' H' S' R' v rv => h v ρ' G' H' S' R'.rs rv
      | brk => simp only [e] at h
      | cnt => simp only [e] at h
    | ex C ks es =>
      simp only [e] at h
      exact fun ρ' G' σ' H' cls d S' R' x => h ρ' G' H' cls d S' R'.rs x
end
end EV
namespace EV
open PySem PySem.Spec PyProof.Rows L2
def thr {α : Type} (C : Nat) (ks : List Nat) (es : List D) : EM α := fun s => some (.ex C ks es, s)
def allD : List W → Option (List D)
  | [] => some []
  | .d x :: r => (allD r).map (x :: ·)
  | .loc _ :: _ => none
theorem allD_map : ∀ (ds : List D), allD (ds.map .d) = some ds
  | [] => rfl
  | d :: ds => by
    show (allD (ds.map .d)).map (d :: ·) = _
    rw [allD_map ds]; rfl
theorem allD_eq : ∀ {ws : List W} {ds : List D}, allD ws = some ds → ws = ds.map .d
  | [], _, e => by cases e; rfl
  | .d x :: r, ds, e => by
    unfold allD at e
    cases q : allD r with
    | none => rw [q] at e; cases e
    | some es => rw [q] at e; cases e; rw [allD_eq q]; rfl
  | .loc _ :: _, _, e => by cases e
def treesE (m : EM (List W)) : EM (List D) := bnd m fun ws => match allD ws with
  | some ds => pur ds
  | none => non
def outP (o : Option (Out D)) : EM W := match o with
  | some (.ok d) => pur (.d d)
  | some (.ex C ks es) => thr C ks es
  | none => non
def callP (F : FP) (m : EM (List W)) : EM W := bnd (treesE m) fun ds => outP (F ds)
def outO (o : Option (Out OO)) : EM W := match o with
  | some (.ok o) => fun s => some (.ok (.loc s.st.length), ⟨s.env, s.st ++ [some o]⟩)
  | some (.ex C ks es) => thr C ks es
  | none => non
def callO (F : FO) (m : EM (List W)) : EM W := bnd (treesE m) fun ds => outO (F ds)
def outF (o : Option (Out W × Store)) : EM W := match o with
  | some (.ok w, st) => fun s => some (.ok w, ⟨s.env, st⟩)
  | some (.ex C ks es, st) => fun s => some (.ex C ks es, ⟨s.env, st⟩)
  | none => non
def callF (F : FF) (m : EM (List W)) : EM W := bnd m fun ws => fun s => outF (F ws s.st) s
def SpA (c : Kx) (sp : Sp) (f : List W → EM W) : Prop :=
  ∀ (U : WX) (ρ : Rho) (G H : Hp) (σ : L2.St) (s : SS) (ws : List W) (vs : List V) (Q : VK), R c ρ G σ H s → RepWs c ρ G ws vs → Wp c U (f ws) ρ G σ H s (fun w ρ' G' H' _ => ∀ v, RepW c ρ' G' w v → Q v H') → sp vs H Q (WE U σ)
def gP (np : Nat) (F : FP) (ws : List W) : EM W := if ws.length = np then callP F (pur ws) else non
def gO (np : Nat) (F : FO) (ws : List W) : EM W := if ws.length = np then callO F (pur ws) else non
def gF (np : Nat) (F : FF) (ws : List W) : EM W := if ws.length = np then callF F (pur ws) else non
section
variable {c : Kx} {np : Nat}
theorem spA_P {F : FP} : SpA c (spP c np F) (gP np F) := fun U ρ G H σ s ws vs Q hR r w => by
  unfold gP at w
  by_cases hl : ws.length = np
  · rw [if_pos hl] at w
    cases e : allD ws with
    | none => exact w.none (by unfold callP treesE; rw [bnd_pur, e]; rfl)
    | some ds =>
      have e2 : callP F (pur ws) = outP (F ds) := by unfold callP treesE; rw [bnd_pur, e]; rfl
      rw [e2] at w
      obtain rfl := allD_eq e
      refine ⟨G, ds, hR.rs.sub, RepWs.toD r, by rw [List.length_map] at hl; exact hl, ?_⟩
      cases q : F ds with
      | none => rw [q] at w; exact w.none rfl
      | some o =>
        rw [q] at w
        cases o with
        | ok d =>
          intro v G' H' g rd
          obtain ⟨S, r'⟩ := called hR.rs g.sH g.sG g.sub g.fr
          exact Wp.okE (s' := s) (a := W.d d) rfl w ρ G' H' S ⟨r', hR.env.mono S.rho S.same, hR.len⟩ v rd
        | ex C ks es =>
          intro G' H' cls d g x
          obtain ⟨S, r'⟩ := called hR.rs g.sH g.sG g.sub g.fr
          exact w ρ G' H' cls d S ⟨r', hR.env.mono S.rho S.same, hR.len⟩ x
  · rw [if_neg hl] at w
    exact w.none rfl
theorem spA_F {F : FF} : SpA c (spF c np F) (gF np F) := fun U ρ G H σ s ws vs Q hR r w => by
  unfold gF at w
  by_cases hl : ws.length = np
  · rw [if_pos hl] at w
    refine ⟨ρ, G, s.st, ws, hR.rs, r, hl, ?_⟩
    have e2 : callF F (pur ws) s = outF (F ws s.st) s := rfl
    unfold Wp at w
    rw [e2] at w
    cases q : F ws s.st with
    | none => rw [q] at w; exact w
    | some p =>
      obtain ⟨o, st'⟩ := p
      rw [q] at w
      cases o with
      | ok x => exact fun v ρ' G' H' S r' rv => w ρ' G' H' S ⟨r', hR.env.mono S.rho S.same, hR.len⟩ v rv
      | ex C ks es => exact fun ρ' G' H' cls d S r' x => w ρ' G' H' cls d S ⟨r', hR.env.mono S.rho S.same, hR.len⟩ x
  · rw [if_neg hl] at w
    exact w.none rfl
end
structure FnS (P : Program) (w : World) (K : PySem.W.Frag) (mg : Str → Option Value) (base : Heap) (k : Nat) (f : Addr) (sp : Sp) (dvs : List V) : Prop where
  ex : ∃ (fd : FuncData) (ps : List Str) (ds : List Value), FnOk P w K mg base (L2.CX P w) k f fd ps sp ∧ PySem.W.keepIn K (.ref f) = true ∧ Binds K fd ps ds ∧ Vals dvs ds
theorem FnS.mono {P : Program} {w : World} {K : PySem.W.Frag} {mg : Str → Option Value} {base : Heap} {j k : Nat} {f : Addr} {sp : Sp} {dvs : List V} (h : FnS P w K mg base j f sp dvs) (hk : j ≤ k) : FnS P w K mg base k f sp dvs :=
  let ⟨fd, ps, ds, F, a, b, d⟩ := h.ex
  ⟨fd, ps, ds, F.mono hk, a, b, d⟩
theorem FnS.imp {P : Program} {w : World} {K : PySem.W.Frag} {mg : Str → Option Value} {base : Heap} {k : Nat} {f : Addr} {sp sp' : Sp} {dvs : List V} (h : FnS P w K mg base k f sp dvs) (q : ∀ vs H Q E, sp' vs H Q E → sp vs H Q E) : FnS P w K mg base k f sp' dvs :=
  let ⟨fd, ps, ds, F, a, b, d⟩ := h.ex
  ⟨fd, ps, ds, F.imp q, a, b, d⟩
section
variable {X : Cx} {c : Kx} {U : WX} {k : Nat} {f C : Addr} {sp : Sp} {dvs : List V} {x mn : Str} {p pos apos : Pos} {e o : Expr} {es : List Expr} {t : TA}
theorem run_g {pins : List (Addr × Obj)} {σ : L2.St} {H : Hp} {s : Shared} {Q : VK} {us : List Value} {vs : List V} (F : FnS X.prog X.w X.K X.mg X.base k f sp dvs) (hr : Room k X.A) (tk : Takes X U)
    (I : L2.Inv X pins σ H s) (r : Vals vs us) (h : sp (vs ++ dvs) H Q (WE U σ)) : wpAny (model X.prog X.w) X.A (call (.ref f) us) (EP X pins σ Q) X.xe s := by
  obtain ⟨fd, ps, ds, F, _, hb, hd⟩ := F.ex
  have r2 := r.append hd
  have hl : (us ++ ds).length = ps.length := by
    rw [← r2.length]
    exact F.len _ _ _ _ h
  refine wpAny_call (codeAny_mono (F.run X.A X.stack s H ⟨us, []⟩ (us ++ ds) (vs ++ dvs) Q (WE U σ) hr I.env0 (hb s us I.kIn hl) r2 h) fun res s' hq => ?_)
  match res, hq with
  | .error e, hq => exact passAt tk σ pins H s e s' I hq
  | .ok (.ret u), hq => exact I.after hq
  | .ok .next, hq => exact hq.elim
  | .ok .brk, hq => exact hq.elim
  | .ok .cont, hq => exact hq.elim
def tCl (sp : Sp) (dvs : List V) (U : WX) (t : TA) : TE := fun σ H Q => t σ H fun vs H1 => sp (vs ++ dvs) H1 Q (WE U σ)
theorem pe_cl (F : FnS X.prog X.w X.K X.mg X.base k f sp dvs) (hr : Room k X.A) (tk : Takes X U) (hg : Gl X x) (hm : X.mg x = some (.ref f)) (ha : PA X (e :: es) t)
    (hdb : (x == ("__debug__" : Str)) = false := by decide) (he : starEach (e :: es) X.env = (false, eval e X.env) :: starEach es X.env := by rfl) (hpl : (backTo pos (starEach es X.env)).any (·.1) = false := by rfl) :
    PE X (.Call (.Name x p) (e :: es) [] pos) (tCl sp dvs U t) := ⟨fun pins s σ H Q I h => by
  obtain ⟨fd, ps, ds, _, hk, _⟩ := id F.ex
  refine wpAny_Call_Name_kw (ld_glob I hg hm (PySem.W.callWith_K (h₀ := X.base) I.ok.mod.kin hk ?_ he hpl) hdb)
  exact thn (ha.run pos pins s σ H _ I h) fun us s1 ⟨vs, H1, I1, r, q⟩ => ⟨I1.kIn, run_g F hr tk I1 r q⟩⟩
def callE (g : List W → EM W) (dws : List W) (m : EM (List W)) : EM W := bnd m fun ws => g (ws ++ dws)
def DefOk (c : Kx) (dws : List W) (dvs : List V) : Prop := ∀ (ρ : Rho) (G : Hp), RepWs c ρ G dws dvs
theorem DefOk.nil : DefOk c [] [] := fun _ _ => rfl
theorem wp_cl {g : List W → EM W} {m : EM (List W)} {dws : List W} (hs : SpA c sp g) (hd : DefOk c dws dvs) {ρ : Rho} {G H : Hp} {σ : L2.St} {s : SS} {Q : VK} (hR : R c ρ G σ H s) (w : Wp c U (callE g dws m) ρ G σ H s (fun w ρ' G' H' _ => ∀ v, RepW c ρ' G' w v → Q v H')) :
    tCl sp dvs U (tA c U m) σ H Q :=
  ⟨ρ, G, s, hR, (Wp.bnd hR w).imp fun ws ρ1 G1 H1 s1 ⟨S1, R1, w1⟩ vs rvs => hs U ρ1 G1 H1 σ s1 (ws ++ dws) (vs ++ dvs) Q R1 (rvs.app (hd ρ1 G1)) w1⟩
variable {g : List W → EM W} {dws : List W} {m : EM (List W)} {mo : EM W}
theorem ee_call (hs : SpA c sp g) (hd : DefOk c dws dvs) (F : FnS X.prog X.w X.K X.mg X.base k f sp dvs) (hr : Room k X.A) (tk : Takes X U) (hg : Gl X x) (hm : X.mg x = some (.ref f)) (ha : EA c X U (e :: es) m)
    (hdb : (x == ("__debug__" : Str)) = false := by decide) (he : starEach (e :: es) X.env = (false, eval e X.env) :: starEach es X.env := by rfl) (hpl : (backTo pos (starEach es X.env)).any (·.1) = false := by rfl) :
    EE c X U (.Call (.Name x p) (e :: es) [] pos) (callE g dws m) :=
  EE.mk1 ha.K (pe_cl F hr tk hg hm ha.pa hdb he hpl) fun ρ G s σ H Q hR w => wp_cl hs hd hR w
end
end EV
namespace EV
open PySem PySem.Spec PyProof.Rows L2
def clsOf (st : Store) : W → Option Nat
  | .d (.ins k _ _) => some k
  | .d _ => none
  | .loc n => match st[n]? with
    | some (some (.ins k _ _)) => some k
    | _ => none
def methE (tbl : List (Nat × (List W → EM W))) (mo : EM W) (m : EM (List W)) : EM W := bnd mo fun o => fun s => match clsOf s.st o with
  | none => none
  | some k => match tbl.lookup k with
    | none => none
    | some g => bnd m (fun ws => g (o :: ws)) s
section
variable {c : Kx} {ρ : Rho} {G H : Hp} {st : Store}
end
structure MethOk (c : Kx) (X : Cx) (mn : Str) (k : Nat) (g : List W → EM W) : Prop where
  ex : ∃ (C f : Addr) (sp : Sp) (dvs : List V) (dws : List W) (g0 : List W → EM W) (j : Nat), c.ct[k]? = some C ∧ Meth c.K C mn f ∧ FnS X.prog X.w X.K X.mg X.base j f sp dvs ∧ Room j X.A ∧ SpA c sp g0 ∧ DefOk c dws dvs ∧ g = fun ws => g0 (ws ++ dws)
section
variable {X : Cx} {c : Kx} {U : WX} {k j : Nat} {f C : Addr} {sp : Sp} {dvs : List V} {x mn : Str} {p pos apos : Pos} {e o : Expr} {es : List Expr} {t : TA} {mo : EM W} {m : EM (List W)} {tbl : List (Nat × (List W → EM W))}
structure CFun (K : PySem.W.Frag) (C : Addr) (mn : Str) (f : Addr) : Prop where
  ex : ∃ mc, ClX.CRead K C mc ∧ PySem.W.findCls K (.ref C) mc mn = some (.val (.ref f))
def tMk (C : Addr) (sp : Sp) (dvs : List V) (U : WX) (t : TA) : TE := fun σ H Q => t σ H fun vs H1 => ∀ x dx, H1 x = none → H1 dx = none → dx ≠ x →
  sp (.ref x :: (vs ++ dvs)) (upd (upd H1 dx (.own x)) x (.ins C dx [])) (fun v H2 => v = .non ∧ Q (.ref x) H2) (WE U σ)
def mkP (k np : Nat) (F : FF) (dws : List W) (m : EM (List W)) : EM W := bnd (treesE m) fun ds => match (if (.loc 0 :: (ds.map .d ++ dws)).length = np then F (.loc 0 :: (ds.map .d ++ dws)) [some (.ins k [] [])] else none) with
  | some (.ok (.d .non), st) => match fz 20 (.loc 0) st with
    | some (d, _) => pur (.d d)
    | none => non
  | some (.ex C ks es, _) => thr C ks es
  | _ => non
def mkO (k np : Nat) (F : FF) (dws : List W) (m : EM (List W)) : EM W := bnd m fun ws => fun s => match (if (.loc s.st.length :: (ws ++ dws)).length = np then F (.loc s.st.length :: (ws ++ dws)) (s.st ++ [some (.ins k [] [])]) else none) with
  | some (.ok (.d .non), st) => some (.ok (.loc s.st.length), ⟨s.env, st⟩)
  | some (.ex C ks es, st) => some (.ex C ks es, ⟨s.env, st⟩)
  | _ => none
variable {np : Nat} {F : FF} {dws : List W}
theorem wp_trees {α : Type} {f : List D → EM α} {ρ : Rho} {G H : Hp} {σ : L2.St} {s : SS} {kk : α → Rho → Hp → Hp → SS → Prop} (hR : R c ρ G σ H s) (w : Wp c U (bnd (treesE m) f) ρ G σ H s kk) :
    Wp c U m ρ G σ H s (fun ws ρ1 G1 H1 s1 => ∃ ds, ws = ds.map .d ∧ Stp ρ G H s.st ρ1 G1 H1 s1.st ∧ R c ρ1 G1 σ H1 s1 ∧ Wp c U (f ds) ρ1 G1 σ H1 s1 kk) := by
  unfold treesE at w
  rw [bnd_assoc] at w
  refine (Wp.bnd hR w).imp fun ws ρ1 G1 H1 s1 ⟨S1, R1, w1⟩ => ?_
  cases e : allD ws with
  | none => exact w1.none (by simp only [e]; rfl)
  | some ds =>
    simp only [e] at w1
    exact ⟨ds, allD_eq e, S1, R1, w1⟩
end
end EV
namespace EV
open PySem PySem.Spec PyProof.Rows L2
section
variable {c : Kx} {ρ : Rho} {G H : Hp} {st : Store}
def listW (st : Store) : W → Option (List W)
  | .d (.lst ds) => some (ds.map .d)
  | .d (.fls ds) => some (ds.map .d)
  | .d _ => none
  | .loc n => match st[n]? with
    | some (some (.lst ws)) => some ws
    | _ => none
def lst1W (st : Store) : W → Option (List W)
  | .d (.lst ds) => some (ds.map .d)
  | .d _ => none
  | .loc n => match st[n]? with
    | some (some (.lst ws)) => some ws
    | _ => none
def tupW : W → Option (List W)
  | .d (.tup ds) => some (ds.map .d)
  | _ => none
theorem lst1W_ok {w : W} {v : V} {ws : List W} (r : RS c ρ G H st) (rv : RepW c ρ G w v) (e : lst1W st w = some ws) : ∃ a vs, v = .ref a ∧ H a = some (.lst vs) ∧ RepWs c ρ G ws vs := by
  cases w with
  | d x =>
    cases x with
    | lst ds =>
      cases e
      cases rv with
      | lst h hr => exact ⟨_, _, rfl, r.sub _ _ h, RepWs.ofD hr⟩
    | _ => cases e
  | loc n =>
    unfold lst1W at e
    cases ho : st[n]? with
    | none => simp only [ho] at e; cases e
    | some o =>
      cases o with
      | none => simp only [ho] at e; cases e
      | some o =>
        cases o with
        | lst ws' =>
          simp only [ho] at e
          cases e
          obtain ⟨p, hp, hv⟩ := rv
          obtain ⟨_, _, q, vs, hH, hw⟩ := r.own n p _ hp ho
          exact ⟨p.1, vs, hv, hH, hw⟩
        | dct _ _ => simp only [ho] at e; cases e
        | dtt _ _ => simp only [ho] at e; cases e
        | tab => simp only [ho] at e; cases e
        | ins _ _ _ => simp only [ho] at e; cases e
        | tup _ => simp only [ho] at e; cases e
theorem listW_ok {w : W} {v : V} {ws : List W} (r : RS c ρ G H st) (rv : RepW c ρ G w v) (e : listW st w = some ws) : ∃ a vs, v = .ref a ∧ SqL c.K H a vs ∧ RepWs c ρ G ws vs := by
  cases w with
  | d x =>
    cases x with
    | lst ds =>
      cases e
      cases rv with
      | lst h hr => exact ⟨_, _, rfl, SqL.of (r.sub _ _ h), RepWs.ofD hr⟩
    | fls ds =>
      cases e
      cases rv with
      | fls h hr => exact ⟨_, _, rfl, r.sub.seq h, RepWs.ofD hr⟩
    | _ => cases e
  | loc n =>
    obtain ⟨a, vs, h1, h2, h3⟩ := lst1W_ok r rv (show lst1W st (.loc n) = some ws from e)
    exact ⟨a, vs, h1, SqL.of h2, h3⟩
theorem tupW_ok {w : W} {v : V} {ws : List W} (r : RS c ρ G H st) (rv : RepW c ρ G w v) (e : tupW w = some ws) : ∃ a vs, v = .ref a ∧ SqT c.K H a vs ∧ RepWs c ρ G ws vs := by
  cases w with
  | d x =>
    cases x with
    | tup ds =>
      cases e
      cases rv with
      | tup h hr => exact ⟨_, _, rfl, SqT.same r.sub h, RepWs.ofD hr⟩
    | _ => cases e
  | loc n => cases e
def newL (own : Bool) (ws : List W) (st : Store) : Option (W × Store) := if own then some (.loc st.length, st ++ [some (.lst ws)]) else match allD ws with
  | some ds => some (.d (.lst ds), st)
  | none => none
theorem newL_ok {own : Bool} {ws : List W} {vs : List V} {w : W} {st' : Store} {p : Addr} (r : RS c ρ G H st) (rv : RepWs c ρ G ws vs) (e : newL own ws st = some (w, st')) (hp : H p = none) :
    ∃ ρ' G', Stp ρ G H st ρ' G' (upd H p (.lst vs)) st' ∧ RS c ρ' G' (upd H p (.lst vs)) st' ∧ RepW c ρ' G' w (.ref p) := by
  unfold newL at e
  cases own with
  | true =>
    simp only [if_true] at e
    cases e
    obtain ⟨S, r'⟩ := new_own (p := (p, p)) (o := .lst ws) (H' := upd H p (.lst vs)) r hp hp (fun a u e => by rw [upd_ne (ne_of_none e hp)]; exact e) ⟨rfl, vs, upd_same, rv⟩
    exact ⟨_, _, S, r', (p, p), by rw [← r.len, List.getElem?_append_right (Nat.le_refl _)]; simp, rfl⟩
  | false =>
    simp only [Bool.false_eq_true, if_false] at e
    cases q : allD ws with
    | none => simp only [q] at e; cases e
    | some ds =>
      simp only [q] at e
      cases e
      obtain rfl := allD_eq q
      obtain ⟨S, r'⟩ := new_frozen (o := .lst vs) r hp
      exact ⟨_, _, S, r', .lst upd_same ((RepWs.toD rv).mono S.same)⟩
theorem Stp.toks : Stp ρ G H st ρ G H st := Stp.refl
end
def S1 (c : Kx) (r : V → Hp → VK → Prop) (f : Store → W → Option (W × Store)) : Prop :=
  ∀ (ρ : Rho) (G H : Hp) (st : Store) (x w : W) (st' : Store) (vx : V) (Q : VK), RS c ρ G H st → RepW c ρ G x vx → f st x = some (w, st') →
    (∀ v ρ' G' H', Stp ρ G H st ρ' G' H' st' → RS c ρ' G' H' st' → RepW c ρ' G' w v → Q v H') → r vx H Q
def SN (c : Kx) (r : List V → Hp → VK → Prop) (f : Store → List W → Option (W × Store)) : Prop :=
  ∀ (ρ : Rho) (G H : Hp) (st : Store) (xs : List W) (w : W) (st' : Store) (vs : List V) (Q : VK), RS c ρ G H st → RepWs c ρ G xs vs → f st xs = some (w, st') →
    (∀ v ρ' G' H', Stp ρ G H st ρ' G' H' st' → RS c ρ' G' H' st' → RepW c ρ' G' w v → Q v H') → r vs H Q
theorem S2.or {c : Kx} {r r' : R2} {f g : Store → W → W → Option (W × Store)} (h1 : S2 c r f) (h2 : S2 c r' g) : S2 c (fun x y H Q => r x y H Q ∨ r' x y H Q) (fun st x y => match f st x y with | some z => some z | none => g st x y) :=
  fun ρ G H st x y w st' vx vy Q r rx ry e q => by
    cases e1 : f st x y with
    | some z =>
      simp only [e1] at e
      cases e
      exact .inl (h1 ρ G H st x y w st' vx vy Q r rx ry e1 q)
    | none =>
      simp only [e1] at e
      exact .inr (h2 ρ G H st x y w st' vx vy Q r rx ry e q)
theorem SN.or {c : Kx} {r r' : List V → Hp → VK → Prop} {f g : Store → List W → Option (W × Store)} (h1 : SN c r f) (h2 : SN c r' g) : SN c (fun x H Q => r x H Q ∨ r' x H Q) (fun st x => match f st x with | some z => some z | none => g st x) :=
  fun ρ G H st x w st' vx Q r rx e q => by
    cases e1 : f st x with
    | some z =>
      simp only [e1] at e
      cases e
      exact .inl (h1 ρ G H st x w st' vx Q r rx e1 q)
    | none =>
      simp only [e1] at e
      exact .inr (h2 ρ G H st x w st' vx Q r rx e q)
def intF (f : Int → Int → Option D) (st : Store) : W → W → Option (W × Store)
  | .d (.int i), .d (.int j) => match f i j with
    | some d => some (.d d, st)
    | none => none
  | _, _ => none
theorem s2_ints {c : Kx} {C : Int → Int → Prop} {g : Int → Int → V} {f : Int → Int → Option D} (h : ∀ i j d, f i j = some d → C i j ∧ ∀ G, RepD c G d (g i j)) : S2 c (rI C g) (intF f) := fun ρ G H st x y w st' vx vy Q r rx ry e q => by
  unfold intF at e
  split at e
  · rename_i i j
    cases rx
    cases ry
    cases e1 : f i j with
    | none => simp only [e1] at e; cases e
    | some d =>
      simp only [e1] at e
      cases e
      obtain ⟨h1, h2⟩ := h i j d e1
      exact ⟨i, j, rfl, rfl, h1, q _ ρ G H Stp.refl r (h2 G)⟩
  · cases e
theorem s2_ints0 {c : Kx} {g : Int → Int → V} {f : Int → Int → Option D} (h : ∀ i j d, f i j = some d → ∀ G, RepD c G d (g i j)) : S2 c (rI0 g) (intF f) := fun ρ G H st x y w st' vx vy Q r rx ry e q => by
  obtain ⟨i, j, a, b, _, z⟩ := s2_ints (C := fun _ _ => True) (g := g) (fun i j d e => ⟨trivial, h i j d e⟩) ρ G H st x y w st' vx vy Q r rx ry e q
  exact ⟨i, j, a, b, z⟩
def small (i : Int) : Bool := decide (-18446744073709551616 < i) && decide (i < 18446744073709551616)
def mulI (i j : Int) : Option D := if small i || small j then some (.int (i * j)) else none
def divI (i j : Int) : Option D := if 0 < j ∧ j < 1000000000000000000000000000000 then some (.int (i / j)) else none
def modI (i j : Int) : Option D := if 0 < j then some (.int (i % j)) else none
def powI (i j : Int) : Option D := if 0 ≤ j ∧ j ≤ 1000 ∧ 0 ≤ i ∧ i < 1000 then some (.int (i ^ j.toNat)) else none
def shrI (i j : Int) : Option D := if 0 ≤ j then some (.int (i / 2 ^ j.toNat)) else none
theorem s2_add {c : Kx} : S2 c (rI0 fun i j => .int (i + j)) (intF fun i j => some (.int (i + j))) := s2_ints0 fun i j d e G => by cases e; exact .int _
def subA : Store → W → W → Option (W × Store) := intF fun i j => some (.int (i - j))
theorem s2_sub {c : Kx} : S2 c (rI0 fun i j => .int (i - j)) subA := s2_ints0 fun i j d e G => by cases e; exact .int _
theorem s2_mul {c : Kx} : S2 c (rI CMul fun i j => .int (i * j)) (intF mulI) := s2_ints fun i j d e => by
  unfold mulI at e
  split at e
  · rename_i h
    cases e
    refine ⟨?_, fun G => .int _⟩
    rcases Bool.or_eq_true_iff.mp h with h | h
    · unfold small at h
      simp only [Bool.and_eq_true, decide_eq_true_eq] at h
      exact .inl ⟨h.1, h.2⟩
    · unfold small at h
      simp only [Bool.and_eq_true, decide_eq_true_eq] at h
      exact .inr ⟨h.1, h.2⟩
  · cases e
theorem log2_lt {n k : Nat} (h : n < 2 ^ k) (hk : 0 < k) : n.log2 < k := by
  by_cases h0 : n = 0
  · subst h0
    simpa using hk
  · exact (Nat.log2_lt h0).mpr h
theorem s2_div {c : Kx} : S2 c (rI CDivW fun i j => .int (i / j)) (intF divI) := s2_ints fun i j d e => by
  unfold divI at e
  split at e
  · rename_i h
    cases e
    refine ⟨⟨h.1, ?_⟩, fun G => .int _⟩
    have : j.natAbs < 2 ^ 100 := by
      have h2 := h.2
      have h1 := h.1
      omega
    exact Nat.lt_of_lt_of_le (log2_lt this (by decide)) (by decide)
  · cases e
theorem s2_mod {c : Kx} : S2 c (rI (fun _ j => 0 < j) fun i j => .int (i % j)) (intF modI) := s2_ints fun i j d e => by
  unfold modI at e
  split at e
  · rename_i h
    cases e
    exact ⟨h, fun G => .int _⟩
  · cases e
theorem s2_pow {c : Kx} : S2 c (rI CPow fun i j => .int (i ^ j.toNat)) (intF powI) := s2_ints fun i j d e => by
  unfold powI at e
  split at e
  · rename_i h
    cases e
    exact ⟨⟨h.1, by omega, by omega⟩, fun G => .int _⟩
  · cases e
theorem s2_shr {c : Kx} : S2 c (rI (fun _ j => 0 ≤ j) fun i j => .int (i / 2 ^ j.toNat)) (intF shrI) := s2_ints fun i j d e => by
  unfold shrI at e
  split at e
  · rename_i h
    cases e
    exact ⟨h, fun G => .int _⟩
  · cases e
def andA : Store → W → W → Option (W × Store) := intF fun i j => some (.int (Builtin.bitAnd i j))
theorem s2_and {c : Kx} : S2 c (rI0 fun i j => .int (Builtin.bitAnd i j)) andA := s2_ints0 fun i j d e G => by cases e; exact .int _
def ltA : Store → W → W → Option (W × Store) := intF fun i j => some (.bl (decide (i < j)))
theorem s2_lt {c : Kx} : S2 c (rI0 fun i j => .bl (decide (i < j))) ltA := s2_ints0 fun i j d e G => by cases e; exact .bl _
def leA : Store → W → W → Option (W × Store) := intF fun i j => some (.bl (decide (i ≤ j)))
def gtA : Store → W → W → Option (W × Store) := intF fun i j => some (.bl (decide (j < i)))
theorem s2_gt {c : Kx} : S2 c (rI0 fun i j => .bl (decide (j < i))) gtA := s2_ints0 fun i j d e G => by cases e; exact .bl _
def geA : Store → W → W → Option (W × Store) := intF fun i j => some (.bl (decide (j ≤ i)))
def strs2 (f : Str → Str → Option D) (st : Store) : W → W → Option (W × Store)
  | .d (.str i), .d (.str j) => match f i j with
    | some d => some (.d d, st)
    | none => none
  | _, _ => none
def catS (i j : Str) : Option D := if i.length + j.length ≤ 16777216 then some (.str (i ++ j)) else none
theorem s2_cat {c : Kx} : S2 c (fun x y H Q => ∃ i j, x = .str i ∧ y = .str j ∧ i.length + j.length ≤ sizeLine ∧ Q (.str (i ++ j)) H) (strs2 catS) := fun ρ G H st x y w st' vx vy Q r rx ry e q => by
  unfold strs2 at e
  split at e
  · rename_i i j
    cases rx
    cases ry
    unfold catS at e
    split at e
    · rename_i d h
      split at h
      · rename_i h
        cases h
        cases e
        exact ⟨i, j, rfl, rfl, by rw [sizeLine_eq]; assumption, q _ ρ G H Stp.refl r (.str _)⟩
      · cases h
    · cases e
  · cases e
def catL (own : Bool) (st : Store) (x y : W) : Option (W × Store) := match lst1W st x, lst1W st y with
  | some a, some b => if a.length + b.length ≤ 16777216 then newL own (a ++ b) st else none
  | _, _ => none
theorem s2_catL {c : Kx} (own : Bool) : S2 c rCat (catL own) := fun ρ G H st x y w st' vx vy Q r rx ry e q => by
  unfold catL at e
  split at e
  · rename_i a b ea eb
    split at e
    · rename_i hl
      obtain ⟨p1, v1, rfl, h1, r1⟩ := lst1W_ok r rx ea
      obtain ⟨p2, v2, rfl, h2, r2⟩ := lst1W_ok r ry eb
      refine ⟨p1, p2, v1, v2, rfl, rfl, h1, h2, by rw [r1.len, r2.len, sizeLine_eq]; exact hl, fun p hp => ?_⟩
      obtain ⟨ρ', G', S, r', rw'⟩ := newL_ok r (r1.app r2) e hp
      exact q _ ρ' G' _ S r' rw'
    · cases e
  · cases e
def catT (st : Store) (x y : W) : Option (W × Store) := match x, y with
  | .d (.tup a), .d (.tup b) => if a.length + b.length ≤ 16777216 then some (.d (.tup (a ++ b)), st) else none
  | _, _ => none
theorem s2_catT {c : Kx} : S2 c (rCatA c.K) catT := fun ρ G H st x y w st' vx vy Q r rx ry e q => by
  unfold catT at e
  split at e
  · rename_i a b
    split at e
    · rename_i hl
      cases e
      cases rx with
      | tup h1 r1 =>
        cases ry with
        | tup h2 r2 =>
          rename_i p1 v1 p2 v2
          have l1 := r1.len
          have l2 := r2.len
          refine ⟨p1, p2, v1, v2, rfl, rfl, SqT.same r.sub h1, SqT.same r.sub h2, by rw [r1.len, r2.len, sizeLine_eq]; exact hl, fun e => ?_, fun _ e => ?_, fun _ _ p hp => ?_⟩
          · subst e
            have : a = [] := List.length_eq_zero_iff.mp (by simpa using l1.symm)
            subst this
            exact q _ ρ _ _ Stp.refl r (.tup h2 r2)
          · subst e
            have : b = [] := List.length_eq_zero_iff.mp (by simpa using l2.symm)
            subst this
            rw [List.append_nil] at q
            exact q _ ρ _ _ Stp.refl r (.tup h1 r1)
          · obtain ⟨S, r'⟩ := new_frozen (o := .tup (v1 ++ v2)) r hp
            exact q _ ρ _ _ S r' (.tup (SqT.of upd_same) ((r1.app r2).mono S.same))
    · cases e
  · cases e
def addA (own : Bool) (st : Store) (x y : W) : Option (W × Store) := match x, y with
  | .d (.int i), .d (.int j) => some (.d (.int (i + j)), st)
  | .d (.str i), .d (.str j) => if i.length + j.length ≤ 16777216 then some (.d (.str (i ++ j)), st) else none
  | .d (.tup a), .d (.tup b) => if a.length + b.length ≤ 16777216 then some (.d (.tup (a ++ b)), st) else none
  | x, y => catL own st x y
theorem op_addA {X : Cx} : OpR X (binaryOp .Add) (fun x y H Q => rI0 (fun i j => .int (i + j)) x y H Q ∨ (∃ i j, x = .str i ∧ y = .str j ∧ i.length + j.length ≤ sizeLine ∧ Q (.str (i ++ j)) H) ∨ rCatA X.K x y H Q ∨ rCat x y H Q) :=
  op_add.or (op_add_str.or (op_catA.or op_cat))
theorem s2_addA {c : Kx} (own : Bool) : S2 c (fun x y H Q => rI0 (fun i j => .int (i + j)) x y H Q ∨ (∃ i j, x = .str i ∧ y = .str j ∧ i.length + j.length ≤ sizeLine ∧ Q (.str (i ++ j)) H) ∨ rCatA c.K x y H Q ∨ rCat x y H Q) (addA own) := fun ρ G H st x y w st' vx vy Q r rx ry e q => by
  unfold addA at e
  split at e
  · exact .inl (s2_add ρ G H st _ _ w st' vx vy Q r rx ry e q)
  · refine .inr (.inl (s2_cat ρ G H st _ _ w st' vx vy Q r rx ry ?_ q))
    unfold strs2 catS
    simp only
    split at e
    · rename_i h; rw [if_pos h]; exact e
    · cases e
  · exact .inr (.inr (.inl (s2_catT ρ G H st _ _ w st' vx vy Q r rx ry e q)))
  · exact .inr (.inr (.inr (s2_catL own ρ G H st _ _ w st' vx vy Q r rx ry e q)))
def rMulS : R2 := fun x y H Q => ∃ z n, x = .str z ∧ y = .int n ∧ MulOk z n ∧ Q (.str (Txt.mul z n)) H
theorem op_mulS {X : Cx} : OpR X (binaryOp .Mult) rMulS := fun pins s σ H x y v u Q I rx ry h => by
  obtain ⟨z, n, rfl, rfl, ok, q⟩ := h
  obtain ⟨t, rfl⟩ := rx
  obtain ⟨t', rfl⟩ := ry
  exact SB.mul ok fun t2 k => ⟨.str _, H, I.tok k, ⟨_, rfl⟩, q⟩
def mulS (st : Store) (x y : W) : Option (W × Store) := match x, y with
  | .d (.str z), .d (.int n) => if z.length ≤ 1000 ∧ n ≤ 1000 ∧ 0 ≤ n then some (.d (.str (Txt.mul z n)), st) else none
  | _, _ => none
theorem mulOk_small {z : Str} {n : Int} (h : z.length ≤ 1000 ∧ n ≤ 1000 ∧ 0 ≤ n) : MulOk z n := by
  obtain ⟨h1, h2, h3⟩ := h
  refine ⟨?_, fun hn _ => ?_, fun hn _ => ?_⟩
  · simp only [Bool.or_eq_false_iff, decide_eq_false_iff_not]
    omega
  · have e : (2 ^ 63 - 1 : Int) / 1000 ≤ (2 ^ 63 - 1) / n := by
      have hn0 : 0 < n := by omega
      rw [Int.le_ediv_iff_mul_le hn0]
      calc (2 ^ 63 - 1 : Int) / 1000 * n ≤ (2 ^ 63 - 1 : Int) / 1000 * 1000 := Int.mul_le_mul_of_nonneg_left h2 (by decide)
        _ ≤ 2 ^ 63 - 1 := by decide
    have e2 : (2 ^ 63 - 1 : Int) / 1000 = 9223372036854775 := by decide
    omega
  · have hm : z.length * n.toNat ≤ 1000 * 1000 := Nat.mul_le_mul h1 (by omega)
    unfold Builtin.Str.tooLong
    rw [decide_eq_false_iff_not]
    have := sizeLine_eq
    omega
theorem s2_mulS {c : Kx} : S2 c rMulS mulS := fun ρ G H st x y w st' vx vy Q r rx ry e q => by
  unfold mulS at e
  split at e
  · rename_i z n
    split at e
    · rename_i h
      cases e
      cases rx
      cases ry
      exact ⟨z, n, rfl, rfl, mulOk_small h, q _ ρ G H Stp.refl r (.str _)⟩
    · cases e
  · cases e
def mulL (own : Bool) (st : Store) (x y : W) : Option (W × Store) := match lst1W st x, y with
  | some ws, .d (.int n) => if ws.length ≤ 1000 ∧ n ≤ 1000 ∧ 0 ≤ n then newL own (List.replicate n.toNat ws).flatten st else none
  | _, _ => none
theorem RepWs.rep {c : Kx} {ρ : Rho} {G : Hp} {ws : List W} {vs : List V} (h : RepWs c ρ G ws vs) : ∀ n : Nat, RepWs c ρ G (List.replicate n ws).flatten (List.replicate n vs).flatten
  | 0 => rfl
  | n + 1 => by
    rw [List.replicate_succ, List.replicate_succ, List.flatten_cons, List.flatten_cons]
    exact h.app (RepWs.rep h n)
theorem s2_mulL {c : Kx} (own : Bool) : S2 c rRep (mulL own) := fun ρ G H st x y w st' vx vy Q r rx ry e q => by
  unfold mulL at e
  split at e
  · rename_i ws n ew
    split at e
    · rename_i h
      cases ry
      obtain ⟨p1, v1, rfl, h1, r1⟩ := lst1W_ok r rx ew
      refine ⟨p1, n, v1, rfl, rfl, h1, by omega, by omega, ?_, fun p hp => ?_⟩
      · rw [r1.len, sizeLine_eq]
        exact Nat.le_trans (Nat.mul_le_mul h.1 (by omega : n.toNat ≤ 1000)) (by decide)
      · obtain ⟨ρ', G', S, r', rw'⟩ := newL_ok r (r1.rep n.toNat) e hp
        exact q _ ρ' G' _ S r' rw'
    · cases e
  · cases e
def mulA (own : Bool) (st : Store) (x y : W) : Option (W × Store) := match x, y with
  | .d (.int i), .d (.int j) => if small i || small j then some (.d (.int (i * j)), st) else if i.natAbs.log2 + j.natAbs.log2 < 1000000 then some (.d (.int (i * j)), st) else none
  | .d (.str z), .d (.int n) => if z.length ≤ 1000 ∧ n ≤ 1000 ∧ 0 ≤ n then some (.d (.str (Txt.mul z n)), st) else none
  | x, y => mulL own st x y
def mulWI (i j : Int) : Option D := if i.natAbs.log2 + j.natAbs.log2 < 1000000 then some (.int (i * j)) else none
theorem s2_mulWI {c : Kx} : S2 c (rI CMulW fun i j => .int (i * j)) (intF mulWI) := s2_ints fun i j d e => by
  unfold mulWI at e
  split at e
  · rename_i h
    cases e
    exact ⟨h, fun G => .int _⟩
  · cases e
theorem op_mulA {X : Cx} : OpR X (binaryOp .Mult) (fun x y H Q => (rI CMul (fun i j => .int (i * j)) x y H Q ∨ rI CMulW (fun i j => .int (i * j)) x y H Q) ∨ rMulS x y H Q ∨ rRep x y H Q) := (op_mul.or op_mulW).or (op_mulS.or op_rep)
theorem s2_mulA {c : Kx} (own : Bool) : S2 c (fun x y H Q => (rI CMul (fun i j => .int (i * j)) x y H Q ∨ rI CMulW (fun i j => .int (i * j)) x y H Q) ∨ rMulS x y H Q ∨ rRep x y H Q) (mulA own) := fun ρ G H st x y w st' vx vy Q r rx ry e q => by
  unfold mulA at e
  split at e
  · split at e
    · rename_i h
      refine .inl (.inl (s2_mul ρ G H st _ _ w st' vx vy Q r rx ry ?_ q))
      unfold intF mulI
      simp only
      rw [if_pos h]; exact e
    · split at e
      · rename_i h
        refine .inl (.inr (s2_mulWI ρ G H st _ _ w st' vx vy Q r rx ry ?_ q))
        unfold intF mulWI
        simp only
        rw [if_pos h]; exact e
      · cases e
  · exact .inr (.inl (s2_mulS ρ G H st _ _ w st' vx vy Q r rx ry e q))
  · exact .inr (.inr (s2_mulL own ρ G H st _ _ w st' vx vy Q r rx ry e q))
end EV
namespace EV
open PySem PySem.Spec PyProof.Rows L2
mutual
def toPy : D → PyData
  | .non => .none
  | .bl b => .bool b
  | .int i => .int i
  | .str x => .str x
  | .lst xs => .list (toPys xs)
  | .fls xs => .list (toPys xs)
  | .tup xs => .tuple (toPys xs)
  | .ref _ => .dict []
  | .ty _ => .dict []
  | .dct _ _ => .dict []
  | .dtt _ _ => .dict []
  | .clo _ _ => .dict []
  | .ins _ _ _ => .dict []
  | .exc _ _ _ => .dict []
def toPys : List D → List PyData
  | [] => []
  | d :: ds => toPy d :: toPys ds
end
def okD (d : D) : Bool := SeqAt.shaped (toPy d)
def D.eq (d e : D) : Bool := PyData.eqv (toPy d) (toPy e)
section
variable {c : Kx} {ρ : Rho} {G H : Hp} {st : Store}
mutual
theorem dp_of (s : Same G H) {d : D} {v : V} (h : (toPy d).canLay0 = true) (r : RepD c G d v) : Dp c.K H v (toPy d) := by
  cases r with
  | non => exact .non
  | bl b => exact .bl b
  | int i => exact .int i
  | str x => exact .str x
  | ref a => cases h
  | ty n => cases h
  | lst hl r => exact .lst (SqL.of (s _ _ hl)) (dps_of s h r)
  | fls hl r => exact .lst (s.seq hl) (dps_of s h r)
  | tup hl r => exact .tup (SqT.same s hl) (dps_of s h r)
  | dct _ _ _ => cases h
  | dtt _ _ _ => cases h
  | clo _ _ _ _ _ => cases h
  | ins _ _ _ _ _ _ => cases h
  | exc0 _ _ => cases h
  | excD _ _ _ _ _ => cases h
theorem dps_of (s : Same G H) {ds : List D} {vs : List V} (h : PyData.canLayAll0 (toPys ds) = true) (r : RepDs c G ds vs) : DpAll c.K H vs (toPys ds) := by
  cases r with
  | nil => exact .nil
  | cons r t =>
    have h := Bool.and_eq_true_iff.mp h
    exact .cons (dp_of s h.1 r) (dps_of s h.2 t)
end
theorem toPys_map : ∀ ds : List D, toPys ds = ds.map toPy
  | [] => rfl
  | d :: ds => by show toPy d :: toPys ds = _; rw [toPys_map ds]; rfl
theorem canLay_ok {d : D} (h : okD d = true) : (toPy d).canLay0 = true := (Bool.and_eq_true_iff.mp h).1
def snapD (st : Store) (w : W) : Option D := match fz 20 w st with
  | some (d, _) => some d
  | none => none
theorem snap_d (st : Store) (d : D) : snapD st (.d d) = some d := by unfold snapD; rw [fz_d]
theorem snap_ok {w : W} {v : V} {d : D} (r : RS c ρ G H st) (rv : RepW c ρ G w v) (e : snapD st w = some d) : ∃ G', Same G' H ∧ RepD c G' d v := by
  unfold snapD at e
  cases q : fz 20 w st with
  | none => simp only [q] at e; cases e
  | some p =>
    obtain ⟨d', st'⟩ := p
    simp only [q] at e
    cases e
    obtain ⟨G', _, r', h'⟩ := fz_ok 20 G st st' w v d r rv q
    exact ⟨G', r'.sub, h'⟩
def eqB (st : Store) (x y : W) : Option Bool := match x, y with
  | .d (.int i), .d (.int j) => some (decide (i = j))
  | .d (.str i), .d (.str j) => some (decide (i = j))
  | x, y => match snapD st x, snapD st y with
    | some a, some b => if okD a && okD b then some (D.eq a b) else none
    | _, _ => none
def eqA (st : Store) (x y : W) : Option (W × Store) := match eqB st x y with
  | some b => some (.d (.bl b), st)
  | none => none
def neA (st : Store) (x y : W) : Option (W × Store) := match eqB st x y with
  | some b => some (.d (.bl (!b)), st)
  | none => none
theorem eqB_ok {x y : W} {vx vy : V} {b : Bool} (r : RS c ρ G H st) (rx : RepW c ρ G x vx) (ry : RepW c ρ G y vy) (e : eqB st x y = some b) :
    (scal vx vy = true ∧ decide (vx = vy) = b) ∨ ∃ d e, Dp c.K H vx d ∧ Dp c.K H vy e ∧ SeqAt.shaped d = true ∧ SeqAt.shaped e = true ∧ PyData.eqv d e = b := by
  unfold eqB at e
  split at e
  · cases e
    cases rx
    cases ry
    refine .inl ⟨rfl, ?_⟩
    rw [Bool.eq_iff_iff]
    simp
  · cases e
    cases rx
    cases ry
    refine .inl ⟨rfl, ?_⟩
    rw [Bool.eq_iff_iff]
    simp
  · cases ea : snapD st x with
    | none => simp only [ea] at e; cases e
    | some a =>
      cases eb : snapD st y with
      | none => simp only [ea, eb] at e; cases e
      | some b' =>
        simp only [ea, eb] at e
        split at e
        · rename_i h
          cases e
          have h := Bool.and_eq_true_iff.mp h
          obtain ⟨G1, s1, r1⟩ := snap_ok r rx ea
          obtain ⟨G2, s2, r2⟩ := snap_ok r ry eb
          exact .inr ⟨_, _, dp_of s1 (canLay_ok h.1) r1, dp_of s2 (canLay_ok h.2) r2, h.1, h.2, rfl⟩
        · cases e
theorem op_eqA {X : Cx} (hu : X.A.units + 64 < cLine) : OpR X (compareOp .Eq) (fun x y H Q => rEq x y H Q ∨ rEqD X.K x y H Q) := op_eq.or (op_eqD hu)
theorem op_neA {X : Cx} (hu : X.A.units + 64 < cLine) : OpR X (compareOp .NotEq) (fun x y H Q => rNe x y H Q ∨ rNeD X.K x y H Q) := op_ne.or (op_neD hu)
theorem s2_eqA : S2 c (fun x y H Q => rEq x y H Q ∨ rEqD c.K x y H Q) eqA := fun ρ G H st x y w st' vx vy Q r rx ry e q => by
  unfold eqA at e
  cases eb : eqB st x y with
  | none => simp only [eb] at e; cases e
  | some b =>
    simp only [eb] at e
    cases e
    have fin := q (.bl b) ρ G H Stp.refl r (.bl b)
    rcases eqB_ok r rx ry eb with ⟨h1, h2⟩ | ⟨d, e, h1, h2, h3, h4, h5⟩
    · exact .inl ⟨h1, by rw [h2]; exact fin⟩
    · exact .inr ⟨d, e, h1, h2, h3, h4, by rw [h5]; exact fin⟩
theorem s2_neA : S2 c (fun x y H Q => rNe x y H Q ∨ rNeD c.K x y H Q) neA := fun ρ G H st x y w st' vx vy Q r rx ry e q => by
  unfold neA at e
  cases eb : eqB st x y with
  | none => simp only [eb] at e; cases e
  | some b =>
    simp only [eb] at e
    cases e
    have fin := q (.bl (!b)) ρ G H Stp.refl r (.bl (!b))
    rcases eqB_ok r rx ry eb with ⟨h1, h2⟩ | ⟨d, e, h1, h2, h3, h4, h5⟩
    · exact .inl ⟨h1, by rw [h2]; exact fin⟩
    · exact .inr ⟨d, e, h1, h2, h3, h4, by rw [h5]; exact fin⟩
def flatD : D → Bool
  | .non => true
  | .bl _ => true
  | .int _ => true
  | .str _ => true
  | _ => false
def inS (i z : Str) : Bool := match i.cps.toList with
  | [k] => decide (k ∈ z.cps.toList)
  | _ => !(Builtin.Str.occurrences z i 0 z.length 1).isEmpty
def seqD : D → Option (List D)
  | .lst ds => some ds
  | .fls ds => some ds
  | .tup ds => some ds
  | _ => none
def notTup : D → Bool
  | .tup _ => false
  | _ => true
def inB (st : Store) (x y : W) : Option Bool := match x, y with
  | .d (.str i), .d (.str z) => some (inS i z)
  | x, y => match snapD st x, snapD st y with
    | some a, some b => match seqD b with
      | some ds => if flatD a && ds.all flatD then some (ds.any fun e => D.eq e a) else if okD a && okD b && notTup b then some (ds.any fun e => D.eq e a) else none
      | none => none
    | _, _ => none
def inA (st : Store) (x y : W) : Option (W × Store) := match inB st x y with
  | some b => some (.d (.bl b), st)
  | none => none
def ninA (st : Store) (x y : W) : Option (W × Store) := match inB st x y with
  | some b => some (.d (.bl (!b)), st)
  | none => none
theorem flat_rep {a : D} {v : V} (h : flatD a = true) (r : RepD c G a v) : flatV v = true := by cases r <;> first | rfl | cases h
theorem eqV_rep {G' : Hp} {a b : D} {v u : V} (ha : flatD a = true) (hb : flatD b = true) (r : RepD c G a v) (q : RepD c G' b u) : eqV v u = D.eq a b := by
  cases a <;> first | (exfalso; exact Bool.false_ne_true ha) | (cases b <;> first | (exfalso; exact Bool.false_ne_true hb) | (cases r; cases q; simp [eqV, D.eq, toPy, PyData.eqv]))
theorem inV_rep {a : D} {v : V} {G' : Hp} (ha : flatD a = true) (r : RepD c G' a v) : ∀ {ds : List D} {vs : List V}, ds.all flatD = true → RepDs c G ds vs → vs.all flatV = true ∧ inV v vs = ds.any fun e => D.eq e a
  | _, _, _, .nil => ⟨rfl, rfl⟩
  | _, _, h, .cons h1 t => by
    simp only [List.all_cons, Bool.and_eq_true] at h
    obtain ⟨i1, i2⟩ := inV_rep ha r h.2 t
    refine ⟨by simp only [List.all_cons, Bool.and_eq_true]; exact ⟨flat_rep h.1 h1, i1⟩, ?_⟩
    have e := eqV_rep h.1 ha h1 r
    show (eqV _ v || inV v _) = (D.eq _ a || _)
    rw [e, i2]
    try rfl
theorem any_map {α β : Type} (f : α → β) (p : β → Bool) (l : List α) : (l.map f).any p = l.any fun x => p (f x) := List.any_map
def rInA (K : PySem.W.Frag) : R2 := fun x y H Q => (∃ k z, x = .str ⟨#[k]⟩ ∧ y = .str z ∧ Q (.bl (decide (k ∈ z.cps.toList))) H) ∨ (∃ i j, x = .str i ∧ y = .str j ∧ Q (.bl (!(Builtin.Str.occurrences j i 0 j.length 1).isEmpty)) H) ∨ rIn K false x y H Q ∨ rInD K x y H Q
def rNotInA (K : PySem.W.Frag) : R2 := fun x y H Q => (∃ k z, x = .str ⟨#[k]⟩ ∧ y = .str z ∧ Q (.bl (!decide (k ∈ z.cps.toList))) H) ∨ (∃ i j, x = .str i ∧ y = .str j ∧ Q (.bl (!(!(Builtin.Str.occurrences j i 0 j.length 1).isEmpty))) H) ∨ rIn K true x y H Q ∨ rNotInD K x y H Q
theorem op_inA {X : Cx} (hu : X.A.units + 65 < cLine) : OpR X (compareOp .In) (rInA X.K) := op_in_sign.or (op_in_str.or (op_in_seq.or (op_inD hu)))
theorem op_ninA {X : Cx} (hu : X.A.units + 65 < cLine) : OpR X (compareOp .NotIn) (rNotInA X.K) := op_notIn_sign.or (op_notin_str.or (op_notIn_seq.or (op_notInD hu)))
theorem inB_ok {x y : W} {vx vy : V} {b : Bool} (r : RS c ρ G H st) (rx : RepW c ρ G x vx) (ry : RepW c ρ G y vy) (e : inB st x y = some b) :
    (∃ k z, vx = .str ⟨#[k]⟩ ∧ vy = .str z ∧ decide (k ∈ z.cps.toList) = b) ∨ (∃ i j, vx = .str i ∧ vy = .str j ∧ (!(Builtin.Str.occurrences j i 0 j.length 1).isEmpty) = b) ∨
      (∃ p xs, vy = V.ref p ∧ (SqL c.K H p xs ∨ SqT c.K H p xs) ∧ flatV vx = true ∧ xs.all flatV = true ∧ inV vx xs = b) ∨
      (∃ d ds, Dp c.K H vx d ∧ Dp c.K H vy (.list ds) ∧ SeqAt.shaped d = true ∧ SeqAt.shaped (.list ds) = true ∧ (ds.any fun z => PyData.eqv z d) = b) := by
  unfold inB at e
  split at e
  · rename_i i z
    cases e
    cases rx
    cases ry
    unfold inS
    split
    · rename_i k hk
      refine .inl ⟨k, z, ?_, rfl, rfl⟩
      obtain ⟨⟨l⟩⟩ := i
      have hk : l = [k] := hk
      rw [hk]
    · exact .inr (.inl ⟨i, z, rfl, rfl, rfl⟩)
  · cases ea : snapD st x with
    | none => simp only [ea] at e; cases e
    | some a =>
      cases eb : snapD st y with
      | none => simp only [ea, eb] at e; cases e
      | some b' =>
        simp only [ea, eb] at e
        obtain ⟨G1, s1, r1⟩ := snap_ok r rx ea
        obtain ⟨G2, s2, r2⟩ := snap_ok r ry eb
        cases es : seqD b' with
        | none => simp only [es] at e; cases e
        | some ds =>
          simp only [es] at e
          split at e
          · rename_i h
            cases e
            have h := Bool.and_eq_true_iff.mp h
            refine .inr (.inr (.inl ?_))
            cases r2 <;> cases es
            · rename_i hl hr
              obtain ⟨i1, i2⟩ := inV_rep h.1 r1 h.2 hr
              exact ⟨_, _, rfl, .inl (SqL.of (s2 _ _ hl)), flat_rep h.1 r1, i1, i2⟩
            · rename_i hl hr
              obtain ⟨i1, i2⟩ := inV_rep h.1 r1 h.2 hr
              exact ⟨_, _, rfl, .inl (s2.seq hl), flat_rep h.1 r1, i1, i2⟩
            · rename_i hl hr
              obtain ⟨i1, i2⟩ := inV_rep h.1 r1 h.2 hr
              exact ⟨_, _, rfl, .inr (SqT.same s2 hl), flat_rep h.1 r1, i1, i2⟩
          · split at e
            · rename_i h
              cases e
              have h := Bool.and_eq_true_iff.mp h
              obtain ⟨h1, h3⟩ := h
              have h1 := Bool.and_eq_true_iff.mp h1
              have d2 := dp_of s2 (canLay_ok h1.2) r2
              refine .inr (.inr (.inr ?_))
              cases b' with
              | lst xs =>
                cases es
                exact ⟨_, _, dp_of s1 (canLay_ok h1.1) r1, d2, h1.1, h1.2, by rw [toPys_map, any_map]; rfl⟩
              | fls xs =>
                cases es
                exact ⟨_, _, dp_of s1 (canLay_ok h1.1) r1, d2, h1.1, h1.2, by rw [toPys_map, any_map]; rfl⟩
              | tup xs => cases h3
              | _ => cases es
            · cases e
theorem s2_inA : S2 c (rInA c.K) inA := fun ρ G H st x y w st' vx vy Q r rx ry e q => by
  unfold inA at e
  cases eb : inB st x y with
  | none => simp only [eb] at e; cases e
  | some b =>
    simp only [eb] at e
    cases e
    have fin := q (.bl b) ρ G H Stp.refl r (.bl b)
    rcases inB_ok r rx ry eb with ⟨k, z, h1, h2, h3⟩ | ⟨i, j, h1, h2, h3⟩ | ⟨p, xs, h1, h2, h3, h4, h5⟩ | ⟨d, ds, h1, h2, h3, h4, h5⟩
    · exact .inl ⟨k, z, h1, h2, by rw [h3]; exact fin⟩
    · exact .inr (.inl ⟨i, j, h1, h2, by rw [h3]; exact fin⟩)
    · exact .inr (.inr (.inl ⟨p, xs, h1, h2, h3, h4, by rw [if_neg Bool.false_ne_true, h5]; exact fin⟩))
    · exact .inr (.inr (.inr ⟨d, ds, h1, h2, h3, h4, by rw [h5]; exact fin⟩))
theorem s2_ninA : S2 c (rNotInA c.K) ninA := fun ρ G H st x y w st' vx vy Q r rx ry e q => by
  unfold ninA at e
  cases eb : inB st x y with
  | none => simp only [eb] at e; cases e
  | some b =>
    simp only [eb] at e
    cases e
    have fin := q (.bl (!b)) ρ G H Stp.refl r (.bl (!b))
    rcases inB_ok r rx ry eb with ⟨k, z, h1, h2, h3⟩ | ⟨i, j, h1, h2, h3⟩ | ⟨p, xs, h1, h2, h3, h4, h5⟩ | ⟨d, ds, h1, h2, h3, h4, h5⟩
    · exact .inl ⟨k, z, h1, h2, by rw [h3]; exact fin⟩
    · exact .inr (.inl ⟨i, j, h1, h2, by rw [h3]; exact fin⟩)
    · exact .inr (.inr (.inl ⟨p, xs, h1, h2, h3, h4, by rw [if_pos rfl, h5]; exact fin⟩))
    · exact .inr (.inr (.inr ⟨d, ds, h1, h2, h3, h4, by rw [h5]; exact fin⟩))
def isNonB : W → Bool
  | .d .non => true
  | _ => false
def isN (st : Store) (x y : W) : Option (W × Store) := match y with
  | .d .non => some (.d (.bl (isNonB x)), st)
  | _ => none
def isnN (st : Store) (x y : W) : Option (W × Store) := match y with
  | .d .non => some (.d (.bl (!isNonB x)), st)
  | _ => none
def isBl (st : Store) (x y : W) : Option (W × Store) := match x, y with
  | .d (.bl a), .d (.bl b) => some (.d (.bl (decide (a = b))), st)
  | _, _ => none
def isnBl (st : Store) (x y : W) : Option (W × Store) := match x, y with
  | .d (.bl a), .d (.bl b) => some (.d (.bl (!decide (a = b))), st)
  | _, _ => none
end
end EV
namespace EV
open PySem PySem.Spec PyProof.Rows L2
section
variable {c : Kx} {X : Cx} {U : WX} {e o a b i : Expr} {es : List Expr} {x : Str} {p pos apos cpos : Pos} {id T : String} {m : EM (List W)} {ma mb mi mo : EM W}
def callB (f : Store → List W → Option (W × Store)) (m : EM (List W)) : EM W := bnd m fun ws => lft fun st => f st ws
theorem wp_cb {r : List V → Hp → VK → Prop} {f : Store → List W → Option (W × Store)} (hs : SN c r f) {ρ : Rho} {G H : Hp} {σ : L2.St} {s : SS} {Q : VK} (hR : R c ρ G σ H s) (w : Wp c U (callB f m) ρ G σ H s (fun w ρ' G' H' _ => ∀ v, RepW c ρ' G' w v → Q v H')) :
    tCB r (tA c U m) σ H Q :=
  ⟨ρ, G, s, hR, (Wp.bnd hR w).imp fun ws ρ1 G1 H1 s1 ⟨S1, R1, w1⟩ vs rvs => by
    obtain ⟨w, st', e, q⟩ := Wp.lft w1
    exact hs ρ1 G1 H1 s1.st ws w st' vs Q R1.rs rvs e fun v' ρ' G' H' S3 R3 r3 => q ρ' G' H' S3 ⟨R3, R1.env.mono S3.rho S3.same, R1.len⟩ v' r3⟩
theorem ee_cb {r : List V → Hp → VK → Prop} {f : Store → List W → Option (W × Store)} (hc : CallR X (.builtin id) r) (hs : SN c r f) (hg : Gl X x) (hm : X.mg x = none) (hv : bootBuiltins x = some (.builtin id)) (ha : EA c X U (e :: es) m) (hn : x ≠ "__name__" := by decide) (hdb : (x == ("__debug__" : Str)) = false := by decide)
    (he : starEach (e :: es) X.env = (false, eval e X.env) :: starEach es X.env := by rfl) (hpl : (backTo pos (starEach es X.env)).any (·.1) = false := by rfl) : EE c X U (.Call (.Name x p) (e :: es) [] pos) (callB f m) :=
  EE.mk1 ha.K (pe_callB hc hg hm hv ha.pa hn hdb he hpl) fun ρ G s σ H Q hR w => wp_cb hs hR w
theorem ee_cty {r : List V → Hp → VK → Prop} {f : Store → List W → Option (W × Store)} (hc : CallR X (.type T) r) (hs : SN c r f) (hg : Gl X x) (hm : X.mg x = none) (hv : bootBuiltins x = some (.type T)) (ha : EA c X U (e :: es) m) (hn : x ≠ "__name__" := by decide) (hdb : (x == ("__debug__" : Str)) = false := by decide)
    (he : starEach (e :: es) X.env = (false, eval e X.env) :: starEach es X.env := by rfl) (hpl : (backTo pos (starEach es X.env)).any (·.1) = false := by rfl) : EE c X U (.Call (.Name x p) (e :: es) [] pos) (callB f m) :=
  EE.mk1 ha.K (pe_callTy hc hg hm hv ha.pa hn hdb he hpl) fun ρ G s σ H Q hR w => wp_cb hs hR w
def lenW (st : Store) : List W → Option (W × Store)
  | [.d (.str z)] => if z.length ≤ 16777216 then some (.d (.int z.length), st) else none
  | [w] => match listW st w with
    | some ws => some (.d (.int ws.length), st)
    | none => match tupW w with
      | some ws => some (.d (.int ws.length), st)
      | none => none
  | _ => none
theorem sn_len : SN c (fun xs H Q => ∃ x n, xs = [x] ∧ LenV c.K x H n ∧ Q (.int n) H) lenW := fun ρ G H st xs w st' vs Q r rv e q => by
  unfold lenW at e
  split at e
  · rename_i z
    split at e
    · rename_i h
      cases e
      obtain ⟨v, r', rfl, hz, h2⟩ := rv
      have h2 : r' = [] := h2
      subst h2
      cases hz
      exact ⟨_, z.length, rfl, ⟨by rw [sizeLine_eq]; exact h, rfl⟩, q _ ρ G H Stp.refl r (.int _)⟩
    · cases e
  · rename_i w' _
    obtain ⟨v, r', rfl, hz, h2⟩ := rv
    have h2 : r' = [] := h2
    subst h2
    cases el : listW st w' with
    | some ws =>
      simp only [el] at e
      cases e
      obtain ⟨a, us, rfl, h1, h3⟩ := listW_ok r hz el
      exact ⟨_, ws.length, rfl, .inl ⟨us, h1, h3.len.symm⟩, q _ ρ G H Stp.refl r (.int _)⟩
    | none =>
      simp only [el] at e
      cases et : tupW w' with
      | some ws =>
        simp only [et] at e
        cases e
        obtain ⟨a, us, rfl, h1, h3⟩ := tupW_ok r hz et
        exact ⟨_, ws.length, rfl, .inr ⟨us, h1, h3.len.symm⟩, q _ ρ G H Stp.refl r (.int _)⟩
      | none => simp only [et] at e; cases e
  · cases e
def intW (st : Store) : List W → Option (W × Store)
  | [.d (.int i)] => some (.d (.int i), st)
  | [.d (.bl k)] => some (.d (.int (if k then 1 else 0)), st)
  | [.d (.str z)] => if z.length ≤ 640 then match intText? z with
    | some n => some (.d (.int n), st)
    | none => none
    else none
  | _ => none
theorem one_rep {ρ : Rho} {G : Hp} {w : W} {vs : List V} (h : RepWs c ρ G [w] vs) : ∃ v, vs = [v] ∧ RepW c ρ G w v := by
  obtain ⟨v, r', rfl, hz, h2⟩ := h
  have h2 : r' = [] := h2
  subst h2
  exact ⟨v, rfl, hz⟩
theorem two_rep {ρ : Rho} {G : Hp} {w w' : W} {vs : List V} (h : RepWs c ρ G [w, w'] vs) : ∃ v v', vs = [v, v'] ∧ RepW c ρ G w v ∧ RepW c ρ G w' v' := by
  obtain ⟨v, r', rfl, hz, h2⟩ := h
  obtain ⟨v', rfl, h3⟩ := one_rep h2
  exact ⟨v, v', rfl, hz, h3⟩
def strW (st : Store) : List W → Option (W × Store)
  | [.d (.int i)] => if 0 ≤ i ∧ i < 10 ^ 200 then some (.d (.str (Str.ofString (toString i))), st) else none
  | _ => none
def listC (own : Bool) (st : Store) : List W → Option (W × Store)
  | [w] => match listW st w with
    | some ws => newL own ws st
    | none => match tupW w with
      | some ws => newL own ws st
      | none => none
  | _ => none
theorem sn_list (own : Bool) : SN c (fun xs H Q => ∃ p ys, xs = [.ref p] ∧ (SqL c.K H p ys ∨ SqT c.K H p ys) ∧ ∀ l, H l = none → Q (.ref l) (upd H l (.lst ys))) (listC own) := fun ρ G H st xs w st' vs Q r rv e q => by
  unfold listC at e
  split at e
  · rename_i w'
    obtain ⟨v, rfl, hz⟩ := one_rep rv
    cases el : listW st w' with
    | some ws =>
      simp only [el] at e
      obtain ⟨a, us, rfl, h1, h3⟩ := listW_ok r hz el
      refine ⟨a, us, rfl, .inl h1, fun l hl => ?_⟩
      obtain ⟨ρ', G', S, r', rw'⟩ := newL_ok r h3 e hl
      exact q _ ρ' G' _ S r' rw'
    | none =>
      simp only [el] at e
      cases et : tupW w' with
      | some ws =>
        simp only [et] at e
        obtain ⟨a, us, rfl, h1, h3⟩ := tupW_ok r hz et
        refine ⟨a, us, rfl, .inr h1, fun l hl => ?_⟩
        obtain ⟨ρ', G', S, r', rw'⟩ := newL_ok r h3 e hl
        exact q _ ρ' G' _ S r' rw'
      | none => simp only [et] at e; cases e
  · cases e
inductive Ty where
  | bi (n : String) | cl (k : Nat) | xc (k : Nat)
  deriving DecidableEq
def tyW (st : Store) : W → Option Ty
  | .d .non => some (.bi "NoneType")
  | .d (.bl _) => some (.bi "bool")
  | .d (.int _) => some (.bi "int")
  | .d (.str _) => some (.bi "str")
  | .d (.lst _) => some (.bi "list")
  | .d (.fls _) => none
  | .d (.tup _) => some (.bi "tuple")
  | .d (.dct _ _) => some (.bi "dict")
  | .d (.ins k _ _) => some (.cl k)
  | .d (.exc k _ _) => some (.xc k)
  | .d _ => none
  | .loc n => match st[n]? with
    | some (some (.lst _)) => some (.bi "list")
    | some (some (.dct _ _)) => some (.bi "dict")
    | some (some (.ins k _ _)) => some (.cl k)
    | some (some (.tup _)) => some (.bi "tuple")
    | _ => none
structure InsT (K : PySem.W.Frag) (C : Addr) : Prop where
  a : PySem.W.findIn K (.ref C) "__class__" = some (some (.builtin "object.__class__"))
  b : PySem.W.specialIn K (.builtin "object.__class__") "__get__" = some (some (.builtin "getset_descriptor.__get__"))
  c : PySem.W.takesIn K (.builtin "object.__class__") = some true
  d : PySem.W.mroIn K C (.type "object") = some true
def TyFact (c : Kx) (u : Value) : Ty → Bool → Prop
  | .bi n, b => PySem.W.kitOne c.K (.type n) u = some b
  | .cl k, b => ∀ C, c.ct[k]? = some C → InsT c.K C ∧ PySem.W.kitOne c.K (.ref C) u = some b
  | .xc k, b => ∀ C, c.ct[k]? = some C → ExcC c.K C ∧ PySem.W.kitOne c.K (.ref C) u = some b
def isiW (q : List (Ty × Bool)) (st : Store) : List W → Option (W × Store)
  | [w, _] => match tyW st w with
    | some t => match q.lookup t with
      | some b => some (.d (.bl b), st)
      | none => none
    | none => none
  | _ => none
theorem sn_isi {q : List (Ty × Bool)} {v : V} {u : Value} (hv : ClsV v u) (hq : ∀ t b, q.lookup t = some b → TyFact c u t b) (ρ : Rho) (G H : Hp) (st : Store) (w : W) (w2 : W) (st' : Store) (vx : V) (Q : VK) (r : RS c ρ G H st) (rv : RepW c ρ G w vx) (w0 : W) (e : isiW q st [w, w2] = some (w0, st'))
    (k : ∀ v ρ' G' H', Stp ρ G H st ρ' G' H' st' → RS c ρ' G' H' st' → RepW c ρ' G' w0 v → Q v H') : (rIsi c.K [vx, v] H Q ∨ rIsX c.K [vx, v] H Q) := by
  unfold isiW at e
  simp only at e
  cases et : tyW st w with
  | none => simp only [et] at e; cases e
  | some t =>
    simp only [et] at e
    cases eq : q.lookup t with
    | none => simp only [eq] at e; cases e
    | some b =>
      simp only [eq] at e
      cases e
      have hf := hq t b eq
      have fin := k (.bl b) ρ G H Stp.refl r (.bl b)
      cases w with
      | d x =>
        cases x with
        | non => cases et; cases rv; exact .inl ⟨_, _, _, _, b, rfl, hv, .base .non, hf, fin⟩
        | bl _ => cases et; cases rv; exact .inl ⟨_, _, _, _, b, rfl, hv, .base (.bl _), hf, fin⟩
        | int _ => cases et; cases rv; exact .inl ⟨_, _, _, _, b, rfl, hv, .base (.int _), hf, fin⟩
        | str _ => cases et; cases rv; exact .inl ⟨_, _, _, _, b, rfl, hv, .base (.str _), hf, fin⟩
        | lst _ => cases et; cases rv with | lst h _ => exact .inl ⟨_, _, _, _, b, rfl, hv, .base (.lst (r.sub _ _ h)), hf, fin⟩
        | fls _ => cases et
        | tup _ =>
          cases et
          cases rv with
          | tup h _ =>
            rcases h with (h | ⟨o, h⟩) | ⟨o, its, n, h1, h2, _⟩
            · exact .inl ⟨_, _, _, _, b, rfl, hv, .base (.tup (r.sub _ _ h)), hf, fin⟩
            · exact .inl ⟨_, _, _, _, b, rfl, hv, .fTuple (r.sub _ _ h), hf, fin⟩
            · exact .inl ⟨_, _, _, _, b, rfl, hv, .kTuple h1 h2, hf, fin⟩
        | dct _ _ =>
          cases et
          cases rv with
          | dct h _ _ =>
            rcases h with h | ⟨o, h⟩
            · exact .inl ⟨_, _, _, _, b, rfl, hv, .base (.dK (r.sub _ _ h)), hf, fin⟩
            · exact .inl ⟨_, _, _, _, b, rfl, hv, .fDict (r.sub _ _ h), hf, fin⟩
        | dtt _ _ => cases et
        | clo _ _ => cases et
        | ins _ _ _ =>
          cases et
          cases rv with
          | ins hC hF h _ _ _ =>
            obtain ⟨hI, hb⟩ := hf _ hC
            exact .inl ⟨_, _, _, _, b, rfl, hv, .base (.ins (r.sub _ _ h) hF.1 hI.a hI.b hI.c hI.d), hb, fin⟩
        | exc _ _ _ =>
          cases et
          cases rv with
          | exc0 hC h =>
            obtain ⟨hI, hb⟩ := hf _ hC
            exact .inr ⟨_, _, none, _, _, b, rfl, hv, r.sub _ _ h, .inl rfl, hI, hb, fin⟩
          | excD hC h h2 _ _ =>
            obtain ⟨hI, hb⟩ := hf _ hC
            exact .inr ⟨_, _, _, _, _, b, rfl, hv, r.sub _ _ h, .inr ⟨_, _, rfl, r.sub _ _ h2⟩, hI, hb, fin⟩
        | ref _ => cases et
        | ty _ => cases et
      | loc n =>
        obtain ⟨p, hp, rfl⟩ := rv
        unfold tyW at et
        cases ho : st[n]? with
        | none => simp only [ho] at et; cases et
        | some o =>
          cases o with
          | none => simp only [ho] at et; cases et
          | some o =>
            obtain ⟨_, _, ok⟩ := r.own n p o hp ho
            cases o with
            | lst _ =>
              simp only [ho] at et
              cases et
              obtain ⟨_, _, h, _⟩ := ok
              exact .inl ⟨_, _, _, _, b, rfl, hv, .base (.lst h), hf, fin⟩
            | dct _ _ =>
              simp only [ho] at et
              cases et
              obtain ⟨_, _, _, h, _⟩ := ok
              exact .inl ⟨_, _, _, _, b, rfl, hv, .base (.dK h), hf, fin⟩
            | ins _ _ _ =>
              simp only [ho] at et
              cases et
              obtain ⟨_, C, _, hC, hF, h, _⟩ := ok
              obtain ⟨hI, hb⟩ := hf _ hC
              exact .inl ⟨_, _, _, _, b, rfl, hv, .base (.ins h hF.1 hI.a hI.b hI.c hI.d), hb, fin⟩
            | tup _ =>
              simp only [ho] at et
              cases et
              obtain ⟨_, _, h, _⟩ := ok
              exact .inl ⟨_, _, _, _, b, rfl, hv, .base (.tup h), hf, fin⟩
            | dtt _ _ => simp only [ho] at et; cases et
            | tab => simp only [ho] at et; cases et
theorem wp_map {α β : Type} {mm : EM α} {g : α → β} {ρ : Rho} {G H : Hp} {σ : L2.St} {s : SS} {k : β → Rho → Hp → Hp → SS → Prop} (h : Wp c U mm ρ G σ H s (fun a ρ' G' H' s' => k (g a) ρ' G' H' s')) : Wp c U (bnd mm fun a => pur (g a)) ρ G σ H s k := by
  unfold Wp at h ⊢
  cases e : mm s with
  | none => rw [e] at h; exact h.elim
  | some p =>
    obtain ⟨o, s1⟩ := p
    rw [e] at h
    cases o with
    | ok a => rw [bnd_ok e]; exact h
    | ex _ _ _ => rw [bnd_ex e]; exact h
theorem ee_isi {q : List (Ty × Bool)} {u : Value} {v : V} {d2 : D} (hv : ClsV v u) (hq : ∀ t b, q.lookup t = some b → TyFact c u t b) (hd2 : ∀ (G : Hp) (z : V), RepD c G d2 z → z = v) (hg : Gl X "isinstance") (hm : X.mg "isinstance" = none) (ha : EE c X U a ma) (hb : EE c X U b (cst d2))
    (hs : starEach [a, b] X.env = (false, eval a X.env) :: starEach [b] X.env := by rfl) (hs2 : starEach [b] X.env = (false, eval b X.env) :: starEach [] X.env := by rfl) (hpl : (backTo pos (starEach [b] X.env)).any (·.1) = false := by rfl) :
    EE c X U (.Call (.Name "isinstance" p) [a, b] [] pos) (bnd ma fun w => lft fun st => isiW q st [w, .d .non]) :=
  EE.mk1 ha.K (pe_callB (call_isi.or call_isX) hg hm (by decide +kernel) (ea_cons ha (ea_cons hb (ea_nil ha.K) hs2) hs).pa (by decide) (by decide) hs hpl) fun ρ G s σ H Q hR w => by
    refine ⟨ρ, G, s, hR, ?_⟩
    have e : acons ma (acons (cst d2) anil) = bnd ma fun w => pur [w, .d d2] := rfl
    rw [e]
    refine wp_map (g := fun w => [w, .d d2]) (k := fun ws ρ' G' H' _ => ∀ vs, RepWs c ρ' G' ws vs → (rIsi X.K vs H' Q ∨ rIsX X.K vs H' Q)) ((Wp.bnd hR w).imp fun x ρ1 G1 H1 s1 ⟨S1, R1, w1⟩ vs rvs => ?_)
    obtain ⟨w, st', e, q'⟩ := Wp.lft w1
    obtain ⟨v1, v2, rfl, r1, r2⟩ := two_rep rvs
    rw [hd2 G1 v2 r2, ha.K]
    exact sn_isi hv hq ρ1 G1 H1 s1.st x _ st' v1 Q R1.rs r1 w e fun v' ρ' G' H' S3 R3 r3 => q' ρ' G' H' S3 ⟨R3, R1.env.mono S3.rho S3.same, R1.len⟩ v' r3
def tyIs (T : String) (st : Store) (w : W) : Bool := match w with
  | .d (.str _) => decide (T = "str")
  | .d (.lst _) => decide (T = "list")
  | .d (.fls _) => decide (T = "list")
  | .d (.dct _ _) => false
  | .d _ => false
  | .loc n => match st[n]? with
    | some (some (.lst _)) => decide (T = "list")
    | some (some (.dct _ _)) => decide (T = "dict")
    | _ => false
theorem tyIs_ok {ρ : Rho} {G H : Hp} {st : Store} {w : W} {v : V} (r : RS c ρ G H st) (rv : RepW c ρ G w v) (e : tyIs T st w = true) : tyV c.K T v H := by
  cases w with
  | d x =>
    cases x with
    | str z => cases rv; exact (of_decide_eq_true e : T = "str")
    | lst _ => cases rv with | lst h _ => exact .inl ⟨of_decide_eq_true e, _, SqL.of (r.sub _ _ h)⟩
    | fls _ => cases rv with | fls h _ => exact .inl ⟨of_decide_eq_true e, _, r.sub.seq h⟩
    | dct _ _ => exact absurd e Bool.false_ne_true
    | dtt _ _ => exact absurd e Bool.false_ne_true
    | _ => exact absurd e Bool.false_ne_true
  | loc n =>
    obtain ⟨p, hp, rfl⟩ := rv
    unfold tyIs at e
    cases ho : st[n]? with
    | none => simp only [ho] at e; exact absurd e Bool.false_ne_true
    | some o =>
      cases o with
      | none => simp only [ho] at e; exact absurd e Bool.false_ne_true
      | some o =>
        obtain ⟨_, _, ok⟩ := r.own n p o hp ho
        cases o with
        | lst _ =>
          simp only [ho] at e
          obtain ⟨_, _, h, _⟩ := ok
          exact .inl ⟨of_decide_eq_true e, _, SqL.of h⟩
        | dct _ _ =>
          simp only [ho] at e
          obtain ⟨_, _, _, h, _⟩ := ok
          exact .inr (.inr (.inl ⟨of_decide_eq_true e, .inl ⟨_, h⟩⟩))
        | ins _ _ _ => simp only [ho] at e; exact absurd e Bool.false_ne_true
        | tup _ => simp only [ho] at e; exact absurd e Bool.false_ne_true
        | dtt _ _ => simp only [ho] at e; exact absurd e Bool.false_ne_true
        | tab => simp only [ho] at e; exact absurd e Bool.false_ne_true
def SM (c : Kx) (r : V → List V → Hp → VK → Prop) (f : Store → W → List W → Option (W × Store)) : Prop :=
  ∀ (ρ : Rho) (G H : Hp) (st : Store) (o : W) (xs : List W) (w : W) (st' : Store) (vo : V) (vs : List V) (Q : VK), RS c ρ G H st → RepW c ρ G o vo → RepWs c ρ G xs vs → f st o xs = some (w, st') →
    (∀ v ρ' G' H', Stp ρ G H st ρ' G' H' st' → RS c ρ' G' H' st' → RepW c ρ' G' w v → Q v H') → r vo vs H Q
def bmE (T : String) (f : Store → W → List W → Option (W × Store)) (mo : EM W) (m : EM (List W)) : EM W := bnd mo fun o => fun s => if tyIs T s.st o then bnd m (fun ws => lft fun st => f st o ws) s else none
theorem ee_bm {name : Str} {r : V → List V → Hp → VK → Prop} {f : Store → W → List W → Option (W × Store)} (hs : SM c r f) (pa : PlainAttrs T) (slot : Slot T name id) (hty : typeOf (.builtin id) = pure (.type "method_descriptor")) (hm : MtR X id r) (ho : EE c X U o mo) (ha : EA c X U (e :: es) m)
    (h1 : attributeBase o name X.env (eval o X.env) = eval o X.env := by rfl)
    (h2 : (((backTo cpos (starEach (e :: es) X.env)).all fun x => !x.1) && (backToKw cpos (keywordEach [] X.env)).all (fun x => x.1.isSome) && decide ((e :: es).length + ([] : List Keyword).length + (if ([] : List Keyword).isEmpty = true then 0 else 1) < 30)) = true := by rfl)
    (h3 : (apos.endLine == cpos.line) = true := by rfl) (h4 : starEach (e :: es) X.env = (false, eval e X.env) :: starEach es X.env := by rfl) (h5 : (backTo cpos (starEach es X.env)).any (fun x => x.1) = false := by rfl) :
    EE c X U (.Call (.Attribute o name apos) (e :: es) [] cpos) (bmE T f mo m) :=
  EE.mk1 ho.K (pe_bm pa slot hty hm ho.pe ha.pa h1 h2 h3 h4 h5) fun ρ G s σ H Q hR w => ⟨ρ, G, s, hR, (Wp.bnd hR w).imp fun ov ρ1 G1 H1 s1 ⟨S1, R1, w1⟩ v rv => by
    unfold Wp at w1
    by_cases ht : tyIs T s1.st ov = true
    · simp only [ht, if_true] at w1
      refine ⟨by rw [ho.K]; exact tyIs_ok R1.rs rv ht, ρ1, G1, s1, R1, (Wp.bnd R1 w1).imp fun ws ρ2 G2 H2 s2 ⟨S2, R2, w2⟩ vs rvs => ?_⟩
      obtain ⟨w, st', e, q⟩ := Wp.lft w2
      exact hs ρ2 G2 H2 s2.st ov ws w st' v vs Q R2.rs (rv.mono S2.rho S2.same) rvs e fun v' ρ' G' H' S3 R3 r3 => q ρ' G' H' S3 ⟨R3, R2.env.mono S3.rho S3.same, R2.len⟩ v' r3
    · simp only [if_neg ht] at w1⟩
theorem ee_bm0 {name : Str} {r : V → List V → Hp → VK → Prop} {f : Store → W → List W → Option (W × Store)} (hs : SM c r f) (pa : PlainAttrs T) (slot : Slot T name id) (hty : typeOf (.builtin id) = pure (.type "method_descriptor")) (hm : MtR X id r) (ho : EE c X U o mo)
    (h1 : attributeBase o name X.env (eval o X.env) = eval o X.env := by rfl) (h3 : (apos.endLine == cpos.line) = true := by rfl) :
    EE c X U (.Call (.Attribute o name apos) [] [] cpos) (bmE T f mo anil) :=
  EE.mk1 ho.K (pe_bm0 pa slot hty hm ho.pe h1 h3) fun ρ G s σ H Q hR w => ⟨ρ, G, s, hR, (Wp.bnd hR w).imp fun ov ρ1 G1 H1 s1 ⟨S1, R1, w1⟩ v rv => by
    unfold Wp at w1
    by_cases ht : tyIs T s1.st ov = true
    · simp only [ht, if_true] at w1
      refine ⟨by rw [ho.K]; exact tyIs_ok R1.rs rv ht, ?_⟩
      have w2 : Wp c U (lft fun st => f st ov []) ρ1 G1 σ H1 s1 (fun w ρ' G' H' _ => ∀ v, RepW c ρ' G' w v → Q v H') := w1
      obtain ⟨w, st', e, q⟩ := Wp.lft w2
      exact hs ρ1 G1 H1 s1.st ov [] w st' v [] Q R1.rs rv rfl e fun v' ρ' G' H' S3 R3 r3 => q ρ' G' H' S3 ⟨R3, R1.env.mono S3.rho S3.same, R1.len⟩ v' r3
    · simp only [if_neg ht] at w1⟩
def wrL (st : Store) (o : W) (g : List W → Option (List W × W)) : Option (W × Store) := match o with
  | .loc n => match st[n]? with
    | some (some (.lst ws)) => match g ws with
      | some (ws', w) => some (w, st.set n (some (.lst ws')))
      | none => none
    | _ => none
  | _ => none
def appendW (st : Store) (o : W) : List W → Option (W × Store)
  | [w] => wrL st o fun ws => if ws.length < 16777216 then some (ws ++ [w], .d .non) else none
  | _ => none
theorem wrL_ok {ρ : Rho} {G H : Hp} {st : Store} {o w : W} {st' : Store} {vo : V} {g : List W → Option (List W × W)} (r : RS c ρ G H st) (ro : RepW c ρ G o vo) (e : wrL st o g = some (w, st')) :
    ∃ a vs ws ws', vo = .ref a ∧ H a = some (.lst vs) ∧ RepWs c ρ G ws vs ∧ g ws = some (ws', w) ∧ ∀ vs', RepWs c ρ G ws' vs' → Stp ρ G H st ρ G (upd H a (.lst vs')) st' ∧ RS c ρ G (upd H a (.lst vs')) st' := by
  unfold wrL at e
  split at e
  · rename_i n
    obtain ⟨p, hp, rfl⟩ := ro
    cases ho : st[n]? with
    | none => simp only [ho] at e; cases e
    | some o =>
      cases o with
      | none => simp only [ho] at e; cases e
      | some o =>
        cases o with
        | lst ws =>
          simp only [ho] at e
          cases hg : g ws with
          | none => simp only [hg] at e; cases e
          | some q =>
            obtain ⟨ws', w'⟩ := q
            simp only [hg] at e
            cases e
            obtain ⟨_, _, h1, vs, h2, h3⟩ := r.own n p _ hp ho
            exact ⟨p.1, vs, ws, ws', rfl, h2, h3, hg, fun vs' r' => written r hp ho ⟨h1, vs', upd_same, r'⟩⟩
        | dct _ _ => simp only [ho] at e; cases e
        | dtt _ _ => simp only [ho] at e; cases e
        | tab => simp only [ho] at e; cases e
        | ins _ _ _ => simp only [ho] at e; cases e
        | tup _ => simp only [ho] at e; cases e
  · cases e
theorem sm_append : SM c rAppend appendW := fun ρ G H st o xs w st' vo vs Q r ro rx e q => by
  unfold appendW at e
  split at e
  · rename_i x
    obtain ⟨v, rfl, rv⟩ := one_rep rx
    obtain ⟨a, vs, ws, ws', rfl, h1, h2, h3, h4⟩ := wrL_ok r ro e
    by_cases hl : ws.length < 16777216
    · rw [if_pos hl] at h3
      cases h3
      obtain ⟨S, r'⟩ := h4 (vs ++ [v]) (h2.app ⟨v, [], rfl, rv, rfl⟩)
      exact ⟨a, vs, v, rfl, rfl, h1, by rw [h2.len, sizeLine_eq]; exact hl, q _ ρ G _ S r' .non⟩
    · rw [if_neg hl] at h3
      cases h3
  · cases e
def clearW (st : Store) (o : W) : List W → Option (W × Store)
  | [] => wrL st o fun _ => some ([], .d .non)
  | _ => none
theorem sm_clear : SM c rClear clearW := fun ρ G H st o xs w st' vo vs Q r ro rx e q => by
  unfold clearW at e
  split at e
  · have rx : vs = [] := rx
    subst rx
    obtain ⟨a, vs, ws, ws', rfl, h1, h2, h3, h4⟩ := wrL_ok r ro e
    cases h3
    obtain ⟨S, r'⟩ := h4 [] rfl
    exact ⟨a, vs, rfl, rfl, h1, q _ ρ G _ S r' .non⟩
  · cases e
def popW (st : Store) (o : W) : List W → Option (W × Store)
  | [] => wrL st o fun ws => match ws[ws.length - 1]? with
    | some w => some (ws.dropLast, w)
    | none => none
  | _ => none
theorem RepWs.dropLast {ρ : Rho} {G : Hp} {ws : List W} {vs : List V} (h : RepWs c ρ G ws vs) : RepWs c ρ G ws.dropLast vs.dropLast := by
  rw [List.dropLast_eq_take, List.dropLast_eq_take, h.len]
  exact h.take _
def extendW (st : Store) (o : W) : List W → Option (W × Store)
  | [x] => match lst1W st x with
    | some zs => wrL st o fun ws => if ws.length + zs.length ≤ 16777216 then some (ws ++ zs, .d .non) else none
    | none => none
  | _ => none
def insertW (st : Store) (o : W) : List W → Option (W × Store)
  | [.d (.int i), x] => wrL st o fun ws => if ws.length < 16777216 ∧ 0 ≤ i ∧ i < 1000000000 then some (ws.take i.toNat ++ [x] ++ ws.drop i.toNat, .d .non) else none
  | _ => none
def strsD : List D → Option (List Str)
  | [] => some []
  | .str z :: r => (strsD r).map (z :: ·)
  | _ :: _ => none
theorem strsD_map : ∀ zs : List Str, strsD (zs.map .str) = some zs
  | [] => rfl
  | z :: zs => by
    show (strsD (zs.map .str)).map (z :: ·) = _
    rw [strsD_map zs]; rfl
theorem strsD_ok {G : Hp} : ∀ {ds : List D} {zs : List Str} {vs : List V}, strsD ds = some zs → RepDs c G ds vs → vs = zs.map V.str
  | [], _, _, e, .nil => by cases e; rfl
  | d :: ds, zs, _, e, .cons h t => by
    cases d with
    | str z =>
      unfold strsD at e
      cases q : strsD ds with
      | none => rw [q] at e; cases e
      | some ys =>
        rw [q] at e
        cases e
        cases h
        rw [strsD_ok q t]
        rfl
    | _ => cases e
def joinW (st : Store) (o : W) : List W → Option (W × Store)
  | [x] => match o, snapD st x with
    | .d (.str a), some d => match (match d with | .lst ds => strsD ds | .fls ds => strsD ds | .tup ds => strsD ds | _ => none) with
      | some ys => if (ys.map fun x => x.length).sum + ys.length * a.length ≤ 16777216 then some (.d (.str (Txt.join a ys)), st) else none
      | none => none
    | _, _ => none
  | _ => none
theorem sm_join : SM c (fun x xs H Q => ∃ a p, ∃ ys : List Str, x = .str a ∧ xs = [.ref p] ∧ (SqL c.K H p (ys.map V.str) ∨ SqT c.K H p (ys.map V.str)) ∧ (ys.map fun x => x.length).sum + ys.length * a.length ≤ 16777216 ∧ Q (.str (Txt.join a ys)) H) joinW := fun ρ G H st o xs w st' vo vs Q r ro rx e q => by
  unfold joinW at e
  split at e
  · rename_i x
    obtain ⟨v, rfl, rv⟩ := one_rep rx
    split at e
    · rename_i a d hd
      split at e
      · rename_i ys hy
        split at e
        · rename_i hl
          cases e
          cases ro
          obtain ⟨G', s', r'⟩ := snap_ok r rv hd
          have fin := q (.str (Txt.join a ys)) ρ G H Stp.refl r (.str _)
          cases r' with
          | lst h hr => rw [strsD_ok hy hr] at h; exact ⟨a, _, ys, rfl, rfl, .inl (SqL.of (s' _ _ h)), hl, fin⟩
          | fls h hr => rw [strsD_ok hy hr] at h; exact ⟨a, _, ys, rfl, rfl, .inl (s'.seq h), hl, fin⟩
          | tup h hr => rw [strsD_ok hy hr] at h; exact ⟨a, _, ys, rfl, rfl, .inr (SqT.same s' h), hl, fin⟩
          | _ => cases hy
        · cases e
      · cases e
    · cases e
  · cases e
def splitW (own : Bool) (st : Store) (o : W) : List W → Option (W × Store)
  | [.d (.str b)] => match o with
    | .d (.str a) => if 0 < b.length ∧ a.length ≤ 1000000 then newL own ((Txt.split a b).map fun z => .d (.str z)) st else none
    | _ => none
  | _ => none
theorem strs_rep {ρ : Rho} {G : Hp} : ∀ zs : List Str, RepWs c ρ G (zs.map fun z => W.d (.str z)) (zs.map V.str)
  | [] => rfl
  | z :: zs => ⟨_, _, rfl, .str z, strs_rep zs⟩
def findW (st : Store) (o : W) : List W → Option (W × Store)
  | [.d (.str b)] => match o with
    | .d (.str a) => some (.d (.int (Txt.find a b)), st)
    | _ => none
  | _ => none
end
end EV
namespace EV
open PySem PySem.Spec PyProof.Rows L2
section
variable {c : Kx} {X : Cx} {U : WX} {e o a b i value : Expr} {es : List Expr} {x f : Str} {p p2 pos pos' apos cpos : Pos} {m : EM (List W)} {ma mb mi mo me ml mh : EM W}
theorem rep_at {ρ : Rho} {G : Hp} {ws : List W} {vs : List V} {k : Int} {w : W} (h : RepWs c ρ G ws vs) (e : atI ws k = some w) : ∃ v, atI vs k = some v ∧ RepW c ρ G w v := by
  unfold atI at e ⊢
  rw [h.len]
  cases q : ixN ws.length k with
  | none => rw [q] at e; cases e
  | some j =>
    rw [q] at e
    obtain ⟨v, h1, h2⟩ := h.get (show ws[j]? = some w from e)
    exact ⟨v, h1, h2⟩
def ixI (st : Store) (x : W) (k : Int) : Option (W × Store) := match x with
  | .d (.str z) => match atI z.cps.toList k with
    | some ch => if z.length ≤ 16777216 then some (.d (.str ⟨#[ch]⟩), st) else none
    | none => none
  | .d (.lst ds) => match atI ds k with
    | some d => some (.d d, st)
    | none => none
  | .d (.fls ds) => match atI ds k with
    | some d => some (.d d, st)
    | none => none
  | .d (.tup ds) => match atI ds k with
    | some d => some (.d d, st)
    | none => none
  | .d _ => none
  | .loc n => match st[n]? with
    | some (some (.lst ws)) => match atI ws k with
      | some w => some (w, st)
      | none => none
    | some (some (.tup ws)) => match atI ws k with
      | some w => some (w, st)
      | none => none
    | _ => none
def ixA (st : Store) (x y : W) : Option (W × Store) := match y with
  | .d (.int k) => ixI st x k
  | _ => none
theorem repD_at {G : Hp} {ds : List D} {vs : List V} {k : Int} {d : D} (h : RepDs c G ds vs) (e : atI ds k = some d) : ∃ v, atI vs k = some v ∧ RepD c G d v := by
  unfold atI at e ⊢
  rw [h.len]
  cases q : ixN ds.length k with
  | none => rw [q] at e; cases e
  | some j =>
    rw [q] at e
    obtain ⟨v, h1, h2⟩ := h.get (show ds[j]? = some d from e)
    exact ⟨v, h1, h2⟩
theorem s2_ixA : S2 c (rIx c.K) ixA := fun ρ G H st x y w st' vx vy Q r rx ry e q => by
  unfold ixA at e
  cases y with
  | loc n => cases e
  | d y =>
  cases y with
  | int k =>
    have e : ixI st x k = some (w, st') := e
    cases ry
    unfold ixI at e
    cases x with
    | d x =>
      cases x with
      | str z =>
        cases rx
        cases hc : atI z.cps.toList k with
        | none => simp only [hc] at e; cases e
        | some ch =>
          simp only [hc] at e
          split at e
          · rename_i hl
            cases e
            exact .inr (.inr ⟨z, k, ch, rfl, rfl, by rw [sizeLine_eq]; exact hl, hc, q _ ρ G H Stp.refl r (.str _)⟩)
          · cases e
      | lst ds =>
        cases ea : atI ds k with
        | none => simp only [ea] at e; cases e
        | some d =>
          simp only [ea] at e
          cases e
          cases rx with
          | lst h hr =>
            obtain ⟨v, h4, h5⟩ := repD_at hr ea
            exact .inl ⟨_, _, k, v, rfl, rfl, SqL.of (r.sub _ _ h), h4, q v ρ G H Stp.refl r h5⟩
      | fls ds =>
        cases ea : atI ds k with
        | none => simp only [ea] at e; cases e
        | some d =>
          simp only [ea] at e
          cases e
          cases rx with
          | fls h hr =>
            obtain ⟨v, h4, h5⟩ := repD_at hr ea
            exact .inl ⟨_, _, k, v, rfl, rfl, r.sub.seq h, h4, q v ρ G H Stp.refl r h5⟩
      | tup ds =>
        cases ea : atI ds k with
        | none => simp only [ea] at e; cases e
        | some d =>
          simp only [ea] at e
          cases e
          cases rx with
          | tup h hr =>
            obtain ⟨v, h4, h5⟩ := repD_at hr ea
            exact .inr (.inl ⟨_, _, k, v, rfl, rfl, SqT.same r.sub h, h4, q v ρ G H Stp.refl r h5⟩)
      | _ => cases e
    | loc n =>
      cases ho : st[n]? with
      | none => simp only [ho] at e; cases e
      | some oo =>
        cases oo with
        | none => simp only [ho] at e; cases e
        | some oo =>
          cases oo with
          | lst ws =>
            simp only [ho] at e
            cases ea : atI ws k with
            | none => simp only [ea] at e; cases e
            | some w' =>
              simp only [ea] at e
              cases e
              obtain ⟨p, hp, rfl⟩ := rx
              obtain ⟨_, _, _, vs, h, hr⟩ := r.own n p _ hp ho
              obtain ⟨v, h4, h5⟩ := rep_at hr ea
              exact .inl ⟨_, vs, k, v, rfl, rfl, SqL.of h, h4, q v ρ G H Stp.refl r h5⟩
          | dct _ _ => simp only [ho] at e; cases e
          | dtt _ _ => simp only [ho] at e; cases e
          | tab => simp only [ho] at e; cases e
          | ins _ _ _ => simp only [ho] at e; cases e
          | tup ws =>
            simp only [ho] at e
            cases ea : atI ws k with
            | none => simp only [ea] at e; cases e
            | some w' =>
              simp only [ea] at e
              cases e
              obtain ⟨p, hp, rfl⟩ := rx
              obtain ⟨_, _, _, vs, h, hr⟩ := r.own n p _ hp ho
              obtain ⟨v, h4, h5⟩ := rep_at hr ea
              exact .inr (.inl ⟨_, vs, k, v, rfl, rfl, SqT.of h, h4, q v ρ G H Stp.refl r h5⟩)
  | _ => cases e
theorem ee_ix (ha : EE c X U a ma) (hb : EE c X U b mb) (hs : PlainIx b) : EE c X U (.Subscript a b pos) (op2 ixA ma mb) :=
  EE.mk1 ha.K (pe_ix ix_seq ha.pe hb.pe hs) fun ρ G s σ H Q hR w => by
    have := wp_op2 (c := c) (r := rIx c.K) s2_ixA hR w
    rw [ha.K]
    exact this
def partE (o : Option (EM W)) : EM (Option Int) := match o with
  | none => pur none
  | some m => bnd m fun w => match w with
    | .d (.int i) => pur (some i)
    | _ => non
def tO (c : Kx) (U : WX) (m : EM (Option Int)) : TO := fun σ H Q => ∃ ρ G s, R c ρ G σ H s ∧ Wp c U m ρ G σ H s (fun z _ _ H' _ => Q z H')
structure EO (c : Kx) (X : Cx) (U : WX) (e : Option Expr) (m : EM (Option Int)) : Prop where
  po : PO X e (tO c U m)
theorem PO.imp {X : Cx} {e : Option Expr} {t t' : TO} (h : PO X e t) (q : ∀ σ H Q, t' σ H Q → t σ H Q) : PO X e t' := ⟨fun pins s σ H Q I x => h.run pins s σ H Q I (q σ H Q x)⟩
theorem eo_none : EO c X U none (partE none) := ⟨PO.imp po_none fun σ H Q ⟨ρ, G, s, hR, w⟩ => Wp.pur hR w⟩
theorem eo_some (h : EE c X U e me) : EO c X U (some e) (partE (some me)) := ⟨PO.imp (po_some h.pe) fun σ H Q ⟨ρ, G, s, hR, w⟩ => ⟨ρ, G, s, hR, (Wp.bnd hR w).imp fun z ρ1 G1 H1 s1 ⟨S1, R1, w1⟩ v rv => by
    cases z with
    | loc n => exact w1.none rfl
    | d z =>
      cases z with
      | int i => cases rv; exact ⟨i, rfl, Wp.pur R1 w1⟩
      | _ => exact w1.none rfl⟩⟩
def cutW {α : Type} (xs : List α) (lo hi : Option Int) : List α := List.take (HT.sIx xs.length xs.length hi - HT.sIx xs.length 0 lo) (List.drop (HT.sIx xs.length 0 lo) xs)
theorem rep_cut {ρ : Rho} {G : Hp} {ws : List W} {vs : List V} {lo hi : Option Int} (h : RepWs c ρ G ws vs) : RepWs c ρ G (cutW ws lo hi) (cutV vs lo hi) := by
  unfold cutW cutV
  rw [h.len]
  exact (h.drop _).take _
def sliceA (own : Bool) (st : Store) (x : W) (lo hi : Option Int) : Option (W × Store) := match x with
  | .d (.str z) => if z.length ≤ 16777216 then some (.d (.str (cutS z lo hi)), st) else none
  | .d (.tup ds) => if HT.sIx ds.length 0 lo = 0 ∧ HT.sIx ds.length ds.length hi = ds.length then some (.d (.tup ds), st) else some (.d (.tup (cutW ds lo hi)), st)
  | x => match listW st x with
    | some ws => newL own (cutW ws lo hi) st
    | none => none
def slE (own : Bool) (m : EM W) (ml mh : EM (Option Int)) : EM W := bnd m fun x => bnd ml fun lo => bnd mh fun hi => lft fun st => sliceA own st x lo hi
theorem sl_any : SlR X (fun x lo hi H Q => rSlL X.K x lo hi H Q ∨ rSlA X.K x lo hi H Q ∨ rSlS x lo hi H Q) := sl_list.or (sl_tupA.or sl_str)
theorem cutW_D (ds : List D) (lo hi : Option Int) : cutW (ds.map W.d) lo hi = (cutW ds lo hi).map W.d := by
  unfold cutW
  rw [List.length_map, List.map_take, List.map_drop]
theorem ee_slice {own : Bool} {lo hi : Option Expr} {nl nh : EM (Option Int)} (h : EE c X U e me) (hl : EO c X U lo nl) (hh : EO c X U hi nh) : EE c X U (.Subscript e (.Slice lo hi none p2) pos) (slE own me nl nh) :=
  EE.mk1 h.K (pe_slice sl_any h.pe hl.po hh.po) fun ρ G s σ H Q hR w => ⟨ρ, G, s, hR, (Wp.bnd hR w).imp fun z ρ1 G1 H1 s1 ⟨S1, R1, w1⟩ v rv =>
    ⟨ρ1, G1, s1, R1, (Wp.bnd R1 w1).imp fun l ρ2 G2 H2 s2 ⟨S2, R2, w2⟩ => ⟨ρ2, G2, s2, R2, (Wp.bnd R2 w2).imp fun u ρ3 G3 H3 s3 ⟨S3, R3, w3⟩ => by
      obtain ⟨w, st', e, q⟩ := Wp.lft w3
      have rv3 : RepW c ρ3 G3 z v := (rv.mono S2.rho S2.same).mono S3.rho S3.same
      have r := R3.rs
      rw [h.K]
      unfold sliceA at e
      split at e
      · split at e
        · rename_i y _ hl
          cases e
          cases rv3
          exact .inr (.inr ⟨_, rfl, by rw [sizeLine_eq]; assumption, q ρ3 G3 H3 Stp.refl R3 _ (.str _)⟩)
        · cases e
      · split at e
        · rename_i hn
          cases e
          cases rv3 with
          | tup ht hr =>
            rename_i a us
            refine .inr (.inl ⟨a, us, rfl, SqT.same r.sub ht, fun _ => q ρ3 G3 H3 Stp.refl R3 _ (.tup ht hr), fun h => absurd (by rw [hr.len]; exact hn) h⟩)
        · rename_i hn
          cases e
          cases rv3 with
          | tup ht hr =>
            rename_i a us
            refine .inr (.inl ⟨a, us, rfl, SqT.same r.sub ht, fun h => absurd (by rw [hr.len] at h; exact h) hn, fun _ p hp => ?_⟩)
            obtain ⟨S4, r4⟩ := new_frozen (o := .tup (cutV us l u)) r hp
            refine q ρ3 _ _ S4 ⟨r4, R3.env.mono S4.rho S4.same, R3.len⟩ _ (.tup (SqT.of upd_same) (RepDs.mono S4.same ?_))
            have := rep_cut (lo := l) (hi := u) (RepWs.ofD (ρ := ρ3) hr)
            rw [cutW_D] at this
            exact RepWs.toD this
      · cases el : listW s3.st z with
        | none => simp only [el] at e; cases e
        | some ws =>
          simp only [el] at e
          obtain ⟨a, us, rfl, h1, h3⟩ := listW_ok r rv3 el
          refine .inl ⟨a, us, rfl, h1, fun p hp => ?_⟩
          obtain ⟨ρ', G', S4, r4, rw4⟩ := newL_ok r (rep_cut (lo := l) (hi := u) h3) e hp
          exact q ρ' G' _ S4 ⟨r4, R3.env.mono S4.rho S4.same, R3.len⟩ _ rw4⟩⟩⟩
def tupE (m : EM (List W)) : EM W := bnd (treesE m) fun ds => if ds.length ≤ 16777216 then pur' ds else non
where pur' (ds : List D) : EM W := pur (.d (.tup ds))
def lstE (own : Bool) (m : EM (List W)) : EM W := bnd m fun ws => if ws.length ≤ 16777216 then lft (newL own ws) else non
theorem ee_tup {k} (h : EA c X U es m) : EE c X U (.Tuple es k pos) (tupE m) :=
  EE.mk1 h.K (pe_tup h.pa) fun ρ G s σ H Q hR w => ⟨ρ, G, s, hR, (wp_trees hR w).imp fun ws ρ1 G1 H1 s1 ⟨ds, ew, S1, R1, w1⟩ vs rvs => by
    subst ew
    by_cases hl : ds.length ≤ 16777216
    · rw [if_pos hl] at w1
      have rd := RepWs.toD rvs
      refine ⟨by rw [rd.len, sizeLine_eq]; exact hl, fun p hp => ?_⟩
      obtain ⟨S2, r2⟩ := new_frozen (o := .tup vs) R1.rs hp
      exact Wp.okE (s' := s1) (a := W.d (.tup ds)) rfl w1 ρ1 _ _ S2 ⟨r2, R1.env.mono S2.rho S2.same, R1.len⟩ _ (.tup (SqT.of upd_same) (rd.mono S2.same))
    · rw [if_neg hl] at w1
      exact w1.none rfl⟩
theorem ee_lst {own : Bool} (h : EA c X U es m) : EE c X U (.List es pos) (lstE own m) :=
  EE.mk1 h.K (pe_lst h.pa) fun ρ G s σ H Q hR w => ⟨ρ, G, s, hR, (Wp.bnd hR w).imp fun ws ρ1 G1 H1 s1 ⟨S1, R1, w1⟩ vs rvs => by
    by_cases hl : ws.length ≤ 16777216
    · rw [if_pos hl] at w1
      refine ⟨by rw [rvs.len, sizeLine_eq]; exact hl, fun p hp => ?_⟩
      obtain ⟨w, st', e, q⟩ := Wp.lft w1
      obtain ⟨ρ', G', S2, r2, rw2⟩ := newL_ok R1.rs rvs e hp
      exact q ρ' G' _ S2 ⟨r2, R1.env.mono S2.rho S2.same, R1.len⟩ _ rw2
    · rw [if_neg hl] at w1
      exact w1.none rfl⟩
def fget : List Nat → List W → Nat → Option W
  | k :: ks, w :: ws, i => if k = i then some w else fget ks ws i
  | _, _, _ => none
def fput : List Nat → List W → Nat → W → List Nat × List W
  | k :: ks, w :: ws, i, y => if k = i then (k :: ks, y :: ws) else let r := fput ks ws i y; (k :: r.1, w :: r.2)
  | _, _, i, y => ([i], [y])
def insW (st : Store) : W → Option (Nat × List Nat × List W)
  | .d (.ins k ks ds) => some (k, ks, ds.map .d)
  | .d _ => none
  | .loc n => match st[n]? with
    | some (some (.ins k ks ws)) => some (k, ks, ws)
    | _ => none
theorem nm_inj {i j : Nat} (hi : i < c.fn.length) (hj : j < c.fn.length) (e : c.nm i = c.nm j) : i = j := by
  unfold Kx.nm at e
  rw [List.getD_eq_getElem?_getD, List.getD_eq_getElem?_getD, List.getElem?_eq_getElem hi, List.getElem?_eq_getElem hj] at e
  exact (List.getElem_inj c.nd).mp e
theorem fget_ok {ρ : Rho} {G : Hp} {i : Nat} {w : W} (hi : i < c.fn.length) : ∀ {ks : List Nat} {ws : List W} {vs : List V}, (∀ k ∈ ks, k < c.fn.length) → RepWs c ρ G ws vs → fget ks ws i = some w → i ∈ ks ∧ ∃ v, ((ks.map c.nm).zip vs).lookup (c.nm i) = some v ∧ RepW c ρ G w v
  | [], _, _, _, _, e => by unfold fget at e; cases e
  | k :: ks, [], _, _, _, e => by unfold fget at e; cases e
  | k :: ks, w' :: ws, _, hk, ⟨v, vs, q, h, t⟩, e => by
    subst q
    unfold fget at e
    show _ ∧ ∃ v', (match c.nm i == c.nm k with | true => some v | false => ((ks.map c.nm).zip vs).lookup (c.nm i)) = some v' ∧ _
    by_cases z : k = i
    · rw [if_pos z] at e
      cases e
      subst z
      exact ⟨List.mem_cons_self, v, by simp, h⟩
    · rw [if_neg z] at e
      obtain ⟨h1, v', h2, h3⟩ := fget_ok hi (fun k' h' => hk k' (List.mem_cons_of_mem _ h')) t e
      have ne : (c.nm i == c.nm k) = false := beq_eq_false_iff_ne.mpr fun e => z (nm_inj hi (hk k List.mem_cons_self) e).symm
      rw [ne]
      exact ⟨List.mem_cons_of_mem _ h1, v', h2, h3⟩
def fldE (i : Nat) (m : EM W) : EM W := bnd m fun w => fun s => match insW s.st w with
  | some (_, ks, ws) => match fget ks ws i with
    | some y => some (.ok y, s)
    | none => none
  | none => none
theorem putF_ok {ρ : Rho} {G : Hp} {i : Nat} {y : W} {u : V} (hi : i < c.fn.length) (hy : RepW c ρ G y u) : ∀ {ks : List Nat} {ws : List W} {vs : List V}, (∀ k ∈ ks, k < c.fn.length) → ks.length = ws.length → RepWs c ρ G ws vs →
    ∃ vs', putF (c.nm i) u ((ks.map c.nm).zip vs) = (((fput ks ws i y).1).map c.nm).zip vs' ∧ RepWs c ρ G (fput ks ws i y).2 vs' ∧ (fput ks ws i y).1.length = (fput ks ws i y).2.length ∧ ∀ k ∈ (fput ks ws i y).1, k ∈ ks ∨ k = i
  | [], [], _, _, _, h => by
    have h : _ = [] := h
    subst h
    exact ⟨[u], rfl, ⟨u, [], rfl, hy, rfl⟩, rfl, fun k hk => .inr (by simpa [fput] using hk)⟩
  | [], _ :: _, _, _, h, _ => by cases h
  | _ :: _, [], _, _, h, _ => by cases h
  | k :: ks, w :: ws, _, hk, hl, ⟨v, vs, q, h, t⟩ => by
    subst q
    unfold fput
    by_cases z : k = i
    · subst z
      rw [if_pos rfl]
      refine ⟨u :: vs, ?_, ⟨u, vs, rfl, hy, t⟩, hl, fun k' hk' => .inl hk'⟩
      show (if c.nm k = c.nm k then (c.nm k, u) :: _ else _) = _
      rw [if_pos rfl]
      rfl
    · rw [if_neg z]
      obtain ⟨vs', h1, h2, h3, h4⟩ := putF_ok hi hy (fun k' h' => hk k' (List.mem_cons_of_mem _ h')) (Nat.succ.inj hl) t
      refine ⟨v :: vs', ?_, ⟨v, vs', rfl, h, h2⟩, congrArg (· + 1) h3, fun k' hk' => ?_⟩
      · have ne : ¬ c.nm k = c.nm i := fun e => z (nm_inj (hk k List.mem_cons_self) hi e)
        show (if c.nm k = c.nm i then _ else (c.nm k, v) :: putF (c.nm i) u ((ks.map c.nm).zip vs)) = _
        rw [if_neg ne, h1]
        rfl
      · rcases List.mem_cons.mp hk' with e | e
        · exact .inl (by rw [e]; exact List.mem_cons_self)
        · rcases h4 k' e with e | e
          · exact .inl (List.mem_cons_of_mem _ e)
          · exact .inr e
def sfldS (ok : List Nat) (i : Nat) (mo m : EM W) : EM Fl := bnd m fun y => bnd mo fun w => fun s => match w with
  | .loc n => match s.st[n]? with
    | some (some (.ins k ks ws)) => if ok.contains k && decide (ks.length < 900) then some (.ok .nx, ⟨s.env, s.st.set n (some (.ins k (fput ks ws i y).1 (fput ks ws i y).2))⟩) else none
    | _ => none
  | _ => none
end
end EV
namespace EV
open PySem PySem.Spec PyProof.Rows L2
open PySem.Sem (wp)
def ItAt (h : Heap) (it l : Addr) (k : Nat) (xs : Array Value) : Prop := (h.IsListIter it l k ∧ h.IsList l xs) ∨ (h.IsTupleIter it l k ∧ h.IsTuple l xs)
theorem ItAt.ext {h h' : Heap} {it l c : Addr} {k : Nat} {xs : Array Value} (q : ItAt h it l k xs) (e : Heap.ExtBut c h h') (n1 : it ≠ c) (n2 : l ≠ c) : ItAt h' it l k xs := by
  rcases q with ⟨q1, q2⟩ | ⟨q1, q2⟩
  · exact .inl ⟨q1.extBut e n1, q2.extBut e n2⟩
  · exact .inr ⟨q1.extBut e n1, q2.extBut e n2⟩
section
variable {prog : Program} {w : World} {A : Around} {E : Value → Shared → Prop} {s : Shared}
end
theorem ItAt.lst {h : Heap} {it l : Addr} {k : Nat} {xs ys : Array Value} (q : ItAt h it l k xs) (t : h.IsList l ys) : h.IsListIter it l k := by
  rcases q with ⟨q, _⟩ | ⟨_, o, g, c, _⟩
  · exact q
  · obtain ⟨o2, g2, c2, _⟩ := t
    rw [g] at g2
    cases g2
    exact absurd (c.symm.trans c2) (fun q => by injection q with q; exact absurd q (by decide))
theorem ItAt.tup {h : Heap} {it l : Addr} {k : Nat} {xs ys : Array Value} (q : ItAt h it l k xs) (t : h.IsTuple l ys) : h.IsTupleIter it l k := by
  rcases q with ⟨_, o, g, c, _⟩ | ⟨q, _⟩
  · obtain ⟨o2, g2, c2, _⟩ := t
    rw [g] at g2
    cases g2
    exact absurd (c.symm.trans c2) (fun q => by injection q with q; exact absurd q (by decide))
  · exact q
def ItzM (K : PySem.W.Frag) (a b : Addr) : It :=
  ⟨fun i H => ∃ (xs ys : List V) (x y : V), SqL K H a xs ∧ SqT K H b ys ∧ xs[i]? = some x ∧ ys[i]? = some y,
    fun i H v H2 => ∃ T x y, v = .ref T ∧ H T = none ∧ H2 = upd H T (.tup [x, y]) ∧ (∀ xs, SqL K H a xs → xs[i]? = some x) ∧ ∀ ys, SqT K H b ys → ys[i]? = some y,
    fun i H => ∃ xs ys : List V, SqL K H a xs ∧ SqT K H b ys ∧ (xs.length ≤ i ∨ ys.length ≤ i)⟩
abbrev zM1 (h : Heap) (l : Addr) : Heap := h.push { cls := .type "list_iterator", data := .fields #[.ref l, .int 0 0] }
abbrev zM2 (h : Heap) (l l2 : Addr) : Heap := (zM1 h l).push { cls := .type "tuple_iterator", data := .fields #[.ref l2, .int 0 0] }
abbrev zM3 (h : Heap) (l l2 : Addr) : Heap := (zM2 h l l2).push { cls := .type "tuple", data := .seq #[.ref h.objs.size, .ref (zM1 h l).objs.size] }
abbrev zM4 (h : Heap) (l l2 : Addr) : Heap := (zM3 h l l2).push { cls := .type "tuple", data := .seq #[.none, .none] }
abbrev zM5 (h : Heap) (l l2 : Addr) : Heap := (zM4 h l l2).push { cls := .type "zip", data := .fields #[.none, .bool false, .bool false, .ref (zM2 h l l2).objs.size, .ref (zM3 h l l2).objs.size] }
def iZipX (K : PySem.W.Frag) (ta : TA) : TI := fun σ H R => ta σ H fun vs H1 => ∃ a b xs ys, vs = [.ref a, .ref b] ∧ SqL K H1 a xs ∧ ((SqL K H1 b ys ∧ R (Itz K a b) H1) ∨ (SqT K H1 b ys ∧ R (ItzM K a b) H1))
end EV
namespace EV
open PySem PySem.Spec PyProof.Rows L2
section
variable {c : Kx} {X : Cx} {U : WX} {e o a b tg iter : Expr} {es : List Expr} {x f : Str} {p p2 pos pos' tpos : Pos} {m : EM (List W)} {ma mb mi mo me : EM W}
theorem Wp.exE {α : Type} {mm : EM α} {ρ : Rho} {G H : Hp} {σ : L2.St} {s s' : SS} {k k' : α → Rho → Hp → Hp → SS → Prop} {C : Nat} {ks : List Nat} {ds : List D} (e : mm s = some (.ex C ks ds, s')) (h : Wp c U mm ρ G σ H s k) : Wp c U mm ρ G σ H s k' := by
  unfold Wp at h ⊢
  rw [e] at h ⊢
  exact h
theorem PI.imp {w1 w2 : TI} (h : PI X tg iter w1) (q : ∀ σ H Rk, w2 σ H Rk → w1 σ H Rk) : PI X tg iter w2 := ⟨fun pins s σ H Rk I x => h.run pins s σ H Rk I (q σ H Rk x)⟩
theorem PI.or {w1 w2 : TI} (h1 : PI X tg iter w1) (h2 : PI X tg iter w2) : PI X tg iter (fun σ H Rk => w1 σ H Rk ∨ w2 σ H Rk) := ⟨fun pins s σ H Rk I x => x.elim (h1.run pins s σ H Rk I) (h2.run pins s σ H Rk I)⟩
def itemsD : D → Option (List D)
  | .lst ds => some ds
  | .fls ds => some ds
  | .tup ds => some ds
  | .str z => some (z.cps.toList.map fun k => .str ⟨#[k]⟩)
  | _ => none
def itemsE (m : EM W) : EM (List D) := bnd m fun w => match w with
  | .d x => match itemsD x with
    | some ds => pur ds
    | none => non
  | .loc _ => non
theorem iter_list {G : Hp} {a : Addr} {ds : List D} {vs : List V} (h : SqL c.K G a vs) (r : RepDs c G ds vs) : Iter c G (Itl c.K a) ds where
  go := fun i H s hi => by
    obtain ⟨v, h1, _⟩ := r.get (List.getElem?_eq_getElem hi)
    exact ⟨vs, v, s.seq h, h1⟩
  stop := fun H s => ⟨vs, s.seq h, by rw [r.len]; exact Nat.le_refl _⟩
  yld := fun i H x H' d s hd hy ρ G1 st sG rs => by
    obtain ⟨e, hy⟩ := hy
    subst e
    obtain ⟨v, h1, h2⟩ := r.get hd
    have := hy vs (s.seq h)
    rw [h1] at this
    cases this
    exact ⟨G1, Stp.refl, rs, h2.mono sG⟩
theorem iter_tup {G : Hp} {a : Addr} {ds : List D} {vs : List V} (h : SqT c.K G a vs) (r : RepDs c G ds vs) : Iter c G (Itt c.K a) ds where
  go := fun i H s hi => by
    obtain ⟨v, h1, _⟩ := r.get (List.getElem?_eq_getElem hi)
    exact ⟨vs, v, SqT.same s h, h1⟩
  stop := fun H s => ⟨vs, SqT.same s h, by rw [r.len]; exact Nat.le_refl _⟩
  yld := fun i H x H' d s hd hy ρ G1 st sG rs => by
    obtain ⟨e, hy⟩ := hy
    subst e
    obtain ⟨v, h1, h2⟩ := r.get hd
    have := hy vs (SqT.same s h)
    rw [h1] at this
    cases this
    exact ⟨G1, Stp.refl, rs, h2.mono sG⟩
theorem iter_str {G : Hp} {z : Str} : Iter c G (Its z) (z.cps.toList.map fun k => .str ⟨#[k]⟩) where
  go := fun i H s hi => by
    rw [List.length_map] at hi
    show i < z.cps.size
    simpa using hi
  stop := fun H s => by
    show z.cps.size ≤ _
    simp
  yld := fun i H x H' d s hd hy ρ G1 st sG rs => by
    obtain ⟨e, k, hk, hx⟩ := hy
    subst e
    rw [List.getElem?_map] at hd
    have e2 : z.cps.toList[i]? = some k := by simpa using hk
    rw [e2] at hd
    cases hd
    subst hx
    exact ⟨G1, Stp.refl, rs, .str _⟩
theorem iter_range {G : Hp} {lo : Int} {n : Nat} : Iter c G (Itr lo n) ((List.range n).map fun (i : Nat) => D.int (lo + (i : Int))) where
  go := fun i H s hi => by
    rw [List.length_map, List.length_range] at hi
    exact hi
  stop := fun H s => by
    show n ≤ _
    simp
  yld := fun i H x H' d s hd hy ρ G1 st sG rs => by
    obtain ⟨e, hx⟩ := hy
    subst e
    rw [List.getElem?_map] at hd
    cases q : (List.range n)[i]? with
    | none => rw [q] at hd; cases hd
    | some j =>
      rw [q] at hd
      cases hd
      have : j = i := by
        have := List.getElem?_eq_some_iff.mp q
        obtain ⟨_, e⟩ := this
        simp at e
        exact e.symm
      subst this
      subst hx
      exact ⟨G1, Stp.refl, rs, .int _⟩
theorem ei_seq (h : EE c X U e me) : EI c X U tg e (itemsE me) :=
  ⟨h.K, PI.imp (PI.or (pi_list h.pe) (PI.or (pi_tup h.pe) (pi_str h.pe))) fun σ H Rk ⟨ρ, G, s, hR, w⟩ => by
    have w1 := Wp.bnd hR w
    cases q : me s with
    | none => exact w1.none q
    | some z =>
      obtain ⟨o, s1⟩ := z
      cases o with
      | ex C ks es => exact .inl ⟨ρ, G, s, hR, Wp.exE q w1⟩
      | ok y =>
        have w2 := Wp.okE q w1
        cases y with
        | loc n => exact .inl ⟨ρ, G, s, hR, Wp.ok q fun ρ' G' H' S R' => (w2 ρ' G' H' S R').2.2.none rfl⟩
        | d y =>
          cases hy : itemsD y with
          | none => exact .inl ⟨ρ, G, s, hR, Wp.ok q fun ρ' G' H' S R' => (w2 ρ' G' H' S R').2.2.none (by simp only [hy]; rfl)⟩
          | some ds =>
            simp only [hy] at w2
            rw [h.K]
            cases y with
            | lst xs =>
              cases hy
              refine .inl ⟨ρ, G, s, hR, Wp.ok q fun ρ' G' H' S R' v rv => ?_⟩
              cases rv with
              | lst hg hr => exact ⟨_, rfl, ⟨_, SqL.of (R'.rs.sub _ _ hg)⟩, Wp.pur R' (w2 ρ' G' H' S R').2.2 _ (iter_list (SqL.of hg) hr)⟩
            | fls xs =>
              cases hy
              refine .inl ⟨ρ, G, s, hR, Wp.ok q fun ρ' G' H' S R' v rv => ?_⟩
              cases rv with
              | fls hg hr => exact ⟨_, rfl, ⟨_, R'.rs.sub.seq hg⟩, Wp.pur R' (w2 ρ' G' H' S R').2.2 _ (iter_list hg hr)⟩
            | tup xs =>
              cases hy
              refine .inr (.inl ⟨ρ, G, s, hR, Wp.ok q fun ρ' G' H' S R' v rv => ?_⟩)
              cases rv with
              | tup hg hr => exact ⟨_, rfl, ⟨_, SqT.same R'.rs.sub hg⟩, Wp.pur R' (w2 ρ' G' H' S R').2.2 _ (iter_tup hg hr)⟩
            | str z =>
              cases hy
              refine .inr (.inr ⟨ρ, G, s, hR, Wp.ok q fun ρ' G' H' S R' v rv => ?_⟩)
              cases rv
              exact ⟨z, rfl, Wp.pur R' (w2 ρ' G' H' S R').2.2 _ iter_str⟩
            | _ => cases hy⟩
def rngL (lo : Int) (n : Nat) : List D := (List.range n).map fun (i : Nat) => D.int (lo + (i : Int))
def range1E (m : EM (List W)) : EM (List D) := bnd m fun ws => match ws with
  | [.d (.int j)] => if j < 1000000000 ∧ -1000000000 < j then pur (rngL 0 j.toNat) else non
  | _ => non
def range2E (m : EM (List W)) : EM (List D) := bnd m fun ws => match ws with
  | [.d (.int i), .d (.int j)] => if (j < 1000000000 ∧ -1000000000 < j) ∧ i < 1000000000 ∧ -1000000000 < i then pur (rngL i (j - i).toNat) else non
  | _ => non
theorem ei_range1 (hg : Gl X "range") (hm : X.mg "range" = none) (ha : EA c X U [a] m) (hs : starEach [a] X.env = [(false, eval a X.env)] := by rfl) : EI c X U tg (.Call (.Name "range" p) [a] [] pos) (range1E m) :=
  ⟨ha.K, PI.imp (pi_range1 hg hm ha.pa hs) fun σ H Rk ⟨ρ, G, s, hR, w⟩ => ⟨ρ, G, s, hR, (Wp.bnd hR w).imp fun ws ρ1 G1 H1 s1 ⟨S1, R1, w1⟩ vs rvs => by
    split at w1
    · rename_i j _
      split at w1
      · rename_i hj
        obtain ⟨v, rfl, rv⟩ := one_rep rvs
        cases rv
        exact ⟨j, rfl, by omega, by omega, Wp.pur R1 w1 _ iter_range⟩
      · exact w1.none rfl
    · exact w1.none rfl⟩⟩
def listD : D → Option (List D)
  | .lst ds => some ds
  | .fls ds => some ds
  | _ => none
theorem listD_ok {G : Hp} {d : D} {ds : List D} {v : V} (e : listD d = some ds) (r : RepD c G d v) : ∃ a vs, v = .ref a ∧ SqL c.K G a vs ∧ RepDs c G ds vs := by
  cases r <;> cases e
  · rename_i h r; exact ⟨_, _, rfl, SqL.of h, r⟩
  · rename_i h r; exact ⟨_, _, rfl, h, r⟩
def zipD : List D → List D → List D
  | x :: xs, y :: ys => .tup [x, y] :: zipD xs ys
  | _, _ => []
theorem zipD_len : ∀ (xs ys : List D), (zipD xs ys).length = min xs.length ys.length
  | [], _ => by simp [zipD]
  | _ :: _, [] => by simp [zipD]
  | x :: xs, y :: ys => by simp [zipD, zipD_len xs ys]
theorem zipD_get : ∀ {xs ys : List D} {i : Nat} {d : D}, (zipD xs ys)[i]? = some d → ∃ x y, xs[i]? = some x ∧ ys[i]? = some y ∧ d = .tup [x, y]
  | [], _, _, _, h => by simp [zipD] at h
  | _ :: _, [], _, _, h => by simp [zipD] at h
  | x :: xs, y :: ys, 0, d, h => ⟨x, y, rfl, rfl, by simpa [zipD] using h.symm⟩
  | x :: xs, y :: ys, i + 1, d, h => by
    obtain ⟨x', y', h1, h2, h3⟩ := zipD_get (xs := xs) (ys := ys) (i := i) (d := d) (by simpa [zipD] using h)
    exact ⟨x', y', by simpa using h1, by simpa using h2, h3⟩
def enumD (n : Nat) : List D → List D
  | [] => []
  | x :: xs => .tup [.int n, x] :: enumD (n + 1) xs
theorem enumD_len : ∀ (n : Nat) (xs : List D), (enumD n xs).length = xs.length
  | _, [] => rfl
  | n, x :: xs => by simp [enumD, enumD_len (n + 1) xs]
theorem enumD_get : ∀ {n : Nat} {xs : List D} {i : Nat} {d : D}, (enumD n xs)[i]? = some d → ∃ x, xs[i]? = some x ∧ d = .tup [.int (n + i : Nat), x]
  | _, [], _, _, h => by simp [enumD] at h
  | n, x :: xs, 0, d, h => ⟨x, rfl, by simpa [enumD] using h.symm⟩
  | n, x :: xs, i + 1, d, h => by
    obtain ⟨x', h1, h2⟩ := enumD_get (n := n + 1) (xs := xs) (i := i) (d := d) (by simpa [enumD] using h)
    refine ⟨x', by simpa using h1, ?_⟩
    rw [h2]
    have : n + 1 + i = n + (i + 1) := by omega
    rw [this]
theorem iter_rev {G : Hp} {a : Addr} {xs : List D} {vs : List V} (h : SqL c.K G a vs) (r : RepDs c G xs vs) : Iter c G (Itv c.K a vs.length) xs.reverse where
  go := fun i H s hi => by
    rw [List.length_reverse] at hi
    obtain ⟨v, h1, _⟩ := r.get (List.getElem?_eq_getElem (show xs.length - 1 - i < xs.length by omega))
    exact ⟨by rw [r.len]; exact hi, vs, v, s.seq h, by rw [r.len]; exact h1⟩
  stop := fun H s => by
    show vs.length ≤ _
    rw [List.length_reverse, r.len]
    exact Nat.le_refl _
  yld := fun i H x H' d s hd hy ρ G1 st sG rs => by
    obtain ⟨e, hy⟩ := hy
    subst e
    have hi : i < xs.length := by
      have := (List.getElem?_eq_some_iff.mp hd).1
      simpa using this
    rw [List.getElem?_reverse hi] at hd
    obtain ⟨v, h1, h2⟩ := r.get hd
    have := hy vs (s.seq h)
    rw [r.len, h1] at this
    cases this
    exact ⟨G1, Stp.refl, rs, h2.mono sG⟩
def listT : D → Option (List D)
  | .lst ds => some ds
  | .fls ds => some ds
  | .tup ds => some ds
  | _ => none
def zipE (m : EM (List W)) : EM (List D) := bnd (treesE m) fun ds => match ds with
  | [x, y] => match listD x, listT y with
    | some xs, some ys => pur (zipD xs ys)
    | _, _ => non
  | _ => non
def enumE (m : EM (List W)) : EM (List D) := bnd (treesE m) fun ds => match ds with
  | [x] => match listD x with
    | some xs => pur (enumD 0 xs)
    | none => non
  | _ => non
def revE (m : EM (List W)) : EM (List D) := bnd (treesE m) fun ds => match ds with
  | [x] => match listD x with
    | some xs => pur xs.reverse
    | none => non
  | _ => non
theorem ei_rev (hg : Gl X "reversed") (hm : X.mg "reversed" = none) (ha : EA c X U [a] m) (hs : starEach [a] X.env = [(false, eval a X.env)] := by rfl) : EI c X U tg (.Call (.Name "reversed" p) [a] [] pos) (revE m) :=
  ⟨ha.K, PI.imp (pi_reversed hg hm ha.pa hs) fun σ H Rk ⟨ρ, G, s, hR, w⟩ => ⟨ρ, G, s, hR, (wp_trees hR w).imp fun ws ρ1 G1 H1 s1 ⟨ds, ew, S1, R1, w1⟩ vs rvs => by
    subst ew
    split at w1
    · rename_i x
      split at w1
      · rename_i xs hx
        obtain ⟨v, rfl, rv⟩ := one_rep rvs
        obtain ⟨a1, u1, rfl, g1, r1⟩ := listD_ok hx rv
        rw [ha.K]
        exact ⟨a1, u1, rfl, R1.rs.sub.seq g1, Wp.pur R1 w1 _ (iter_rev g1 r1)⟩
      · exact w1.none rfl
    · exact w1.none rfl⟩⟩
end
end EV
namespace EV
open PySem PySem.Spec PyProof.Rows L2
def wipeO (env : List (Option W)) : List Nat → List (Option W)
  | [] => env
  | v :: vs => (wipeO env vs).set v none
theorem wipeO_len (env : List (Option W)) : ∀ vs : List Nat, (wipeO env vs).length = env.length
  | [] => rfl
  | v :: vs => by
    unfold wipeO
    rw [List.length_set]
    exact wipeO_len env vs
def wipS (own : List Nat) : EM Unit := fun s => some (.ok (), ⟨wipeO s.env own, s.st⟩)
def compL (own : List Nat) (t : Tg) (tt : EM Bool) (el : EM W) : List D → List W → EM (List W)
  | [], acc => pur acc
  | d :: ds, acc => bnd (bnd (wipS own) fun _ => asg t (.d d)) fun _ => bnd tt fun b => if b then bnd el fun w => (if acc.length < 16777216 then compL own t tt el ds (acc ++ [w]) else non) else compL own t tt el ds acc
def compE (own : List Nat) (mi : EM (List D)) (t : Tg) (tt : EM Bool) (el : EM W) (ownr : Bool) : EM W := bnd mi fun ds => fun s => match compL own t tt el ds [] s with
  | some (.ok ws, s3) => match newL ownr ws s3.st with
    | some (w, st) => some (.ok w, ⟨wipeO s3.env own, st⟩)
    | none => none
  | _ => none
def hid (D : Addr) (H : Hp) : Hp := fun a => if a = D then none else H a
theorem hid_ne {D a : Addr} {H : Hp} (h : a ≠ D) : hid D H a = H a := if_neg h
theorem hid_same {D : Addr} {H : Hp} : hid D H D = none := if_pos rfl
theorem hid_some {D a : Addr} {H : Hp} {u : HO} (h : hid D H a = some u) : a ≠ D ∧ H a = some u := by
  by_cases e : a = D
  · subst e; rw [hid_same] at h; cases h
  · rw [hid_ne e] at h; exact ⟨e, h⟩
theorem hid_none {D a : Addr} {H : Hp} (h : H a = none) : hid D H a = none := by
  by_cases e : a = D
  · subst e; exact hid_same
  · rw [hid_ne e]; exact h
theorem hid_upd {D : Addr} {H : Hp} {u : HO} : hid D (upd H D u) = hid D H := by
  funext a
  by_cases e : a = D
  · subst e; rw [hid_same, hid_same]
  · rw [hid_ne e, hid_ne e, upd_ne e]
theorem upd_hid {D : Addr} {H : Hp} {u : HO} (h : H D = some u) : upd (hid D H) D u = H := by
  funext a
  by_cases e : a = D
  · subst e; rw [upd_same, h]
  · rw [upd_ne e, hid_ne e]
def NotOwn (D : Addr) (ρ : Rho) (st : Store) : Prop := ∀ (n : Nat) (p : Addr × Addr) (o : OO), ρ[n]? = some p → st[n]? = some (some o) → p.1 ≠ D ∧ p.2 ≠ D
section
variable {c : Kx} {ρ ρ' : Rho} {G H G' H' : Hp} {st st' : Store} {D : Addr} {u : HO}
theorem Stp.hid (S : Stp ρ G H st ρ' G' H' st') : Stp ρ G (hid D H) st ρ' G' (EV.hid D H') st' where
  same := S.same
  rho := S.rho
  live := S.live
  keep := fun a u h hn => by
    obtain ⟨e, h⟩ := hid_some h
    rw [hid_ne e]
    exact S.keep a u h hn
  there := fun a u h => by
    obtain ⟨e, h⟩ := hid_some h
    rw [hid_ne e]
    exact S.there a u h
  fresh := fun a u h h' => (S.fresh a u h h').imp (fun z => hid_none z) (fun z => z)
  new := fun n p hn hp => ⟨hid_none (S.new n p hn hp).1, hid_none (S.new n p hn hp).2⟩
theorem NotOwn.step (S : Stp ρ G H st ρ' G' H' st') (hD : H D = some u) (nD : NotOwn D ρ st) : NotOwn D ρ' st' := fun n p o hp ho => by
  by_cases hn : n < ρ.length
  · obtain ⟨o', e⟩ := S.live n o hn ho
    have e2 := S.rho n _ (List.getElem?_eq_getElem hn)
    rw [hp] at e2
    exact nD n p o' (by rw [List.getElem?_eq_getElem hn]; exact e2.symm) e
  · obtain ⟨e1, e2⟩ := S.new n p (by omega) hp
    exact ⟨fun e => (by rw [e, hD] at e1; cases e1), fun e => (by rw [e, hD] at e2; cases e2)⟩
theorem NotOwn.gn (S : Stp ρ G H st ρ' G' H' st') (hD : H D = some u) (nD : NotOwn D ρ st) (g : G D = none) : G' D = none := by
  cases q : G' D with
  | none => rfl
  | some w =>
    rcases S.fresh D w g q with z | ⟨n, p, o, h1, h2, h3⟩
    · rw [hD] at z; cases z
    · obtain ⟨a1, a2⟩ := nD n p o h1 h2
      rcases h3 with h3 | h3
      · exact absurd h3.symm a1
      · exact absurd h3.symm a2
theorem NotOwn.keep (S : Stp ρ G H st ρ' G' H' st') (hD : H D = some u) (nD : NotOwn D ρ st) : H' D = some u := S.keep D u hD fun n p o h1 h2 => nD n p o h1 h2
theorem RS.hid (r : RS c ρ G H st) (g : G D = none) (nD : NotOwn D ρ st) : RS c ρ G (EV.hid D H) st where
  sub := fun a u h => by
    have e : a ≠ D := fun e => by rw [e, g] at h; cases h
    rw [hid_ne e]
    exact r.sub a u h
  len := r.len
  own := fun n p o hp ho => by
    obtain ⟨b1, b2, b3⟩ := r.own n p o hp ho
    obtain ⟨a1, a2⟩ := nD n p o hp ho
    exact ⟨b1, b2, b3.mono (Rle.refl _) (Same.refl _) (fun o e => by rw [hid_ne a1]; exact e) (fun o e => by rw [hid_ne a2]; exact e)⟩
  inj := r.inj
theorem RS.upd (r : RS c ρ G H st) (g : G D = none) (nD : NotOwn D ρ st) : RS c ρ G (L2.upd H D u) st where
  sub := fun a w h => by
    rw [upd_ne (ne_of_none h g)]
    exact r.sub a w h
  len := r.len
  own := fun n p o hp ho => by
    obtain ⟨b1, b2, b3⟩ := r.own n p o hp ho
    obtain ⟨a1, a2⟩ := nD n p o hp ho
    exact ⟨b1, b2, b3.mono (Rle.refl _) (Same.refl _) (fun o e => by rw [upd_ne a1]; exact e) (fun o e => by rw [upd_ne a2]; exact e)⟩
  inj := r.inj
theorem EnvOk.wipe {env : List (Option W)} {σ : L2.St} (hl : env.length = σ.length) (h : EnvOk c ρ G env σ) : ∀ vs : List Nat, EnvOk c ρ G (wipeO env vs) (L2.wipe σ vs)
  | [] => h
  | v :: vs => fun i w e => by
    unfold wipeO at e
    unfold L2.wipe
    rcases get_set _ _ _ _ _ e with ⟨_, z, _⟩ | ⟨ne, z⟩
    · cases z
    · obtain ⟨u, h1, h2⟩ := EnvOk.wipe hl h vs i w z
      exact ⟨u, by rw [List.getElem?_set_ne (Ne.symm ne)]; exact h1, h2⟩
theorem wipe_set {σ : L2.St} {vs : List Nat} : ∀ (vs' : List Nat) (i : Nat) (x : Option V), i ∈ vs' → L2.wipe (σ.set i x) vs' = L2.wipe σ vs'
  | [], i, x, h => by cases h
  | v :: vs', i, x, h => by
    unfold L2.wipe
    by_cases hi : i ∈ vs'
    · rw [wipe_set (vs := vs) vs' i x hi]
    · have e : i = v := by
        rcases List.mem_cons.mp h with h | h
        · exact h
        · exact absurd h hi
      subst e
      have key : ∀ (vs' : List Nat) (σ : L2.St), i ∉ vs' → L2.wipe (σ.set i x) vs' = (L2.wipe σ vs').set i x := by
        intro vs'
        induction vs' with
        | nil => intro σ _; rfl
        | cons w ws ih =>
          intro σ hn
          unfold L2.wipe
          rw [ih σ fun h => hn (List.mem_cons_of_mem _ h)]
          rw [List.set_comm]
          exact fun e => hn (by rw [e]; exact List.mem_cons_self)
      rw [key vs' σ hi]
      simp
theorem wipe_all {vs : List Nat} : ∀ (is : List Nat) (ws : List V) (σ : L2.St), (∀ i ∈ is, i ∈ vs) → L2.wipe (setAll is ws σ) vs = L2.wipe σ vs
  | [], _, _, _ => rfl
  | _ :: _, [], _, _ => rfl
  | i :: is, w :: ws, σ, h => by
    unfold setAll
    rw [wipe_all is ws _ fun j hj => h j (List.mem_cons_of_mem _ hj)]
    exact wipe_set (σ := σ) (vs := vs) vs i (some w) (h i List.mem_cons_self)
theorem wipe_wipe {σ : L2.St} : ∀ (vs ws : List Nat), (∀ v ∈ vs, v ∈ ws) → L2.wipe (L2.wipe σ vs) ws = L2.wipe σ ws
  | [], _, _ => rfl
  | v :: vs, ws, h => by
    rw [show L2.wipe σ (v :: vs) = (L2.wipe σ vs).set v none from rfl]
    rw [wipe_set (vs := ws) ws v none (h v List.mem_cons_self)]
    exact wipe_wipe vs ws fun x hx => h x (List.mem_cons_of_mem _ hx)
end
abbrev U0 : WX := fun _ _ _ _ => False
structure ETs (c : Kx) (X : Cx) (ifs : List Expr) (m : EM Bool) : Prop where
  pt : PTs X ifs (tT c U0 m)
section
variable {c : Kx} {X : Cx} {U : WX} {tg iter elt t1 : Expr} {ifs : List Expr} {scope : Scope} {own : List (Str × Nat)} {pos : Pos} {mi : EM (List D)} {t : Tg} {tt : EM Bool} {el : EM W} {ownr : Bool}
theorem PTs.imp {ta tb : TT} (h : PTs X ifs ta) (q : ∀ σ H Q, tb σ H Q → ta σ H Q) : PTs X ifs tb := ⟨fun pins s σ H Q I x => h.run pins s σ H Q I (q σ H Q x)⟩
theorem ets_nil : ETs c X [] (pur true) := ⟨PTs.imp pts_nil fun σ H Q ⟨ρ, G, s, hR, w⟩ => Wp.pur hR w⟩
theorem ets_one {m : EM Bool} (h : ET c X U0 t1 m) : ETs c X [t1] m := ⟨pts_one h.pt⟩
theorem bnd_some {α β : Type} {m : EM α} {k : α → EM β} {s : SS} {b : β} {s2 : SS} (h : bnd m k s = some (.ok b, s2)) : ∃ a s1, m s = some (.ok a, s1) ∧ k a s1 = some (.ok b, s2) := by
  unfold bnd at h
  cases e : m s with
  | none => rw [e] at h; cases h
  | some p =>
    obtain ⟨o, s1⟩ := p
    rw [e] at h
    cases o with
    | ok a => exact ⟨a, s1, rfl, h⟩
    | ex _ _ _ => cases h
def lcW (J : It) (g : TG) (tt : TT) (te : TE) (vs : List Nat) (σ : L2.St) (H1 : Hp) (Q : VK) : Prop := ∀ D, H1 D = none → ∃ W : Nat → Nat → Hp → Prop, (∃ m, W 0 m (upd H1 D (.lst []))) ∧ ∀ i m H, W i m H →
  (J.stop i H ∧ Q (.ref D) H) ∨ (J.go i H ∧ ∃ Nx : Hp → Prop, (∀ H', Nx H' → ∃ m', m' < m ∧ W (i + 1) m' H') ∧ ∀ x H', J.yld i H x H' → g x (L2.wipe σ vs) H' fun σ2 H2 => L2.wipe σ2 vs = L2.wipe σ vs ∧ tt σ2 H2 fun b H3 =>
    if b = true then te σ2 H3 fun y H4 => ∃ acc, H4 D = some (.lst acc) ∧ acc.length < sizeLine ∧ Nx (upd H4 D (.lst (acc ++ [y]))) else Nx H3)
def compK (own : List Nat) (t : Tg) (tt : EM Bool) (el : EM W) (ownr : Bool) (ds : List D) : EM W := fun s => match compL own t tt el ds [] s with
  | some (.ok ws, s3) => match newL ownr ws s3.st with
    | some (w, st) => some (.ok w, ⟨wipeO s3.env own, st⟩)
    | none => none
  | _ => none
theorem wp_lcI {ρ1 : Rho} {G1 H1 : Hp} {σ : L2.St} {s1 : SS} {Q : VK} {ds : List D} {J : It} (hsub : ∀ i ∈ t.is, i ∈ own.map (·.2)) (R1 : R c ρ1 G1 σ H1 s1) (it : Iter c G1 J ds) (w1 : Wp c U (compK (own.map (·.2)) t tt el ownr ds) ρ1 G1 σ H1 s1 (fun w ρ' G' H' _ => ∀ v, RepW c ρ' G' w v → Q v H')) :
    lcW J (gOf c.K t) (tT c U0 tt) (tE c U0 el) (own.map (·.2)) σ H1 Q := by
  intro D hD
  generalize hvs : own.map (·.2) = vsl at *
  unfold Wp compK at w1
  dsimp only at w1
  cases hrun : compL vsl t tt el ds [] s1 with
  | none => simp only [hrun] at w1
  | some p =>
  obtain ⟨o, s3⟩ := p
  cases o with
  | ex _ _ _ => simp only [hrun] at w1
  | ok ws =>
  simp only [hrun] at w1
  cases hnew : newL ownr ws s3.st with
  | none => simp only [hnew] at w1
  | some q =>
  obtain ⟨wres, stres⟩ := q
  simp only [hnew] at w1
  have gD : G1 D = none := R1.rs.sub.free hD
  have nD0 : NotOwn D ρ1 s1.st := fun n p o hp ho => by
    obtain ⟨⟨u1, t1⟩, ⟨u2, t2⟩⟩ := (R1.rs.own n p o hp ho).2.2.there
    exact ⟨fun e => (by rw [e, hD] at t1; cases t1), fun e => (by rw [e, hD] at t2; cases t2)⟩
  have hidH1 : hid D H1 = H1 := by
    funext a
    by_cases e : a = D
    · subst e; rw [hid_same, hD]
    · rw [hid_ne e]
  let Inv (i : Nat) (H : Hp) : Prop := i ≤ ds.length ∧ ∃ ρ2 G2 s2 acc vs, Stp ρ1 G1 H1 s1.st ρ2 G2 (hid D H) s2.st ∧ RS c ρ2 G2 H s2.st ∧ EnvOk c ρ2 G2 (wipeO s2.env vsl) (L2.wipe σ vsl) ∧ s2.env.length = σ.length ∧ H D = some (.lst vs) ∧ RepWs c ρ2 G2 acc vs ∧ NotOwn D ρ2 s2.st ∧ G2 D = none ∧ compL vsl t tt el (ds.drop i) acc s2 = some (.ok ws, s3)
  refine ⟨fun i m H => m = ds.length - i ∧ Inv i H, ⟨ds.length, by simp, Nat.zero_le _, ρ1, G1, s1, [], [], ?_, R1.rs.upd gD nD0, R1.env.wipe R1.len vsl, R1.len, upd_same, rfl, nD0, gD, by simpa using hrun⟩, ?_⟩
  · rw [hid_upd, hidH1]
    exact Stp.refl
  rintro i mm H2 ⟨rfl, hi2, ρ2, G2, s2, acc, vs, S2, r2, e2, l2, hD2, rv2, nD2, gD2, run2⟩
  have sG : Same G1 H2 := S2.same.trans r2.sub
  by_cases hlt : i < ds.length
  · refine .inr ⟨it.go i H2 sG hlt, Inv (i + 1), fun H' h' => ⟨ds.length - (i + 1), by omega, rfl, h'⟩, fun x H' hy => ?_⟩
    have ed : ds.drop i = ds[i] :: ds.drop (i + 1) := List.drop_eq_getElem_cons hlt
    rw [ed] at run2
    unfold compL at run2
    obtain ⟨_, s4, run3, run4⟩ := bnd_some run2
    obtain ⟨_, s2', run5, run6⟩ := bnd_some run3
    unfold wipS at run5
    cases run5
    obtain ⟨b, s5, run7, run8⟩ := bnd_some run4
    obtain ⟨G3, S3, r3, rx⟩ := it.yld i H2 x H' ds[i] sG (List.getElem?_eq_getElem hlt) hy ρ2 G2 s2.st S2.same r2
    have hD3 := nD2.keep S3 hD2
    have nD3 := nD2.step S3 hD2
    have gD3 := nD2.gn S3 hD2 gD2
    have R3 : R c ρ2 G3 (L2.wipe σ vsl) H' ⟨wipeO s2.env vsl, s2.st⟩ := ⟨r3, e2.mono S3.rho S3.same, by show (wipeO _ _).length = _; rw [wipeO_len, wipe_length, l2]⟩
    refine asg_ok R3 (w := .d ds[i]) rx run6 fun σ4 R4 hst _ ⟨vw, hσ⟩ => ?_
    have hw4 : L2.wipe σ4 vsl = L2.wipe σ vsl := by
      rw [hσ, wipe_all t.is vw _ hsub]
      exact wipe_wipe vsl vsl fun v h => h
    refine ⟨hw4, ρ2, G3, s4, R4, Wp.ok run7 fun ρ5 G5 H5 S5 R5 => ?_⟩
    rw [hst] at S5
    have S35 := S3.trans r2.len S5
    have hD5 := nD3.keep S5 hD3
    have nD5 := nD3.step S5 hD3
    have gD5 := nD3.gn S5 hD3 gD3
    have T5 := S2.trans R1.rs.len S35.hid
    cases b with
    | false =>
      refine iteF ⟨hlt, ρ5, G5, s5, acc, vs, T5, R5.rs, ?_, ?_, hD5, rv2.mono S35.rho S35.same, nD5, gD5, run8⟩
      · rw [← hw4]
        exact R5.env.wipe R5.len vsl
      · rw [R5.len, hσ, setAll_len, wipe_length]
    | true =>
      refine iteT ?_
      simp only [if_true] at run8
      obtain ⟨y, s6, run9, run10⟩ := bnd_some run8
      refine ⟨ρ5, G5, s5, R5, Wp.ok run9 fun ρ6 G6 H6 S6 R6 v rv => ?_⟩
      have hD6 := nD5.keep S6 hD5
      have nD6 := nD5.step S6 hD5
      have gD6 := nD5.gn S6 hD5 gD5
      have S36 := S35.trans r2.len S6
      by_cases hl : acc.length < 16777216
      · rw [if_pos hl] at run10
        refine ⟨vs, hD6, by rw [rv2.len, sizeLine_eq]; exact hl, hlt, ρ6, G6, s6, acc ++ [y], vs ++ [v], ?_, R6.rs.upd gD6 nD6, ?_, ?_, upd_same, (rv2.mono S36.rho S36.same).app ⟨v, [], rfl, rv, rfl⟩, nD6, gD6, run10⟩
        · rw [hid_upd]
          exact S2.trans R1.rs.len S36.hid
        · rw [← hw4]
          exact R6.env.wipe R6.len vsl
        · rw [R6.len, hσ, setAll_len, wipe_length]
      · rw [if_neg hl] at run10
        cases run10
  · have e : i = ds.length := by omega
    subst e
    rw [List.drop_length] at run2
    have run2 : pur acc s2 = some (.ok ws, s3) := run2
    cases run2
    refine .inl ⟨it.stop H2 sG, ?_⟩
    have rh := r2.hid gD2 nD2
    obtain ⟨ρ', G', S', r', rw'⟩ := newL_ok rh rv2 hnew hid_same
    rw [upd_hid hD2] at S' r'
    have T := S2.trans R1.rs.len S'
    refine w1 ρ' G' H2 T ⟨r', fun j z hz => ?_, ?_⟩ _ rw'
    · obtain ⟨u, h1, h2⟩ := e2 j z hz
      exact ⟨u, (wipe_some h1).1, h2.mono S'.rho S'.same⟩
    · show (wipeO _ _).length = _
      rw [wipeO_len, l2]
theorem wp_lc {ρ : Rho} {G H : Hp} {σ : L2.St} {s : SS} {Q : VK} (hsub : ∀ i ∈ t.is, i ∈ own.map (·.2)) (hR : R c ρ G σ H s) (w : Wp c U (compE (own.map (·.2)) mi t tt el ownr) ρ G σ H s (fun w ρ' G' H' _ => ∀ v, RepW c ρ' G' w v → Q v H')) :
    tLc (tI c U mi) (gOf c.K t) (tT c U0 tt) (tE c U0 el) (own.map (·.2)) σ H Q :=
  ⟨ρ, G, s, hR, (Wp.bnd hR w).imp fun ds ρ1 G1 H1 s1 ⟨S1, R1, w1⟩ J it => wp_lcI hsub R1 it w1⟩
section
variable (hc : X.calm = true) (hN : X.N.Nodup) (hi : EI c X U tg iter mi) (ok : BlkOk X.N X.env.scope scope own) (hsub : ∀ i ∈ t.is, i ∈ own.map (·.2))
    (hg : ∀ (s : Shared) (H : Hp) (C : Addr) (cl : List (Str × Addr)) (fp : List Addr), EG c (X.blk s H scope (compEnvC scope cl C X.env) fp) tg t) (ht : ∀ (s : Shared) (H : Hp) (C : Addr) (cl : List (Str × Addr)) (fp : List Addr), ETs c (X.blk s H scope (compEnvC scope cl C X.env) fp) ifs tt)
    (he : ∀ (s : Shared) (H : Hp) (C : Addr) (cl : List (Str × Addr)) (fp : List Addr), EE c (X.blk s H scope (compEnvC scope cl C X.env) fp) U0 elt el)
include hc hN hi ok hsub hg ht he
theorem es_lc {i : Nat} {y : Str} {py spos : Pos} (hy : X.N[i]? = some y) (hyl : X.env.scope.names.lookup y = some .local) (hsw : swapsWith (.ListComp elt [⟨tg, iter, ifs, 0⟩] scope pos) (some (.Name y py)) spos.line X.env = pure true)
    (hs : ∀ x, foldedSetIterable iter X.env x = pure x := by intro _; rfl) : ES c X U (.Assign [.Name y py] (.ListComp elt [⟨tg, iter, ifs, 0⟩] scope pos) spos) (asgS (.name i) (compE (own.map (·.2)) mi t tt el ownr)) :=
  ⟨hi.K, PS.imp (ps_setLc hc hN hy hyl hsw hi.pi ok (fun s H C cl fp => (hg s H C cl fp).pg) (fun s H C cl fp => (ht s H C cl fp).pt) (fun s H C cl fp => (he s H C cl fp).pe) hs) fun D σ H ⟨ρ, G, s, hR, w⟩ =>
    wp_lc (Q := fun x H1 => gName i x σ H1 D.nx) hsub hR ((Ws.bndE hR w).imp fun x ρ1 G1 H1 s1 ⟨S1, R1, w1⟩ v rv => ws_asg (t := .name i) R1 rv w1 fun σ' s' R' _ _ w' => Ws.pur R' w')⟩
end
end
end EV
namespace EV
open PySem PySem.Spec PyProof.Rows L2
structure DefAt (K : PySem.W.Frag) (x qual : Str) (st : Stmt) (f : Addr) (ps : List Str) : Prop where
  ex : ∃ fd : FuncData, Fun K x qual st f fd ∧ Binds K fd ps []
theorem FnS.of {P : Program} {w : World} {mg : Str → Option Value} {base : Heap} {c : Kx} {x qual : Str} {sd : Stmt} {f : Addr} {N ps : List Str} {k : Nat} {m : EM Fl} (D : DefAt c.K x qual sd f ps) (S : FnScope N ps (defScope sd)) (hn : ps.length ≤ N.length)
    (hb : ∀ (cdv : Value) (A : Around) (outer : List Env) (s : Shared) (H : Hp) (E : XK), Room k (A.deeper (envOfC qual (defScope sd) s.heap.objs.size f cdv)) → ESs c (cxE P w c mg base N qual sd f cdv A outer s H E) (wx E) (defBody sd) m) :
    FnS P w c.K mg base (k + 1) f (spF c ps.length (bodyF N.length m)) [] := by
  obtain ⟨fd, F, b⟩ := D.ex
  exact ⟨fd, ps, [], fn_full F S hn hb, F.kp, b, .nil⟩
theorem FnS.P {P : Program} {w : World} {mg : Str → Option Value} {base : Heap} {c : Kx} {k : Nat} {f : Addr} {np : Nat} {F : FF} (h : FnS P w c.K mg base k f (spF c np F) []) : FnS P w c.K mg base k f (spP c np (pureP F)) [] := h.imp fun _ _ _ _ q => spP_of q
theorem room65 {k : Nat} {A : Around} (r : Room k A) : A.units + 65 < cLine := by
  have := r.un
  omega
theorem RepDs.ints {c : Kx} {G : Hp} : ∀ ns : List Int, RepDs c G (ns.map .int) (ns.map V.int)
  | [] => .nil
  | n :: ns => .cons (.int n) (RepDs.ints ns)
def spLaw (c : Kx) (F : FP) : Sp := spP c 1 F
theorem cx_none {P : Program} {w : World} {H : Hp} {s : Shared} {e : Value} {s' : Shared} (h : L2.CX P w [] H s (fun _ _ _ => False) e s') : False := by
  obtain ⟨_, _, _, _, _, _, _, _, _, _, _, _, z⟩ := h
  exact z
end EV
namespace EV
open PySem PySem.Spec PyProof.Rows L2
def GlobD (c : Kx) (mg : Str → Option Value) (x : Str) (d : D) : Prop := ∃ v u, mg x = some u ∧ RelV v u ∧ ∀ G, RepD c G d v
section
variable {c : Kx} {X : Cx} {U : WX} {e a b d : Expr} {es : List Expr} {x : Str} {p pos : Pos} {ma mb mc me : EM W} {m : EM (List W)}
theorem GlobD.str {mg : Str → Option Value} {z : Str} {t : Tok} (h : mg x = some (.str z t)) : GlobD c mg x (.str z) := ⟨.str z, _, h, ⟨t, rfl⟩, fun _ => .str z⟩
theorem GlobD.int {mg : Str → Option Value} {i : Int} {t : Tok} (h : mg x = some (.int i t)) : GlobD c mg x (.int i) := ⟨.int i, _, h, ⟨t, rfl⟩, fun _ => .int i⟩
def atomV : Value → Option D
  | .str z _ => some (.str z)
  | .int i _ => some (.int i)
  | _ => none
def atomsV : List Value → Option (List D)
  | [] => some []
  | v :: r => match atomV v, atomsV r with
    | some d, some ds => some (d :: ds)
    | _, _ => none
theorem atoms_ok : ∀ {us : List Value} {ds : List D}, atomsV us = some ds → ∃ vs, Vals vs us ∧ ∀ G, RepDs c G ds vs
  | [], ds, e => by cases e; exact ⟨[], .nil, fun _ => .nil⟩
  | u :: us, ds, e => by
    unfold atomsV at e
    cases h1 : atomV u with
    | none => simp only [h1] at e; cases e
    | some d =>
      cases h2 : atomsV us with
      | none => simp only [h1, h2] at e; cases e
      | some ds' =>
        simp only [h1, h2] at e
        cases e
        obtain ⟨vs, r1, r2⟩ := atoms_ok h2
        cases u with
        | str z t => cases h1; exact ⟨.str z :: vs, .cons ⟨t, rfl⟩ r1, fun G => .cons (.str z) (r2 G)⟩
        | int i t => cases h1; exact ⟨.int i :: vs, .cons ⟨t, rfl⟩ r1, fun G => .cons (.int i) (r2 G)⟩
        | _ => cases h1
theorem GlobD.tup {mg : Str → Option Value} {A : Addr} {od : Option Addr} {its : Array Value} {n : Nat} {sl : Array (Option Value)} {ds : List D} (h : mg x = some (.ref A)) (l : c.K.lookup A = some ⟨.type "tuple", od, .seq its n, sl⟩) (hi : atomsV its.toList = some ds) (hz : ds.length ≤ 1000) : GlobD c mg x (.tup ds) := by
  obtain ⟨vs, r1, r2⟩ := atoms_ok (c := c) hi
  refine ⟨.ref A, _, h, rfl, fun G => .tup (.inr ⟨_, its, n, l, rfl, rfl, ?_, r1⟩) (r2 G)⟩
  have h1 := r1.length
  have h2 := (r2 G).len
  have h3 := sizeLine_eq
  rw [← Array.length_toList]
  omega
theorem ee_bltn {z : D} {v : V} {u : Value} (hK : X.K = c.K) (hg : Gl X x) (hm : X.mg x = none) (hv : bootBuiltins x = some u) (r : RelV v u) (hd : ∀ G, RepD c G z v) (hn : x ≠ "__name__" := by decide) (hdb : (x == ("__debug__" : Str)) = false := by decide) : EE c X U (.Name x pos) (cst z) :=
  EE.mk1 hK (pe_bltn hg hm hv r hn hdb) fun _ G _ _ _ _ r w => Wp.pur r w _ (hd G)
theorem ty_only {n : String} (G : Hp) (z : V) (h : RepD c G (.ty n) z) : z = .ty n := by cases h; rfl
def negA (st : Store) : W → Option (W × Store)
  | .d (.int i) => some (.d (.int (-i)), st)
  | _ => none
def op1 (f : Store → W → Option (W × Store)) (m : EM W) : EM W := bnd m fun x => lft fun st => f st x
def chainE (f g : Store → W → W → Option (W × Store)) (ma mb mc : EM W) : EM W := bnd ma fun x => bnd mb fun y => bnd (lft fun st => f st x y) fun z => match z with
  | .d (.bl true) => bnd mc fun w => lft fun st => g st y w
  | .d (.bl false) => pur (.d (.bl false))
  | _ => non
end
end EV
namespace EV
open PySem PySem.Spec PyProof.Rows L2
section
variable {c : Kx} {X : Cx} {U : WX} {a b d : Expr} {pos : Pos} {ma mb mc : EM W}
end
end EV
namespace EV
open PySem PySem.Spec PyProof.Rows L2
def tyOkB (T : String) (p : Ty × Bool) : Bool := match p.1 with
  | .bi n => decide (kitB n T = some p.2)
  | .cl _ => false
  | .xc _ => false
theorem mem_of_look {α β : Type} [DecidableEq α] : ∀ {l : List (α × β)} {a : α} {b : β}, l.lookup a = some b → (a, b) ∈ l
  | [], _, _, h => by cases h
  | (x, y) :: l, a, b, h => by
    unfold List.lookup at h
    by_cases e : a = x
    · subst e
      simp at h
      subst h
      exact List.mem_cons_self
    · have : (a == x) = false := by simpa using e
      rw [this] at h
      exact List.mem_cons_of_mem _ (mem_of_look h)
theorem tyq {c : Kx} {q : List (Ty × Bool)} {T : String} (h : q.all (tyOkB T) = true) : ∀ t b, q.lookup t = some b → TyFact c (.type T) t b := fun t b e => by
  have h1 := List.all_eq_true.mp h _ (mem_of_look e)
  cases t with
  | bi n => exact kit_ty (of_decide_eq_true h1)
  | cl k => exact absurd h1 Bool.false_ne_true
  | xc k => exact absurd h1 Bool.false_ne_true
end EV
namespace EV
open PySem L2
def chr1 (c : Nat) : Str := ⟨#[c]⟩
def Run {α : Type} (m : EM α) (s : SS) (Q : Out α → SS → Prop) : Prop := ∃ o s', m s = some (o, s') ∧ Q o s'
def toBK : W → EM Bool
  | .d (.bl b) => pur b
  | _ => non
def ite2 {α : Type} (b : Bool) (x y : EM α) : EM α := if b then x else y
def sqK (r : EM Fl) : Fl → EM Fl
  | .nx => r
  | .ret w => pur (.ret w)
  | .brk => pur .brk
  | .cnt => pur .cnt
def chK (g : Store → W → W → Option (W × Store)) (mc : EM W) (y : W) : W → EM W
  | .d (.bl true) => bnd mc fun w => lft fun st => g st y w
  | .d (.bl false) => pur (.d (.bl false))
  | _ => non
def itK : W → EM (List D)
  | .d x => match itemsD x with
    | some ds => pur ds
    | none => non
  | .loc _ => non
def rg1K : List W → EM (List D)
  | [.d (.int j)] => if j < 1000000000 ∧ -1000000000 < j then pur (rngL 0 j.toNat) else non
  | _ => non
def rg2K : List W → EM (List D)
  | [.d (.int i), .d (.int j)] => if (j < 1000000000 ∧ -1000000000 < j) ∧ i < 1000000000 ∧ -1000000000 < i then pur (rngL i (j - i).toNat) else non
  | _ => non
def partK : W → EM (Option Int)
  | .d (.int i) => pur (some i)
  | _ => non
def lstK (own : Bool) (ws : List W) : EM W := if ws.length ≤ 16777216 then lft (newL own ws) else non
def tupK (ds : List D) : EM W := if ds.length ≤ 16777216 then pur (.d (.tup ds)) else non
def treesK (ws : List W) : EM (List D) := match allD ws with
  | some ds => pur ds
  | none => non
def bmK (T : String) (f : Store → W → List W → Option (W × Store)) (m : EM (List W)) (o : W) : EM W := fun s => if tyIs T s.st o then bnd m (fun ws => lft fun st => f st o ws) s else none
def frzK : W → EM W
  | .d x => pur (.d x)
  | .loc n => fun s => match fz 20 (.loc n) s.st with
    | some (d, st) => some (.ok (.d d), ⟨s.env.map (rpl n d), st⟩)
    | none => none
def fldK (i : Nat) (w : W) : EM W := fun s => match insW s.st w with
  | some (_, ks, ws) => match fget ks ws i with
    | some y => some (.ok y, s)
    | none => none
  | none => none
def methK (tbl : List (Nat × (List W → EM W))) (m : EM (List W)) (o : W) : EM W := fun s => match clsOf s.st o with
  | none => none
  | some k => match tbl.lookup k with
    | none => none
    | some g => bnd m (fun ws => g (o :: ws)) s
section
variable {α β : Type} {m : EM α} {k : α → EM β} {s s1 : SS} {Q : Out β → SS → Prop} {Qa : Out α → SS → Prop}
theorem run_pur {a : α} (h : Qa (.ok a) s) : Run (pur a) s Qa := ⟨_, _, rfl, h⟩
theorem Run.imp {Q' : Out α → SS → Prop} (h : Run m s Qa) (q : ∀ o s', Qa o s' → Q' o s') : Run m s Q' := let ⟨o, s', e, h⟩ := h; ⟨o, s', e, q o s' h⟩
def Nx (k : α → EM β) (Q : Out β → SS → Prop) : Out α → SS → Prop := fun o s' => match o with
  | .ok a => Run (k a) s' Q
  | .ex c ks vs => Q (.ex c ks vs) s'
theorem rb_eq {a : α} (e : m s = some (.ok a, s1)) (h : Run (k a) s1 Q) : Run (bnd m k) s Q := by
  obtain ⟨o2, s2, e2, h2⟩ := h
  exact ⟨o2, s2, by rw [bnd_ok e]; exact e2, h2⟩
theorem rb_bnd {γ : Type} {m : EM γ} {f : γ → EM α} (h : Run (bnd m fun a => bnd (f a) k) s Q) : Run (bnd (bnd m f) k) s Q := by rw [bnd_assoc]; exact h
theorem rb_bnd2 {γ δ : Type} {m : EM γ} {n : EM δ} {f : γ → δ → EM α} (h : Run (bnd m fun a => bnd n fun b => bnd (f a b) k) s Q) : Run (bnd (bnd m fun a => bnd n fun b => f a b) k) s Q := by
  rw [bnd_assoc]
  have e : (fun a => bnd (bnd n fun b => f a b) k) = fun a => bnd n fun b => bnd (f a b) k := by
    funext a
    rw [bnd_assoc]
  rw [e]
  exact h
theorem rb_bnd3 {γ δ ε : Type} {m : EM γ} {n : EM δ} {p : EM ε} {f : γ → δ → ε → EM α} (h : Run (bnd m fun a => bnd n fun b => bnd p fun c => bnd (f a b c) k) s Q) : Run (bnd (bnd m fun a => bnd n fun b => bnd p fun c => f a b c) k) s Q := by
  rw [bnd_assoc]
  have e : (fun a => bnd (bnd n fun b => bnd p fun c => f a b c) k) = fun a => bnd n fun b => bnd p fun c => bnd (f a b c) k := by
    funext a
    rw [bnd_assoc]
    congr 1
    funext b
    rw [bnd_assoc]
  rw [e]
  exact h
theorem rb_pur {a : α} (h : Run (k a) s Q) : Run (bnd (pur a) k) s Q := h
theorem rb_lft {f : Store → Option (α × Store)} {env : List (Option W)} {st st' : Store} {a : α} (e : f st = some (a, st')) (h : Run (k a) ⟨env, st'⟩ Q) : Run (bnd (lft f) k) ⟨env, st⟩ Q := rb_eq (by unfold lft; simp only [e]) h
theorem rb_iteT {m1 m2 : EM α} (h1 : Run (bnd m1 k) s Q) : Run (bnd (ite2 true m1 m2) k) s Q := h1
theorem rb_iteF {m1 m2 : EM α} (h1 : Run (bnd m2 k) s Q) : Run (bnd (ite2 false m1 m2) k) s Q := h1
theorem rb_iteNT {m1 m2 : EM α} (h1 : Run (bnd m2 k) s Q) : Run (bnd (ite2 (!true) m1 m2) k) s Q := h1
theorem rb_iteNF {m1 m2 : EM α} (h1 : Run (bnd m1 k) s Q) : Run (bnd (ite2 (!false) m1 m2) k) s Q := h1
theorem rb_iteP {b : Bool} {m1 m2 : EM α} (e : b = true) (h1 : Run (bnd m1 k) s Q) : Run (bnd (ite2 b m1 m2) k) s Q := by subst e; exact h1
theorem rb_iteN {b : Bool} {m1 m2 : EM α} (e : b = false) (h1 : Run (bnd m2 k) s Q) : Run (bnd (ite2 b m1 m2) k) s Q := by subst e; exact h1
theorem rb_ite {b : Bool} {m1 m2 : EM α} (h1 : b = true → Run (bnd m1 k) s Q) (h2 : b = false → Run (bnd m2 k) s Q) : Run (bnd (ite2 b m1 m2) k) s Q := by
  cases b with
  | true => exact h1 rfl
  | false => exact h2 rfl
theorem rb_iteD {p : Prop} [Decidable p] {m1 m2 : EM α} (h1 : p → Run (bnd m1 k) s Q) (h2 : ¬ p → Run (bnd m2 k) s Q) : Run (bnd (ite2 (decide p) m1 m2) k) s Q := rb_ite (fun e => h1 (of_decide_eq_true e)) fun e => h2 (of_decide_eq_false e)
theorem rb_iteDn {p : Prop} [Decidable p] {m1 m2 : EM α} (h1 : ¬ p → Run (bnd m1 k) s Q) (h2 : p → Run (bnd m2 k) s Q) : Run (bnd (ite2 (!decide p) m1 m2) k) s Q := rb_ite (fun e => h1 fun x => by simp [x] at e) fun e => h2 (by simpa using e)
theorem run_bnd (h : Run (bnd m pur) s Qa) : Run m s Qa := by
  obtain ⟨o, s', e, h⟩ := h
  cases q : m s with
  | none => rw [bnd_no q] at e; cases e
  | some p =>
    obtain ⟨o2, s2⟩ := p
    cases o2 with
    | ok a =>
      rw [bnd_ok q] at e
      cases e
      exact ⟨_, _, q, h⟩
    | ex _ _ _ =>
      rw [bnd_ex q] at e
      cases e
      exact ⟨_, _, q, h⟩
end
section
variable {β : Type} {env : List (Option W)} {st st' : Store} {s : SS} {Q : Out β → SS → Prop} {k : W → EM β}
theorem rb_cst {d : D} (h : Run (k (.d d)) s Q) : Run (bnd (cst d) k) s Q := h
theorem rb_var {i : Nat} {w : W} (e : env[i]? = some (some w)) (h : Run (k w) ⟨env, st⟩ Q) : Run (bnd (var i) k) ⟨env, st⟩ Q := rb_eq (by unfold var; simp only [e]) h
theorem rb_op2 {f : Store → W → W → Option (W × Store)} {ma mb : EM W} (h : Run (bnd ma fun x => bnd mb fun y => bnd (lft fun st => f st x y) k) s Q) : Run (bnd (op2 f ma mb) k) s Q := rb_bnd2 h
theorem rb_op1 {f : Store → W → Option (W × Store)} {ma : EM W} (h : Run (bnd ma fun x => bnd (lft fun st => f st x) k) s Q) : Run (bnd (op1 f ma) k) s Q := rb_bnd h
theorem rb_asg {k : Unit → EM β} {i : Nat} {w : W} {env' : List (Option W)} (e : env.set i (some w) = env') (h : Run (k ()) ⟨env', st⟩ Q) : Run (bnd (asg (.name i) w) k) ⟨env, st⟩ Q := by
  subst e
  exact rb_eq (a := ()) rfl h
theorem rb_asgT {k : Unit → EM β} {is : List Nat} {ds : List D} {env' : List (Option W)} (hl : ds.length = is.length) (e : setAll is (ds.map .d) env = env') (h : Run (k ()) ⟨env', st⟩ Q) : Run (bnd (asg (.tup is) (.d (.tup ds))) k) ⟨env, st⟩ Q := by
  subst e
  exact rb_eq (a := ()) (by unfold asg; simp only [hl, if_true]) h
theorem rb_acons {k : List W → EM β} {m : EM W} {r : EM (List W)} (h : Run (bnd m fun w => bnd r fun ws => k (w :: ws)) s Q) : Run (bnd (acons m r) k) s Q := rb_bnd2 h
theorem rb_anil {k : List W → EM β} (h : Run (k []) s Q) : Run (bnd anil k) s Q := h
theorem toB_eq (m : EM W) : toB m = bnd m toBK := rfl
theorem rb_toB {k : Bool → EM β} {m : EM W} (h : Run (bnd m fun w => bnd (toBK w) k) s Q) : Run (bnd (toB m) k) s Q := by rw [toB_eq]; exact rb_bnd h
theorem rb_toBK {k : Bool → EM β} {b : Bool} (h : Run (k b) s Q) : Run (bnd (toBK (.d (.bl b))) k) s Q := h
theorem rb_ntB {k : Bool → EM β} {m : EM Bool} (h : Run (bnd m fun b => k (!b)) s Q) : Run (bnd (ntB m) k) s Q := rb_bnd h
theorem rb_anB {k : Bool → EM β} {m r : EM Bool} (h : Run (bnd m fun b => bnd (ite2 b r (pur false)) k) s Q) : Run (bnd (anB m r) k) s Q := rb_bnd h
theorem rb_orB {k : Bool → EM β} {m r : EM Bool} (h : Run (bnd m fun b => bnd (ite2 b (pur true) r) k) s Q) : Run (bnd (orB m r) k) s Q := rb_bnd h
theorem rb_ifE {α : Type} {k : α → EM β} {t : EM Bool} {ma mb : EM α} (h : Run (bnd t fun b => bnd (ite2 b ma mb) k) s Q) : Run (bnd (ifE t ma mb) k) s Q := rb_bnd h
theorem rb_anV {m r : EM W} (h : Run (bnd (toB m) fun b => bnd (ite2 b r (pur (.d (.bl false)))) k) s Q) : Run (bnd (anV m r) k) s Q := rb_bnd h
theorem rb_orV {m r : EM W} (h : Run (bnd (toB m) fun b => bnd (ite2 b (pur (.d (.bl true))) r) k) s Q) : Run (bnd (orV m r) k) s Q := rb_bnd h
theorem rb_ntV {m : EM W} (h : Run (bnd (toB m) fun b => k (.d (.bl (!b)))) s Q) : Run (bnd (ntV m) k) s Q := rb_bnd h
theorem rb_ofB {m : EM Bool} (h : Run (bnd m fun b => k (.d (.bl b))) s Q) : Run (bnd (ofB m) k) s Q := rb_bnd h
theorem rb_callB {f : Store → List W → Option (W × Store)} {m : EM (List W)} (h : Run (bnd m fun ws => bnd (lft fun st => f st ws) k) s Q) : Run (bnd (callB f m) k) s Q := rb_bnd h
theorem rb_callE {g : List W → EM W} {dws : List W} {m : EM (List W)} (h : Run (bnd m fun ws => bnd (g (ws ++ dws)) k) s Q) : Run (bnd (callE g dws m) k) s Q := rb_bnd h
theorem rb_lst {own : Bool} {m : EM (List W)} (h : Run (bnd m fun ws => bnd (lstK own ws) k) s Q) : Run (bnd (lstE own m) k) s Q := rb_bnd h
theorem rb_tup {m : EM (List W)} (h : Run (bnd (treesE m) fun ds => bnd (tupK ds) k) s Q) : Run (bnd (tupE m) k) s Q := rb_bnd h
theorem treesE_eq (m : EM (List W)) : treesE m = bnd m treesK := rfl
theorem rb_trees {k : List D → EM β} {m : EM (List W)} (h : Run (bnd m fun ws => bnd (treesK ws) k) s Q) : Run (bnd (treesE m) k) s Q := by rw [treesE_eq]; exact rb_bnd h
theorem rb_treesK {k : List D → EM β} {ws : List W} {ds : List D} (e : allD ws = some ds) (h : Run (k ds) s Q) : Run (bnd (treesK ws) k) s Q := by unfold treesK; rw [e]; exact h
theorem rb_tupK {ds : List D} (hl : ds.length ≤ 16777216) (h : Run (k (.d (.tup ds))) s Q) : Run (bnd (tupK ds) k) s Q := by unfold tupK; rw [if_pos hl]; exact h
theorem rb_lstK {own : Bool} {ws : List W} (hl : ws.length ≤ 16777216) (h : Run (bnd (lft (newL own ws)) k) s Q) : Run (bnd (lstK own ws) k) s Q := by unfold lstK; rw [if_pos hl]; exact h
theorem rb_slE {own : Bool} {m : EM W} {ml mh : EM (Option Int)} (h : Run (bnd m fun x => bnd ml fun lo => bnd mh fun hi => bnd (lft fun st => sliceA own st x lo hi) k) s Q) : Run (bnd (slE own m ml mh) k) s Q := rb_bnd3 h
theorem rb_partN {k : Option Int → EM β} (h : Run (k none) s Q) : Run (bnd (partE none) k) s Q := h
theorem partE_eq (m : EM W) : partE (some m) = bnd m partK := rfl
theorem rb_partS {k : Option Int → EM β} {m : EM W} (h : Run (bnd m fun w => bnd (partK w) k) s Q) : Run (bnd (partE (some m)) k) s Q := by rw [partE_eq]; exact rb_bnd h
theorem rb_partK {k : Option Int → EM β} {i : Int} (h : Run (k (some i)) s Q) : Run (bnd (partK (.d (.int i))) k) s Q := h
theorem sq_eq (m r : EM Fl) : sq m r = bnd m (sqK r) := rfl
theorem rb_sq {k : Fl → EM β} {m r : EM Fl} (h : Run (bnd m fun f => bnd (sqK r f) k) s Q) : Run (bnd (sq m r) k) s Q := by rw [sq_eq]; exact rb_bnd h
theorem rb_sqN {k : Fl → EM β} {r : EM Fl} (h : Run (bnd r k) s Q) : Run (bnd (sqK r .nx) k) s Q := h
theorem rb_sqR {k : Fl → EM β} {r : EM Fl} {w : W} (h : Run (k (.ret w)) s Q) : Run (bnd (sqK r (.ret w)) k) s Q := h
theorem rb_asgS {k : Fl → EM β} {t : Tg} {m : EM W} (h : Run (bnd m fun w => bnd (asg t w) fun _ => k .nx) s Q) : Run (bnd (asgS t m) k) s Q := by
  unfold asgS
  rw [bnd_assoc]
  have e : (fun a => bnd (bnd (asg t a) fun _ => pur Fl.nx) k) = fun w => bnd (asg t w) fun _ => k .nx := by
    funext a
    rw [bnd_assoc]
    rfl
  rw [e]
  exact h
theorem rb_exprS {k : Fl → EM β} {m : EM W} (h : Run (bnd m fun _ => k .nx) s Q) : Run (bnd (exprS m) k) s Q := rb_bnd h
theorem rb_retS {k : Fl → EM β} {m : EM W} (h : Run (bnd m fun w => k (.ret w)) s Q) : Run (bnd (retS m) k) s Q := rb_bnd h
theorem rb_forS {k : Fl → EM β} {mi : EM (List D)} {t : Tg} {body : EM Fl} (h : Run (bnd mi fun ds => bnd (loopS t body ds) k) s Q) : Run (bnd (forS mi t body) k) s Q := rb_bnd h
theorem itemsE_eq (m : EM W) : itemsE m = bnd m itK := rfl
theorem rb_items {k : List D → EM β} {m : EM W} (h : Run (bnd m fun w => bnd (itK w) k) s Q) : Run (bnd (itemsE m) k) s Q := by rw [itemsE_eq]; exact rb_bnd h
theorem rb_itL {k : List D → EM β} {ds : List D} (h : Run (k ds) s Q) : Run (bnd (itK (.d (.lst ds))) k) s Q := h
theorem rb_itF {k : List D → EM β} {ds : List D} (h : Run (k ds) s Q) : Run (bnd (itK (.d (.fls ds))) k) s Q := h
theorem rb_itT {k : List D → EM β} {ds : List D} (h : Run (k ds) s Q) : Run (bnd (itK (.d (.tup ds))) k) s Q := h
theorem rb_itS {k : List D → EM β} {z : Str} (h : Run (k (z.cps.toList.map fun c => .str (chr1 c))) s Q) : Run (bnd (itK (.d (.str z))) k) s Q := h
theorem range1E_eq (m : EM (List W)) : range1E m = bnd m rg1K := rfl
theorem range2E_eq (m : EM (List W)) : range2E m = bnd m rg2K := rfl
theorem rb_range1 {k : List D → EM β} {m : EM (List W)} (h : Run (bnd m fun ws => bnd (rg1K ws) k) s Q) : Run (bnd (range1E m) k) s Q := by rw [range1E_eq]; exact rb_bnd h
theorem rb_range2 {k : List D → EM β} {m : EM (List W)} (h : Run (bnd m fun ws => bnd (rg2K ws) k) s Q) : Run (bnd (range2E m) k) s Q := by rw [range2E_eq]; exact rb_bnd h
theorem rb_rg1 {k : List D → EM β} {j : Int} (hj : j < 1000000000 ∧ -1000000000 < j) (h : Run (k (rngL 0 j.toNat)) s Q) : Run (bnd (rg1K [.d (.int j)]) k) s Q := by
  show Run (bnd (if j < 1000000000 ∧ -1000000000 < j then pur (rngL 0 j.toNat) else non) k) s Q
  rw [if_pos hj]; exact h
theorem rb_rg2 {k : List D → EM β} {i j : Int} (hj : (j < 1000000000 ∧ -1000000000 < j) ∧ i < 1000000000 ∧ -1000000000 < i) (h : Run (k (rngL i (j - i).toNat)) s Q) : Run (bnd (rg2K [.d (.int i), .d (.int j)]) k) s Q := by
  show Run (bnd (if (j < 1000000000 ∧ -1000000000 < j) ∧ i < 1000000000 ∧ -1000000000 < i then pur (rngL i (j - i).toNat) else non) k) s Q
  rw [if_pos hj]; exact h
theorem chainE_eq (f g : Store → W → W → Option (W × Store)) (ma mb mc : EM W) : chainE f g ma mb mc = bnd ma fun x => bnd mb fun y => bnd (lft fun st => f st x y) (chK g mc y) := rfl
theorem rb_chain {f g : Store → W → W → Option (W × Store)} {ma mb mc : EM W} (h : Run (bnd ma fun x => bnd mb fun y => bnd (lft fun st => f st x y) fun z => bnd (chK g mc y z) k) s Q) : Run (bnd (chainE f g ma mb mc) k) s Q := by
  rw [chainE_eq, bnd_assoc]
  have e : (fun a => bnd (bnd mb fun y => bnd (lft fun st => f st a y) (chK g mc y)) k) = fun x => bnd mb fun y => bnd (lft fun st => f st x y) fun z => bnd (chK g mc y z) k := by
    funext x
    rw [bnd_assoc]
    congr 1
    funext y
    rw [bnd_assoc]
  rw [e]
  exact h
theorem rb_chK {g : Store → W → W → Option (W × Store)} {y : W} {mc : EM W} {b : Bool} (h : Run (bnd (ite2 b (bnd mc fun w => lft fun st => g st y w) (pur (.d (.bl false)))) k) s Q) : Run (bnd (chK g mc y (.d (.bl b))) k) s Q := by
  cases b with
  | true => exact h
  | false => exact h
theorem bmE_eq (T : String) (f : Store → W → List W → Option (W × Store)) (mo : EM W) (m : EM (List W)) : bmE T f mo m = bnd mo (bmK T f m) := rfl
theorem rb_bm {T : String} {f : Store → W → List W → Option (W × Store)} {mo : EM W} {m : EM (List W)} (h : Run (bnd mo fun o => bnd (bmK T f m o) k) s Q) : Run (bnd (bmE T f mo m) k) s Q := by rw [bmE_eq]; exact rb_bnd h
theorem rb_bmK {T : String} {f : Store → W → List W → Option (W × Store)} {o : W} {m : EM (List W)} (ht : tyIs T st o = true) (h : Run (bnd m fun ws => bnd (lft fun st => f st o ws) k) ⟨env, st⟩ Q) : Run (bnd (bmK T f m o) k) ⟨env, st⟩ Q := by
  obtain ⟨o', s', e, q⟩ := rb_bnd h
  refine ⟨o', s', ?_, q⟩
  rw [← e]
  unfold bmK bnd
  simp only [ht, if_true]
theorem frz_eq (m : EM W) : frz m = bnd m frzK := rfl
theorem rb_frz {m : EM W} (h : Run (bnd m fun w => bnd (frzK w) k) s Q) : Run (bnd (frz m) k) s Q := by rw [frz_eq]; exact rb_bnd h
theorem rb_frzD {d : D} (h : Run (k (.d d)) s Q) : Run (bnd (frzK (.d d)) k) s Q := h
theorem rb_frzL {n : Nat} {d : D} {env' : List (Option W)} (e : fz 20 (.loc n) st = some (d, st')) (e2 : env.map (rpl n d) = env') (h : Run (k (.d d)) ⟨env', st'⟩ Q) : Run (bnd (frzK (.loc n)) k) ⟨env, st⟩ Q := by
  subst e2
  exact rb_eq (by unfold frzK; simp only [e]) h
theorem fz_lst {n : Nat} {ws : List W} {ds : List D} (h : st[n]? = some (some (.lst ws))) (e : allD ws = some ds) : fz 20 (.loc n) st = some (.lst ds, st.set n none) := by
  unfold fz
  rw [allD_eq e] at h
  simp only [h, fzL_d]
theorem fldE_eq (i : Nat) (m : EM W) : fldE i m = bnd m (fldK i) := rfl
theorem rb_fld {i : Nat} {m : EM W} (h : Run (bnd m fun w => bnd (fldK i w) k) s Q) : Run (bnd (fldE i m) k) s Q := by rw [fldE_eq]; exact rb_bnd h
theorem rb_fldK {i j : Nat} {ks : List Nat} {ws : List W} {x y : W} (e1 : insW st x = some (j, ks, ws)) (e2 : fget ks ws i = some y) (h : Run (k y) ⟨env, st⟩ Q) : Run (bnd (fldK i x) k) ⟨env, st⟩ Q := rb_eq (by unfold fldK; simp only [e1, e2]) h
theorem rb_fldD {i j : Nat} {ks : List Nat} {ds : List D} {y : W} (e2 : fget ks (ds.map .d) i = some y) (h : Run (k y) ⟨env, st⟩ Q) : Run (bnd (fldK i (.d (.ins j ks ds))) k) ⟨env, st⟩ Q := rb_fldK (e1 := rfl) e2 h
theorem methE_eq (tbl : List (Nat × (List W → EM W))) (mo : EM W) (m : EM (List W)) : methE tbl mo m = bnd mo (methK tbl m) := rfl
theorem rb_meth {tbl : List (Nat × (List W → EM W))} {mo : EM W} {m : EM (List W)} (h : Run (bnd mo fun o => bnd (methK tbl m o) k) s Q) : Run (bnd (methE tbl mo m) k) s Q := by rw [methE_eq]; exact rb_bnd h
theorem rb_methK {tbl : List (Nat × (List W → EM W))} {m : EM (List W)} {o : W} {i : Nat} {g : List W → EM W} (e1 : clsOf st o = some i) (e2 : tbl.lookup i = some g) (h : Run (bnd m fun ws => bnd (g (o :: ws)) k) ⟨env, st⟩ Q) : Run (bnd (methK tbl m o) k) ⟨env, st⟩ Q := by
  obtain ⟨o', s', e, q⟩ := rb_bnd h
  refine ⟨o', s', ?_, q⟩
  rw [← e]
  unfold methK bnd
  simp only [e1, e2]
theorem rl_int {f : Int → Int → Option D} {i j : Int} {d : D} (e : f i j = some d) (h : Run (k (.d d)) ⟨env, st⟩ Q) : Run (bnd (lft fun st => intF f st (.d (.int i)) (.d (.int j))) k) ⟨env, st⟩ Q := rb_lft (by unfold intF; simp only [e]) h
theorem rl_mod {i j : Int} (hj : 0 < j) (h : Run (k (.d (.int (i % j)))) ⟨env, st⟩ Q) : Run (bnd (lft fun st => intF modI st (.d (.int i)) (.d (.int j))) k) ⟨env, st⟩ Q := rl_int (by unfold modI; rw [if_pos hj]) h
theorem rl_div {i j : Int} (hj : 0 < j ∧ j < 1000000000000000000000000000000) (h : Run (k (.d (.int (i / j)))) ⟨env, st⟩ Q) : Run (bnd (lft fun st => intF divI st (.d (.int i)) (.d (.int j))) k) ⟨env, st⟩ Q := rl_int (by unfold divI; rw [if_pos hj]) h
theorem rl_pow {i j : Int} (hj : 0 ≤ j ∧ j ≤ 1000 ∧ 0 ≤ i ∧ i < 1000) (h : Run (k (.d (.int (i ^ j.toNat)))) ⟨env, st⟩ Q) : Run (bnd (lft fun st => intF powI st (.d (.int i)) (.d (.int j))) k) ⟨env, st⟩ Q := rl_int (by unfold powI; rw [if_pos hj]) h
theorem rl_addI {own : Bool} {i j : Int} (h : Run (k (.d (.int (i + j)))) ⟨env, st⟩ Q) : Run (bnd (lft fun st => addA own st (.d (.int i)) (.d (.int j))) k) ⟨env, st⟩ Q := rb_lft rfl h
theorem rl_addS {own : Bool} {i j : Str} (hl : i.length + j.length ≤ 16777216) (h : Run (k (.d (.str (i ++ j)))) ⟨env, st⟩ Q) : Run (bnd (lft fun st => addA own st (.d (.str i)) (.d (.str j))) k) ⟨env, st⟩ Q := rb_lft (by unfold addA; simp only [hl, if_true]) h
theorem rl_addL {ds es : List D} (hl : ds.length + es.length ≤ 16777216) (h : Run (k (.d (.lst (ds ++ es)))) ⟨env, st⟩ Q) : Run (bnd (lft fun st => addA false st (.d (.lst ds)) (.d (.lst es))) k) ⟨env, st⟩ Q :=
  rb_lft (by
    unfold addA
    simp only
    unfold catL lst1W
    simp only [List.length_map, hl, if_true]
    rw [← List.map_append]
    unfold newL
    rw [allD_map]
    rfl) h
theorem rl_sub {i j : Int} (h : Run (k (.d (.int (i - j)))) ⟨env, st⟩ Q) : Run (bnd (lft fun st => subA st (.d (.int i)) (.d (.int j))) k) ⟨env, st⟩ Q := rb_lft rfl h
theorem rl_neg {i : Int} (h : Run (k (.d (.int (-i)))) ⟨env, st⟩ Q) : Run (bnd (lft fun st => negA st (.d (.int i))) k) ⟨env, st⟩ Q := rb_lft rfl h
theorem rl_mulI {own : Bool} {i j : Int} (hs : (-18446744073709551616 < i ∧ i < 18446744073709551616) ∨ (-18446744073709551616 < j ∧ j < 18446744073709551616)) (h : Run (k (.d (.int (i * j)))) ⟨env, st⟩ Q) : Run (bnd (lft fun st => mulA own st (.d (.int i)) (.d (.int j))) k) ⟨env, st⟩ Q :=
  rb_lft (by
    have : (small i || small j) = true := by
      unfold small
      simp only [Bool.or_eq_true, Bool.and_eq_true, decide_eq_true_eq]
      exact hs
    unfold mulA
    simp only [this, if_true]) h
theorem rl_mulS {own : Bool} {z : Str} {n : Int} (hs : z.length ≤ 1000 ∧ n ≤ 1000 ∧ 0 ≤ n) (h : Run (k (.d (.str (Txt.mul z n)))) ⟨env, st⟩ Q) : Run (bnd (lft fun st => mulA own st (.d (.str z)) (.d (.int n))) k) ⟨env, st⟩ Q :=
  rb_lft (by
    unfold mulA
    simp only [hs, and_self, if_true]) h
theorem rl_lt {i j : Int} (h : Run (k (.d (.bl (decide (i < j))))) ⟨env, st⟩ Q) : Run (bnd (lft fun st => ltA st (.d (.int i)) (.d (.int j))) k) ⟨env, st⟩ Q := rb_lft rfl h
theorem rl_le {i j : Int} (h : Run (k (.d (.bl (decide (i ≤ j))))) ⟨env, st⟩ Q) : Run (bnd (lft fun st => leA st (.d (.int i)) (.d (.int j))) k) ⟨env, st⟩ Q := rb_lft rfl h
theorem rl_gt {i j : Int} (h : Run (k (.d (.bl (decide (j < i))))) ⟨env, st⟩ Q) : Run (bnd (lft fun st => gtA st (.d (.int i)) (.d (.int j))) k) ⟨env, st⟩ Q := rb_lft rfl h
theorem rl_ge {i j : Int} (h : Run (k (.d (.bl (decide (j ≤ i))))) ⟨env, st⟩ Q) : Run (bnd (lft fun st => geA st (.d (.int i)) (.d (.int j))) k) ⟨env, st⟩ Q := rb_lft rfl h
theorem rl_eqI {i j : Int} (h : Run (k (.d (.bl (decide (i = j))))) ⟨env, st⟩ Q) : Run (bnd (lft fun st => eqA st (.d (.int i)) (.d (.int j))) k) ⟨env, st⟩ Q := rb_lft rfl h
theorem rl_eqS {i j : Str} (h : Run (k (.d (.bl (decide (i = j))))) ⟨env, st⟩ Q) : Run (bnd (lft fun st => eqA st (.d (.str i)) (.d (.str j))) k) ⟨env, st⟩ Q := rb_lft rfl h
theorem rl_neI {i j : Int} (h : Run (k (.d (.bl (!decide (i = j))))) ⟨env, st⟩ Q) : Run (bnd (lft fun st => neA st (.d (.int i)) (.d (.int j))) k) ⟨env, st⟩ Q := rb_lft rfl h
theorem rl_neS {i j : Str} (h : Run (k (.d (.bl (!decide (i = j))))) ⟨env, st⟩ Q) : Run (bnd (lft fun st => neA st (.d (.str i)) (.d (.str j))) k) ⟨env, st⟩ Q := rb_lft rfl h
theorem rl_eqB {x y : W} {b : Bool} (e : eqB st x y = some b) (h : Run (k (.d (.bl b))) ⟨env, st⟩ Q) : Run (bnd (lft fun st => eqA st x y) k) ⟨env, st⟩ Q := rb_lft (by unfold eqA; simp only [e]) h
theorem rl_neB {x y : W} {b : Bool} (e : eqB st x y = some b) (h : Run (k (.d (.bl (!b)))) ⟨env, st⟩ Q) : Run (bnd (lft fun st => neA st x y) k) ⟨env, st⟩ Q := rb_lft (by unfold neA; simp only [e]) h
theorem rl_in {x y : W} {b : Bool} (e : inB st x y = some b) (h : Run (k (.d (.bl b))) ⟨env, st⟩ Q) : Run (bnd (lft fun st => inA st x y) k) ⟨env, st⟩ Q := rb_lft (by unfold inA; simp only [e]) h
theorem rl_nin {x y : W} {b : Bool} (e : inB st x y = some b) (h : Run (k (.d (.bl (!b)))) ⟨env, st⟩ Q) : Run (bnd (lft fun st => ninA st x y) k) ⟨env, st⟩ Q := rb_lft (by unfold ninA; simp only [e]) h
theorem rl_inC {c : Nat} {z : Str} (h : Run (k (.d (.bl (decide (c ∈ z.cps.toList))))) ⟨env, st⟩ Q) : Run (bnd (lft fun st => inA st (.d (.str (chr1 c))) (.d (.str z))) k) ⟨env, st⟩ Q := rb_lft rfl h
theorem rl_ninC {c : Nat} {z : Str} (h : Run (k (.d (.bl (!decide (c ∈ z.cps.toList))))) ⟨env, st⟩ Q) : Run (bnd (lft fun st => ninA st (.d (.str (chr1 c))) (.d (.str z))) k) ⟨env, st⟩ Q := rb_lft rfl h
theorem rl_isN {x : W} (h : Run (k (.d (.bl (isNonB x)))) ⟨env, st⟩ Q) : Run (bnd (lft fun st => isN st x (.d .non)) k) ⟨env, st⟩ Q := rb_lft rfl h
theorem rl_isnN {x : W} (h : Run (k (.d (.bl (!isNonB x)))) ⟨env, st⟩ Q) : Run (bnd (lft fun st => isnN st x (.d .non)) k) ⟨env, st⟩ Q := rb_lft rfl h
theorem rl_isBl {a b : Bool} (h : Run (k (.d (.bl (decide (a = b))))) ⟨env, st⟩ Q) : Run (bnd (lft fun st => isBl st (.d (.bl a)) (.d (.bl b))) k) ⟨env, st⟩ Q := rb_lft rfl h
theorem rl_isnBl {a b : Bool} (h : Run (k (.d (.bl (!decide (a = b))))) ⟨env, st⟩ Q) : Run (bnd (lft fun st => isnBl st (.d (.bl a)) (.d (.bl b))) k) ⟨env, st⟩ Q := rb_lft rfl h
theorem rl_lenS {z : Str} (hl : z.length ≤ 16777216) (h : Run (k (.d (.int z.length))) ⟨env, st⟩ Q) : Run (bnd (lft fun st => lenW st [.d (.str z)]) k) ⟨env, st⟩ Q := rb_lft (by unfold lenW; simp only [hl, if_true]) h
theorem rl_lenL {ds : List D} (h : Run (k (.d (.int ds.length))) ⟨env, st⟩ Q) : Run (bnd (lft fun st => lenW st [.d (.lst ds)]) k) ⟨env, st⟩ Q := rb_lft (by show some _ = _; rw [List.length_map]) h
theorem rl_lenF {ds : List D} (h : Run (k (.d (.int ds.length))) ⟨env, st⟩ Q) : Run (bnd (lft fun st => lenW st [.d (.fls ds)]) k) ⟨env, st⟩ Q := rb_lft (by show some _ = _; rw [List.length_map]) h
theorem rl_lenT {ds : List D} (h : Run (k (.d (.int ds.length))) ⟨env, st⟩ Q) : Run (bnd (lft fun st => lenW st [.d (.tup ds)]) k) ⟨env, st⟩ Q := rb_lft (by show some _ = _; rw [List.length_map]) h
theorem rl_intB {b : Bool} (h : Run (k (.d (.int (if b then 1 else 0)))) ⟨env, st⟩ Q) : Run (bnd (lft fun st => intW st [.d (.bl b)]) k) ⟨env, st⟩ Q := rb_lft rfl h
theorem rl_isi {q : List (Ty × Bool)} {w x : W} {b : Bool} (e : (match tyW st w with | some t => q.lookup t | none => none) = some b) (h : Run (k (.d (.bl b))) ⟨env, st⟩ Q) : Run (bnd (lft fun st => isiW q st [w, x]) k) ⟨env, st⟩ Q := by
  refine rb_lft ?_ h
  unfold isiW
  cases et : tyW st w with
  | none => simp only [et] at e; cases e
  | some t => simp only [et] at e ⊢; simp only [e]
theorem atI_map {α β : Type} {f : α → β} {xs : List α} {i : Int} : atI (xs.map f) i = (atI xs i).map f := by
  unfold atI
  rw [List.length_map]
  cases ixN xs.length i with
  | none => rfl
  | some j => simp
theorem atI_nat {α : Type} {xs : List α} {i : Int} {n : Nat} (e : i = n) (h : n < xs.length) : atI xs i = some xs[n] := by
  subst e
  have h1 : ixN xs.length (n : Int) = some n := by
    unfold ixN
    rw [if_pos (by omega), if_pos (by omega)]
    rfl
  unfold atI
  rw [h1]
  exact List.getElem?_eq_getElem h
theorem atI_get {α : Type} {xs : List α} {i : Int} {d : α} (h : 0 ≤ i ∧ i < xs.length) : atI xs i = some (xs.getD i.toNat d) := by
  rw [atI_nat (n := i.toNat) (by omega) (by omega)]
  rw [List.getD_eq_getElem?_getD, List.getElem?_eq_getElem (by omega)]
  rfl
theorem rl_ixL {ds : List D} {i : Int} {d : D} (e : atI ds i = some d) (h : Run (k (.d d)) ⟨env, st⟩ Q) : Run (bnd (lft fun st => ixA st (.d (.lst ds)) (.d (.int i))) k) ⟨env, st⟩ Q := rb_lft (by show (match atI ds i with | some d => some (W.d d, st) | none => none) = _; rw [e]) h
theorem rl_ixF {ds : List D} {i : Int} {d : D} (e : atI ds i = some d) (h : Run (k (.d d)) ⟨env, st⟩ Q) : Run (bnd (lft fun st => ixA st (.d (.fls ds)) (.d (.int i))) k) ⟨env, st⟩ Q := rb_lft (by show (match atI ds i with | some d => some (W.d d, st) | none => none) = _; rw [e]) h
theorem rl_ixT {ds : List D} {i : Int} {d : D} (e : atI ds i = some d) (h : Run (k (.d d)) ⟨env, st⟩ Q) : Run (bnd (lft fun st => ixA st (.d (.tup ds)) (.d (.int i))) k) ⟨env, st⟩ Q := rb_lft (by show (match atI ds i with | some d => some (W.d d, st) | none => none) = _; rw [e]) h
theorem rl_ixO {n : Nat} {ws : List W} {i : Int} {w : W} (e : st[n]? = some (some (.lst ws))) (e2 : atI ws i = some w) (h : Run (k w) ⟨env, st⟩ Q) : Run (bnd (lft fun st => ixA st (.loc n) (.d (.int i))) k) ⟨env, st⟩ Q := rb_lft (by unfold ixA ixI; simp only [e, e2]) h
def ints' (xs : List Int) : D := .lst (xs.map .int)
def strs' (xs : List Str) : D := .lst (xs.map .str)
theorem rl_ixI {xs : List Int} {i : Int} (hi : 0 ≤ i ∧ i < xs.length) (h : Run (k (.d (.int (xs.getD i.toNat 0)))) ⟨env, st⟩ Q) : Run (bnd (lft fun st => ixA st (.d (ints' xs)) (.d (.int i))) k) ⟨env, st⟩ Q := rl_ixL (by rw [atI_map, atI_get hi]; rfl) h
theorem rl_ixSs {xs : List Str} {i : Int} (hi : 0 ≤ i ∧ i < xs.length) (h : Run (k (.d (.str (xs.getD i.toNat "")))) ⟨env, st⟩ Q) : Run (bnd (lft fun st => ixA st (.d (strs' xs)) (.d (.int i))) k) ⟨env, st⟩ Q := rl_ixL (by rw [atI_map, atI_get hi]; rfl) h
theorem rl_ixS {z : Str} {i : Int} (hi : 0 ≤ i ∧ i < z.cps.toList.length) (hl : z.cps.toList.length ≤ 16777216) (h : Run (k (.d (.str (chr1 (z.cps.toList.getD i.toNat 0))))) ⟨env, st⟩ Q) : Run (bnd (lft fun st => ixA st (.d (.str z)) (.d (.int i))) k) ⟨env, st⟩ Q :=
  rb_lft (by
    show (match atI z.cps.toList i with | some ch => if z.length ≤ 16777216 then some (W.d (.str ⟨#[ch]⟩), st) else none | none => none) = _
    rw [atI_get hi]
    have hl : z.length ≤ 16777216 := hl
    simp only [hl, if_true]
    rfl) h
theorem rl_slS {own : Bool} {z : Str} {lo hi : Option Int} (hl : z.length ≤ 16777216) (h : Run (k (.d (.str (cutS z lo hi)))) ⟨env, st⟩ Q) : Run (bnd (lft fun st => sliceA own st (.d (.str z)) lo hi) k) ⟨env, st⟩ Q := rb_lft (by unfold sliceA; simp only [hl, if_true]) h
theorem rl_slL {ds : List D} {lo hi : Option Int} (h : Run (k (.d (.lst (cutW ds lo hi)))) ⟨env, st⟩ Q) : Run (bnd (lft fun st => sliceA false st (.d (.lst ds)) lo hi) k) ⟨env, st⟩ Q :=
  rb_lft (by
    show newL false (cutW (ds.map W.d) lo hi) st = _
    rw [cutW_D]
    unfold newL
    rw [allD_map]
    rfl) h
theorem rl_slF {ds : List D} {lo hi : Option Int} (h : Run (k (.d (.lst (cutW ds lo hi)))) ⟨env, st⟩ Q) : Run (bnd (lft fun st => sliceA false st (.d (.fls ds)) lo hi) k) ⟨env, st⟩ Q :=
  rb_lft (by
    show newL false (cutW (ds.map W.d) lo hi) st = _
    rw [cutW_D]
    unfold newL
    rw [allD_map]
    rfl) h
theorem cutW_map {α γ : Type} {f : α → γ} {xs : List α} {lo hi : Option Int} : cutW (xs.map f) lo hi = (cutW xs lo hi).map f := by
  unfold cutW
  rw [List.length_map, List.map_take, List.map_drop]
theorem rl_slI {xs : List Int} {lo hi : Option Int} (h : Run (k (.d (ints' (cutW xs lo hi)))) ⟨env, st⟩ Q) : Run (bnd (lft fun st => sliceA false st (.d (ints' xs)) lo hi) k) ⟨env, st⟩ Q := rl_slL (by rw [cutW_map]; exact h)
theorem rl_newF {ws : List W} {ds : List D} (e : allD ws = some ds) (h : Run (k (.d (.lst ds))) ⟨env, st⟩ Q) : Run (bnd (lft (newL false ws)) k) ⟨env, st⟩ Q := rb_lft (by unfold newL; simp only [Bool.false_eq_true, if_false, e]) h
theorem rl_newO {ws : List W} {n : Nat} {st' : Store} (e : st.length = n) (e2 : st ++ [some (.lst ws)] = st') (h : Run (k (.loc n)) ⟨env, st'⟩ Q) : Run (bnd (lft (newL true ws)) k) ⟨env, st⟩ Q := by
  subst e e2
  exact rb_lft rfl h
theorem rl_append {n : Nat} {ws : List W} {w : W} {st' : Store} (e : st[n]? = some (some (.lst ws))) (hl : ws.length < 16777216) (e2 : st.set n (some (.lst (ws ++ [w]))) = st') (h : Run (k (.d .non)) ⟨env, st'⟩ Q) : Run (bnd (lft fun st => appendW st (.loc n) [w]) k) ⟨env, st⟩ Q := rb_lft (by unfold appendW wrL; simp only [e, hl, if_true]; rw [e2]) h
theorem rl_clear {n : Nat} {ws : List W} {st' : Store} (e : st[n]? = some (some (.lst ws))) (e2 : st.set n (some (.lst [])) = st') (h : Run (k (.d .non)) ⟨env, st'⟩ Q) : Run (bnd (lft fun st => clearW st (.loc n) []) k) ⟨env, st⟩ Q := rb_lft (by unfold clearW wrL; simp only [e]; rw [e2]) h
theorem rb_gP {np : Nat} {F : FP} {ws : List W} {ds : List D} {P : D → Prop} (e : allD ws = some ds) (hn : ds.length = np) (h : ∃ d, F ds = some (.ok d) ∧ P d) (hk : ∀ d, P d → Run (k (.d d)) s Q) : Run (bnd (gP np F (ws ++ [])) k) s Q := by
  obtain ⟨d, h1, h2⟩ := h
  refine rb_eq (a := .d d) (s1 := s) ?_ (hk d h2)
  have e := allD_eq e
  subst e
  unfold gP
  rw [List.append_nil, List.length_map, if_pos hn]
  unfold callP treesE
  rw [bnd_pur, allD_map]
  show outP (F ds) s = _
  rw [h1]
  rfl
theorem rb_gPe {np : Nat} {F : FP} {ws : List W} {ds : List D} {d : D} (e : allD ws = some ds) (hn : ds.length = np) (h : F ds = some (.ok d)) (hk : Run (k (.d d)) s Q) : Run (bnd (gP np F (ws ++ [])) k) s Q := rb_gP e hn (P := fun x => x = d) ⟨d, h, rfl⟩ fun _ e => by subst e; exact hk
theorem rb_gO {np : Nat} {F : FO} {ws : List W} {ds : List D} {o : OO} {st' : Store} (e : allD ws = some ds) (hn : ds.length = np) (h : F ds = some (.ok o)) {i : Nat} (e1 : st.length = i) (e2 : st ++ [some o] = st') (hk : Run (k (.loc i)) ⟨env, st'⟩ Q) : Run (bnd (gO np F (ws ++ [])) k) ⟨env, st⟩ Q := by
  subst e1 e2
  refine rb_eq (a := .loc st.length) (s1 := ⟨env, st ++ [some o]⟩) ?_ hk
  have e := allD_eq e
  subst e
  unfold gO callO treesE
  rw [List.append_nil, List.length_map, if_pos hn, bnd_pur, allD_map]
  show outO (F ds) _ = _
  rw [h]
  rfl
def LoopQ (N : SS → Prop) (k : Fl → EM β) (Q : Out β → SS → Prop) : Out Fl → SS → Prop := fun o s => match o with
  | .ok .nx => N s
  | .ok .cnt => N s
  | .ok .brk => Run (k .nx) s Q
  | .ok (.ret w) => Run (k (.ret w)) s Q
  | .ex c ks vs => Q (.ex c ks vs) s
theorem lq_nx {N : SS → Prop} {k : Fl → EM β} (h : N s) : Run (pur .nx) s (LoopQ N k Q) := run_pur h
theorem lq_cnt {N : SS → Prop} {k : Fl → EM β} (h : N s) : Run (pur .cnt) s (LoopQ N k Q) := run_pur h
theorem lq_brk {N : SS → Prop} {k : Fl → EM β} (h : Run (k .nx) s Q) : Run (pur .brk) s (LoopQ N k Q) := run_pur h
theorem lq_ret {N : SS → Prop} {k : Fl → EM β} {w : W} (h : Run (k (.ret w)) s Q) : Run (pur (.ret w)) s (LoopQ N k Q) := run_pur h
theorem rb_loop {α : Type} {f : α → D} {t : Tg} {body : EM Fl} {k : Fl → EM β} {Q : Out β → SS → Prop} (P : List α → SS → Prop)
    (hs : ∀ (a : α) (l : List α) (s : SS), P (a :: l) s → Run (bnd (asg t (.d (f a))) fun _ => bnd body pur) s (LoopQ (P l) k Q)) (hd : ∀ s, P [] s → Run (k .nx) s Q) :
    ∀ (l : List α) (s : SS), P l s → Run (bnd (loopS t body (l.map f)) k) s Q
  | [], s, h => hd s h
  | a :: l, s, h => by
    have h1 := hs a l s h
    have e : (bnd (asg t (.d (f a))) fun _ => bnd body pur) = bnd (asg t (.d (f a))) fun _ => body := by
      congr 1
      funext _ s
      unfold bnd
      cases body s with
      | none => rfl
      | some p => obtain ⟨o, s'⟩ := p; cases o <;> rfl
    rw [e] at h1
    obtain ⟨o, s1, e1, h1⟩ := h1
    have ed : loopS t body ((a :: l).map f) = bnd (bnd (asg t (.d (f a))) fun _ => body) fun x => match x with
      | .nx => loopS t body (l.map f)
      | .cnt => loopS t body (l.map f)
      | .brk => pur .nx
      | .ret w => pur (.ret w) := rfl
    rw [ed]
    refine rb_bnd ?_
    cases o with
    | ok x =>
      refine rb_eq e1 ?_
      cases x with
      | nx => exact rb_loop P hs hd l s1 h1
      | cnt => exact rb_loop P hs hd l s1 h1
      | brk => exact h1
      | ret w => exact h1
    | ex c ks vs => exact ⟨_, s1, bnd_ex e1, h1⟩
theorem rb_loopI {t : Tg} {body : EM Fl} {k : Fl → EM β} {Q : Out β → SS → Prop} {l : List D} (P : List D → SS → Prop) (h : P l s)
    (hs : ∀ (a : D) (l : List D) (s : SS), P (a :: l) s → Run (bnd (asg t (.d a)) fun _ => bnd body pur) s (LoopQ (P l) k Q)) (hd : ∀ s, P [] s → Run (k .nx) s Q) :
    Run (bnd (loopS t body l) k) s Q := by
  have := rb_loop (f := fun x => x) P hs hd l s h
  rw [List.map_id'] at this
  exact this
def CompQ (N : SS → Prop) (Y : W → SS → Prop) : Out (Option W) → SS → Prop := fun o s => match o with
  | .ok none => N s
  | .ok (some w) => Y w s
  | .ex _ _ _ => False
theorem run_comp {α : Type} {f : α → D} {own : List Nat} {t : Tg} {tt : EM Bool} {el : EM W} (P : List α → List W → SS → Prop)
    (hs : ∀ (a : α) (l : List α) (acc : List W) (s : SS), P (a :: l) acc s → Run (bnd (wipS own) fun _ => bnd (asg t (.d (f a))) fun _ => bnd tt fun b => bnd (ite2 b (bnd el fun w => pur (some w)) (pur none)) pur) s (CompQ (P l acc) fun w s' => acc.length < 16777216 ∧ P l (acc ++ [w]) s')) :
    ∀ (l : List α) (acc : List W) (s : SS), P l acc s → ∃ ws s', compL own t tt el (l.map f) acc s = some (.ok ws, s') ∧ P [] ws s'
  | [], acc, s, h => ⟨acc, s, rfl, h⟩
  | a :: l, acc, s, h => by
    obtain ⟨o, s1, e1, h1⟩ := hs a l acc s h
    have ed : compL own t tt el ((a :: l).map f) acc = bnd (bnd (wipS own) fun _ => asg t (.d (f a))) fun _ => bnd tt fun b => if b then bnd el fun w => (if acc.length < 16777216 then compL own t tt el (l.map f) (acc ++ [w]) else non) else compL own t tt el (l.map f) acc := rfl
    rw [ed]
    have e2 : (bnd (wipS own) fun _ => bnd (asg t (.d (f a))) fun _ => bnd tt fun b => bnd (ite2 b (bnd el fun w => pur (some w)) (pur none)) pur) = bnd (bnd (bnd (wipS own) fun _ => asg t (.d (f a))) fun _ => bnd tt fun b => ite2 b (bnd el fun w => pur (some w)) (pur none)) pur := by
      rw [bnd_assoc, bnd_assoc]
      congr 1
      funext _
      congr 1
      funext _
      rw [bnd_assoc]
    have e3 : (bnd (bnd (wipS own) fun _ => asg t (.d (f a))) fun _ => bnd tt fun b => if b then bnd el fun w => (if acc.length < 16777216 then compL own t tt el (l.map f) (acc ++ [w]) else non) else compL own t tt el (l.map f) acc) =
        bnd (bnd (bnd (wipS own) fun _ => asg t (.d (f a))) fun _ => bnd tt fun b => ite2 b (bnd el fun w => pur (some w)) (pur none)) fun x => match x with
          | some w => (if acc.length < 16777216 then compL own t tt el (l.map f) (acc ++ [w]) else non)
          | none => compL own t tt el (l.map f) acc := by
      rw [bnd_assoc, bnd_assoc, bnd_assoc]
      congr 1
      funext _
      congr 1
      funext _
      rw [bnd_assoc]
      congr 1
      funext b
      cases b with
      | false => rfl
      | true =>
        show _ = bnd (bnd el fun w => pur (some w)) _
        rw [bnd_assoc]
        rfl
    rw [e3]
    rw [e2] at e1
    cases q : (bnd (bnd (wipS own) fun _ => asg t (.d (f a))) fun _ => bnd tt fun b => ite2 b (bnd el fun w => pur (some w)) (pur none)) s with
    | none => rw [bnd_no q] at e1; cases e1
    | some p =>
      obtain ⟨o2, s2⟩ := p
      cases o2 with
      | ex _ _ _ => rw [bnd_ex q] at e1; cases e1; exact h1.elim
      | ok x =>
        rw [bnd_ok q] at e1
        cases e1
        rw [bnd_ok q]
        cases x with
        | none => exact run_comp P hs l acc s1 h1
        | some w =>
          obtain ⟨h1, h2⟩ := h1
          obtain ⟨ws, s', e4, h4⟩ := run_comp P hs l (acc ++ [w]) s1 h2
          refine ⟨ws, s', ?_, h4⟩
          simp only [h1, if_true]
          exact e4
theorem rb_compE {own : List Nat} {mi : EM (List D)} {t : Tg} {tt : EM Bool} {el : EM W} {ownr : Bool} (h : Run (bnd mi fun ds => bnd (compK own t tt el ownr ds) k) s Q) : Run (bnd (compE own mi t tt el ownr) k) s Q := rb_bnd h
theorem cq_no {N : SS → Prop} {Y : W → SS → Prop} (h : N s) : Run (pur none) s (CompQ N Y) := run_pur h
theorem cq_yes {N : SS → Prop} {Y : W → SS → Prop} {w : W} (h : Y w s) : Run (pur (some w)) s (CompQ N Y) := run_pur h
theorem rb_wip {own : List Nat} {k : Unit → EM β} {env' : List (Option W)} (e : wipeO env own = env') (h : Run (k ()) ⟨env', st⟩ Q) : Run (bnd (wipS own) k) ⟨env, st⟩ Q := by
  subst e
  exact rb_eq (a := ()) rfl h
def whK (n : Nat) (t : EM Bool) (b : EM Fl) : Fl → EM Fl
  | .nx => whileS n t b
  | .cnt => whileS n t b
  | .brk => pur .nx
  | .ret w => pur (.ret w)
theorem rb_while {t : EM Bool} {b : EM Fl} {k : Fl → EM β} (P : Nat → SS → Prop)
    (hs : ∀ (n : Nat) (s : SS), P (n + 1) s → Run (bnd t fun x => bnd (ite2 x (bnd b fun f => pur (some f)) (pur none)) pur) s (fun o s' => match o with
      | .ok (some f) => LoopQ (P n) k Q (.ok f) s'
      | .ok none => Run (k .nx) s' Q
      | .ex c ks vs => Q (.ex c ks vs) s')) (h0 : ∀ s, P 0 s → False) : ∀ (n : Nat) (s : SS), P n s → Run (bnd (whileS n t b) k) s Q
  | 0, s, h => (h0 s h).elim
  | n + 1, s, h => by
    obtain ⟨o, s1, e1, h1⟩ := hs n s h
    have ed : whileS (n + 1) t b = bnd (bnd t fun x => bnd (ite2 x (bnd b fun f => pur (some f)) (pur none)) pur) fun y => match y with
        | some f => whK n t b f
        | none => pur .nx := by
      rw [bnd_assoc]
      show bnd t _ = _
      congr 1
      funext x
      cases x with
      | false => rfl
      | true =>
        show bnd b _ = bnd (bnd (bnd b fun f => pur (some f)) pur) _
        rw [bnd_assoc, bnd_assoc]
        rfl
    rw [ed]
    refine rb_bnd ?_
    cases o with
    | ex c ks vs => exact ⟨_, s1, bnd_ex e1, h1⟩
    | ok y =>
      refine rb_eq e1 ?_
      cases y with
      | none => exact h1
      | some f =>
        cases f with
        | nx => exact rb_while P hs h0 n s1 h1
        | cnt => exact rb_while P hs h0 n s1 h1
        | brk => exact h1
        | ret w => exact h1
def RetP (P : D → Prop) : Out Fl → SS → Prop := fun o s => match o with
  | .ok .nx => P .non
  | .ok (.ret (.d d)) => P d
  | .ok (.ret (.loc n)) => ∃ d st, fz 20 (.loc n) s.st = some (d, st) ∧ P d
  | _ => False
theorem rp_nx {P : D → Prop} (h : P .non) : Run (pur .nx) s (RetP P) := run_pur h
theorem rp_d {P : D → Prop} {d : D} (h : P d) : Run (pur (.ret (.d d))) s (RetP P) := run_pur h
theorem rp_lst {P : D → Prop} {n : Nat} {ws : List W} {ds : List D} (e : st[n]? = some (some (.lst ws))) (e2 : allD ws = some ds) (h : P (.lst ds)) : Run (pur (.ret (.loc n))) ⟨env, st⟩ (RetP P) := run_pur ⟨_, _, fz_lst e e2, h⟩
theorem fp_run {n : Nat} {b : EM Fl} {ds : List D} {P : D → Prop} (env : List (Option W)) (e : initS n (ds.map .d) [] = ⟨env, []⟩) (h : Run (bnd b pur) ⟨env, []⟩ (RetP P)) : ∃ d, pureP (bodyF n b) ds = some (.ok d) ∧ P d := by
  obtain ⟨o, s', e1, h⟩ := run_bnd h
  unfold pureP bodyF
  rw [e, e1]
  cases o with
  | ex _ _ _ => exact h.elim
  | ok f =>
    cases f with
    | nx => exact ⟨.non, rfl, h⟩
    | brk => exact h.elim
    | cnt => exact h.elim
    | ret w =>
      cases w with
      | d d => exact ⟨d, by simp only [fz_d], h⟩
      | loc n =>
        obtain ⟨d, st, h1, h2⟩ := h
        exact ⟨d, by simp only [h1], h2⟩
theorem fp_eq {n : Nat} {b : EM Fl} {ds : List D} {d : D} (env : List (Option W)) (e : initS n (ds.map .d) [] = ⟨env, []⟩) (h : Run (bnd b pur) ⟨env, []⟩ (RetP fun x => x = d)) : pureP (bodyF n b) ds = some (.ok d) := by
  obtain ⟨d', h1, rfl⟩ := fp_run env e h
  exact h1
def RetO (P : OO → Prop) : Out Fl → SS → Prop := fun o s => match o with
  | .ok (.ret (.loc n)) => ∃ o o', s.st[n]? = some (some o) ∧ o.fz (s.st.set n none) = some o' ∧ P o'
  | _ => False
end
section
variable {β : Type} {s : SS} {Q : Out β → SS → Prop}
theorem rb_itI {k : List D → EM β} {xs : List Int} (h : Run (k (xs.map .int)) s Q) : Run (bnd (itK (.d (ints' xs))) k) s Q := h
theorem rb_itSs {k : List D → EM β} {xs : List Str} (h : Run (k (xs.map .str)) s Q) : Run (bnd (itK (.d (strs' xs))) k) s Q := h
end
section
variable {β : Type} {env : List (Option W)} {st st' : Store} {s : SS} {Q : Out β → SS → Prop} {k : W → EM β}
theorem rl_append' {n : Nat} {ws : List W} {w : W} (e : st[n]? = some (some (.lst ws))) (e2 : st.set n (some (.lst (ws ++ [w]))) = st') (h : Run (k (.d .non)) ⟨env, st'⟩ Q) (hl : ws.length < 16777216) : Run (bnd (lft fun st => appendW st (.loc n) [w]) k) ⟨env, st⟩ Q := rl_append e hl e2 h
theorem rl_ixI' {xs : List Int} {i : Int} (h : Run (k (.d (.int (xs.getD i.toNat 0)))) ⟨env, st⟩ Q) (hi : 0 ≤ i ∧ i < xs.length) : Run (bnd (lft fun st => ixA st (.d (ints' xs)) (.d (.int i))) k) ⟨env, st⟩ Q := rl_ixI hi h
theorem rl_ixSs' {xs : List Str} {i : Int} (h : Run (k (.d (.str (xs.getD i.toNat "")))) ⟨env, st⟩ Q) (hi : 0 ≤ i ∧ i < xs.length) : Run (bnd (lft fun st => ixA st (.d (strs' xs)) (.d (.int i))) k) ⟨env, st⟩ Q := rl_ixSs hi h
theorem rl_ixS' {z : Str} {i : Int} (h : Run (k (.d (.str (chr1 (z.cps.toList.getD i.toNat 0))))) ⟨env, st⟩ Q) (hi : (0 ≤ i ∧ i < z.cps.toList.length) ∧ z.cps.toList.length ≤ 16777216) : Run (bnd (lft fun st => ixA st (.d (.str z)) (.d (.int i))) k) ⟨env, st⟩ Q := rl_ixS hi.1 hi.2 h
theorem rl_lenS' {z : Str} (h : Run (k (.d (.int z.length))) ⟨env, st⟩ Q) (hl : z.length ≤ 16777216) : Run (bnd (lft fun st => lenW st [.d (.str z)]) k) ⟨env, st⟩ Q := rl_lenS hl h
theorem rl_addS' {own : Bool} {i j : Str} (h : Run (k (.d (.str (i ++ j)))) ⟨env, st⟩ Q) (hl : i.length + j.length ≤ 16777216) : Run (bnd (lft fun st => addA own st (.d (.str i)) (.d (.str j))) k) ⟨env, st⟩ Q := rl_addS hl h
theorem rl_addL' {ds es : List D} (h : Run (k (.d (.lst (ds ++ es)))) ⟨env, st⟩ Q) (hl : ds.length + es.length ≤ 16777216) : Run (bnd (lft fun st => addA false st (.d (.lst ds)) (.d (.lst es))) k) ⟨env, st⟩ Q := rl_addL hl h
theorem rl_slS' {own : Bool} {z : Str} {lo hi : Option Int} (h : Run (k (.d (.str (cutS z lo hi)))) ⟨env, st⟩ Q) (hl : z.length ≤ 16777216) : Run (bnd (lft fun st => sliceA own st (.d (.str z)) lo hi) k) ⟨env, st⟩ Q := rl_slS hl h
theorem rl_mulS' {own : Bool} {z : Str} {n : Int} (h : Run (k (.d (.str (Txt.mul z n)))) ⟨env, st⟩ Q) (hs : z.length ≤ 1000 ∧ n ≤ 1000 ∧ 0 ≤ n) : Run (bnd (lft fun st => mulA own st (.d (.str z)) (.d (.int n))) k) ⟨env, st⟩ Q := rl_mulS hs h
theorem rl_mulI' {own : Bool} {i j : Int} (h : Run (k (.d (.int (i * j)))) ⟨env, st⟩ Q) (hs : (-18446744073709551616 < i ∧ i < 18446744073709551616) ∨ (-18446744073709551616 < j ∧ j < 18446744073709551616)) : Run (bnd (lft fun st => mulA own st (.d (.int i)) (.d (.int j))) k) ⟨env, st⟩ Q := rl_mulI hs h
theorem rl_mod' {i j : Int} (h : Run (k (.d (.int (i % j)))) ⟨env, st⟩ Q) (hj : 0 < j) : Run (bnd (lft fun st => intF modI st (.d (.int i)) (.d (.int j))) k) ⟨env, st⟩ Q := rl_mod hj h
theorem rl_div' {i j : Int} (h : Run (k (.d (.int (i / j)))) ⟨env, st⟩ Q) (hj : 0 < j ∧ j < 1000000000000000000000000000000) : Run (bnd (lft fun st => intF divI st (.d (.int i)) (.d (.int j))) k) ⟨env, st⟩ Q := rl_div hj h
end
def iw (xs : List Int) : List W := xs.map fun i => W.d (.int i)
def sw (xs : List Str) : List W := xs.map fun i => W.d (.str i)
theorem allD_iw (xs : List Int) : allD (iw xs) = some (xs.map D.int) := by
  have := allD_map (xs.map D.int)
  rw [List.map_map] at this
  exact this
theorem allD_sw (xs : List Str) : allD (sw xs) = some (xs.map D.str) := by
  have := allD_map (xs.map D.str)
  rw [List.map_map] at this
  exact this
theorem iw_snoc {xs : List Int} {v : Int} : iw xs ++ [W.d (.int v)] = iw (xs ++ [v]) := by unfold iw; simp
theorem iw_len {xs : List Int} : (iw xs).length = xs.length := by unfold iw; simp
theorem sw_len {xs : List Str} : (sw xs).length = xs.length := by unfold sw; simp
inductive All2 {α γ : Type} (Y : α → γ → Prop) : List α → List γ → Prop where
  | nil : All2 Y [] []
  | cons {a : α} {b : γ} {l : List α} {r : List γ} (h : Y a b) (t : All2 Y l r) : All2 Y (a :: l) (b :: r)
theorem All2.len {α γ : Type} {Y : α → γ → Prop} {l : List α} {r : List γ} (h : All2 Y l r) : l.length = r.length := by
  induction h with
  | nil => rfl
  | cons _ _ ih => exact congrArg (· + 1) ih
def EvQ (s0 : SS) (Y : W → Prop) : Out W → SS → Prop := fun o s => s = s0 ∧ match o with
  | .ok w => Y w
  | .ex _ _ _ => False
theorem ev_ok {s : SS} {Y : W → Prop} {w : W} (h : Y w) : Run (pur w) s (EvQ s Y) := run_pur ⟨rfl, h⟩
section
variable {β : Type} {env : List (Option W)} {st : Store} {Q : Out β → SS → Prop} {k : W → EM β}
theorem compL_snd {α : Type} {f : α → D} {i : Nat} {tt : EM Bool} {el : EM W} (Y : α → W → Prop) (p : α → Bool)
    (ht : ∀ (a : α), tt ⟨env.set i (some (.d (f a))), st⟩ = some (.ok (p a), ⟨env.set i (some (.d (f a))), st⟩))
    (hs : ∀ (a : α), p a = true → ∃ w, el ⟨env.set i (some (.d (f a))), st⟩ = some (.ok w, ⟨env.set i (some (.d (f a))), st⟩) ∧ Y a w) : ∀ (l : List α) (acc : List W) (x : Option W), acc.length + l.length ≤ 16777216 →
      ∃ ws x', compL [i] (.name i) tt el (l.map f) acc ⟨env.set i x, st⟩ = some (.ok (acc ++ ws), ⟨env.set i x', st⟩) ∧ All2 Y (l.filter p) ws
  | [], acc, x, _ => ⟨[], x, by rw [List.append_nil]; rfl, .nil⟩
  | a :: l, acc, x, hl => by
    have hl : acc.length + (l.length + 1) ≤ 16777216 := hl
    have e0 : (bnd (wipS [i]) fun _ => asg (.name i) (.d (f a))) ⟨env.set i x, st⟩ = some (.ok (), ⟨env.set i (some (.d (f a))), st⟩) := by
      show some (Out.ok (), SS.mk (((env.set i x).set i none).set i (some (.d (f a)))) st) = _
      rw [List.set_set, List.set_set]
    have ed : compL [i] (.name i) tt el ((a :: l).map f) acc = bnd (bnd (wipS [i]) fun _ => asg (.name i) (.d (f a))) fun _ => bnd tt fun b => if b then bnd el fun w => (if acc.length < 16777216 then compL [i] (.name i) tt el (l.map f) (acc ++ [w]) else non) else compL [i] (.name i) tt el (l.map f) acc := rfl
    rw [ed, bnd_ok e0, bnd_ok (ht a)]
    cases hp : p a with
    | true =>
      obtain ⟨w, ew, hy⟩ := hs a hp
      rw [if_pos rfl, bnd_ok ew, if_pos (by omega)]
      obtain ⟨ws, x', h1, h2⟩ := compL_snd Y p ht hs l (acc ++ [w]) (some (.d (f a))) (by simp; omega)
      refine ⟨w :: ws, x', ?_, ?_⟩
      · rw [h1, List.append_assoc]
        rfl
      · rw [List.filter_cons_of_pos hp]
        exact .cons hy h2
    | false =>
      rw [if_neg Bool.false_ne_true]
      obtain ⟨ws, x', h1, h2⟩ := compL_snd Y p ht hs l acc (some (.d (f a))) (by omega)
      refine ⟨ws, x', h1, ?_⟩
      rw [List.filter_cons_of_neg (by rw [hp]; exact Bool.false_ne_true)]
      exact h2
end
theorem chr1_len {c : Nat} : (chr1 c).length = 1 := rfl
theorem eq_str (y z : Str) : D.eq (.str y) (.str z) = decide (y = z) := by
  unfold D.eq toPy PyData.eqv
  rw [Bool.eq_iff_iff]
  simp
theorem any_str (z : Str) (zs : List Str) : ((zs.map D.str).any fun e => D.eq e (.str z)) = decide (z ∈ zs) := by
  rw [List.any_map]
  rw [Bool.eq_iff_iff]
  simp only [List.any_eq_true, Function.comp, eq_str, decide_eq_true_eq]
  exact ⟨fun ⟨x, h, e⟩ => e ▸ h, fun h => ⟨z, h, rfl⟩⟩
theorem flat_strs (zs : List Str) : (zs.map D.str).all flatD = true := by
  rw [List.all_map, List.all_eq_true]
  exact fun _ _ => rfl
section
variable {β : Type} {env : List (Option W)} {st st' : Store} {s : SS} {Q : Out β → SS → Prop} {k : W → EM β}
theorem inB_strT {z : Str} {zs : List Str} : inB st (.d (.str z)) (.d (.tup (zs.map .str))) = some (decide (z ∈ zs)) := by
  unfold inB
  simp only [snap_d, seqD, flat_strs, any_str, flatD, Bool.and_self, if_true]
theorem inB_strL {z : Str} {zs : List Str} : inB st (.d (.str z)) (.d (strs' zs)) = some (decide (z ∈ zs)) := by
  unfold inB strs'
  simp only [snap_d, seqD, flat_strs, any_str, flatD, Bool.and_self, if_true]
theorem rl_inT {z : Str} {zs : List Str} (h : Run (k (.d (.bl (decide (z ∈ zs))))) ⟨env, st⟩ Q) : Run (bnd (lft fun st => inA st (.d (.str z)) (.d (.tup (zs.map .str)))) k) ⟨env, st⟩ Q := rl_in inB_strT h
theorem rl_inL {z : Str} {zs : List Str} (h : Run (k (.d (.bl (decide (z ∈ zs))))) ⟨env, st⟩ Q) : Run (bnd (lft fun st => inA st (.d (.str z)) (.d (strs' zs))) k) ⟨env, st⟩ Q := rl_in inB_strL h
theorem rl_ninT {z : Str} {zs : List Str} (h : Run (k (.d (.bl (!decide (z ∈ zs))))) ⟨env, st⟩ Q) : Run (bnd (lft fun st => ninA st (.d (.str z)) (.d (.tup (zs.map .str)))) k) ⟨env, st⟩ Q := rl_nin inB_strT h
theorem rl_ninL {z : Str} {zs : List Str} (h : Run (k (.d (.bl (!decide (z ∈ zs))))) ⟨env, st⟩ Q) : Run (bnd (lft fun st => ninA st (.d (.str z)) (.d (strs' zs))) k) ⟨env, st⟩ Q := rl_nin inB_strL h
end
end EV
namespace EV
open PySem L2
local macro_rules | `(tactic| walk_at "go") => `(tactic| repeat (first
  | with_reducible refine rb_cst ?_
  | with_reducible refine rb_var (by with_unfolding_all rfl) ?_
  | with_reducible refine rb_op2 ?_
  | with_reducible refine rb_sq ?_
  | with_reducible refine rb_sqN ?_
  | with_reducible refine rb_sqR ?_
  | with_reducible refine rb_asgS ?_
  | with_reducible refine rb_asg (by dsimp only [List.set] <;> exact rfl) ?_
  | with_reducible refine rb_acons ?_
  | with_reducible refine rb_anil ?_
  | with_reducible refine rb_toB ?_
  | with_reducible refine rb_toBK ?_
  | with_reducible refine rb_ifE ?_
  | with_reducible refine rb_callB ?_
  | with_reducible refine rb_callE ?_
  | with_reducible refine rb_retS ?_
  | with_reducible refine rb_pur ?_
  | with_reducible refine rb_iteT ?_
  | with_reducible refine rb_iteF ?_
  | with_reducible refine rb_iteNT ?_
  | with_reducible refine rb_iteNF ?_
  | with_reducible refine rb_lst ?_
  | with_reducible refine rb_lstK (by decide) ?_
  | with_reducible refine rl_newF (by dsimp only [allD, Option.map] <;> exact rfl) ?_
  | with_reducible refine rb_slE ?_
  | with_reducible refine rb_partN ?_
  | with_reducible refine rb_partS ?_
  | with_reducible refine rb_partK ?_
  | with_reducible refine rb_exprS ?_
  | with_reducible refine rb_forS ?_
  | with_reducible refine rb_items ?_
  | with_reducible refine rb_itL ?_
  | with_reducible refine rb_itF ?_
  | with_reducible refine rb_itI ?_
  | with_reducible refine rb_itSs ?_
  | with_reducible refine rb_itT ?_
  | with_reducible refine rb_itS ?_
  | with_reducible refine rb_range1 ?_
  | with_reducible refine rb_range2 ?_
  | with_reducible refine rb_ntB ?_
  | with_reducible refine rb_anB ?_
  | with_reducible refine rb_orB ?_
  | with_reducible refine rb_anV ?_
  | with_reducible refine rb_orV ?_
  | with_reducible refine rb_ntV ?_
  | with_reducible refine rb_ofB ?_
  | with_reducible refine rb_chain ?_
  | with_reducible refine rb_chK ?_
  | with_reducible refine rb_bm ?_
  | with_reducible refine rb_bmK (by with_unfolding_all rfl) ?_
  | with_reducible refine rb_frz ?_
  | with_reducible refine rb_frzD ?_
  | with_reducible refine rb_compE ?_
  | with_reducible refine rb_wip (by dsimp only [wipeO, List.set] <;> exact rfl) ?_
  | with_reducible refine rb_fld ?_
  | with_reducible refine rb_meth ?_
  | with_reducible refine rb_tup ?_
  | with_reducible refine rb_trees ?_
  | with_reducible refine rb_treesK (by dsimp only [allD, Option.map] <;> exact rfl) ?_
  | with_reducible refine rb_tupK (by decide) ?_
  | with_reducible refine rl_mod (by decide) ?_
  | with_reducible refine rl_div (by decide) ?_
  | with_reducible refine rl_addI ?_
  | with_reducible refine rl_sub ?_
  | with_reducible refine rl_addL (by decide) ?_
  | with_reducible refine rl_neg ?_
  | with_reducible refine rl_mulI (Or.inr (by decide)) ?_
  | with_reducible refine rl_mulI (Or.inl (by decide)) ?_
  | with_reducible refine rl_append' (by with_unfolding_all rfl) (by dsimp only [List.set] <;> exact rfl) ?_ ?_
  | with_reducible refine rl_ixI (by first | omega | (decide +kernel)) ?_
  | with_reducible refine rl_ixI' ?_ ?_
  | with_reducible refine rl_ixSs (by first | omega | (decide +kernel)) ?_
  | with_reducible refine rl_ixSs' ?_ ?_
  | with_reducible refine rl_ixS' ?_ ?_
  | with_reducible refine rl_slI ?_
  | with_reducible refine rl_slL ?_
  | with_reducible refine rl_slF ?_
  | with_reducible refine rl_lenS (by first | omega | (decide +kernel)) ?_
  | with_reducible refine rl_lenS' ?_ ?_
  | with_reducible refine rl_addS (by first | omega | (decide +kernel)) ?_
  | with_reducible refine rl_addS' ?_ ?_
  | with_reducible refine rl_slS (by first | omega | (decide +kernel)) ?_
  | with_reducible refine rl_slS' ?_ ?_
  | with_reducible refine rl_addL' ?_ ?_
  | with_reducible refine rl_mulI (by first | omega | (decide +kernel)) ?_
  | with_reducible refine rl_mod (by first | omega | (decide +kernel)) ?_
  | with_reducible refine rl_div (by first | omega | (decide +kernel)) ?_
  | with_reducible refine rb_rg1 (by first | omega | (decide +kernel)) ?_
  | with_reducible refine rb_rg2 (by first | omega | (decide +kernel)) ?_
  | with_reducible refine rl_mulI' ?_ ?_
  | with_reducible refine rl_mod' ?_ ?_
  | with_reducible refine rl_div' ?_ ?_
  | with_reducible refine rl_mulS' ?_ ?_
  | with_reducible refine rb_gPe (by dsimp only [allD, Option.map] <;> exact rfl) rfl (by assumption) ?_
  | with_reducible refine rl_lt ?_
  | with_reducible refine rl_le ?_
  | with_reducible refine rl_gt ?_
  | with_reducible refine rl_ge ?_
  | with_reducible refine rl_eqI ?_
  | with_reducible refine rl_eqS ?_
  | with_reducible refine rl_neI ?_
  | with_reducible refine rl_neS ?_
  | with_reducible refine rl_isBl ?_
  | with_reducible refine rl_isnBl ?_
  | with_reducible refine rl_isN ?_
  | with_reducible refine rl_isnN ?_
  | with_reducible refine rl_ninC ?_
  | with_reducible refine rl_inC ?_
  | with_reducible refine rl_intB ?_
  | with_reducible refine rb_bnd ?_
  | with_reducible refine rl_isi (by with_unfolding_all rfl) ?_
  | with_reducible refine rl_clear (by with_unfolding_all rfl) (by dsimp only [List.set] <;> exact rfl) ?_
  | with_reducible refine rl_inT ?_
  | with_reducible refine rl_inL ?_
  | with_reducible refine rl_ninT ?_
  | with_reducible refine rl_ninL ?_
  | with_reducible refine rl_lenL ?_
  | with_reducible refine rl_lenF ?_
  | with_reducible refine rl_lenT ?_
  | with_reducible refine rl_newO (by dsimp only [List.length_cons, List.length_nil, Nat.reduceAdd] <;> exact rfl) (by dsimp only [List.cons_append, List.nil_append] <;> exact rfl) ?_
  | with_reducible refine lq_nx ?_
  | with_reducible refine lq_ret ?_
  | with_reducible refine lq_cnt ?_
  | with_reducible refine lq_brk ?_
  | with_reducible refine cq_no ?_
  | with_reducible refine cq_yes ?_
  | with_reducible refine rp_d ?_
  | with_reducible refine rp_nx ?_
  | with_reducible refine ev_ok ?_
  | with_reducible refine rb_iteP (by decide) ?_
  | with_reducible refine rb_iteN (by decide) ?_))
local macro_rules | `(tactic| walk_at "len") => `(tactic| first
  | omega
  | (decide +kernel)
  | grind [L2.cutS_length, Str.length_append, chr1_len])
theorem rl_joinE {β : Type} {env : List (Option W)} {st : Store} {Q : Out β → SS → Prop} {k : W → EM β} {zs : List Str} (hl : (zs.map fun x => x.length).sum ≤ 16777216) (h : Run (k (.d (.str (Txt.join "" zs)))) ⟨env, st⟩ Q) : Run (bnd (lft fun st => joinW st (.d (.str (Str.ofString ""))) [.d (strs' zs)]) k) ⟨env, st⟩ Q := by
  refine rb_lft ?_ h
  unfold joinW strs'
  simp only [snap_d, strsD_map]
  have e : (Str.ofString "").length = 0 := rfl
  rw [e, Nat.mul_zero, Nat.add_zero, if_pos hl]
theorem join_len0 (zs : List Str) : (Txt.join "" zs).length ≤ (zs.map fun x => x.length).sum := by
  have h := StrLaws.join_length_le (Str.ofString "") zs
  have e : (Str.ofString "").length = 0 := rfl
  rw [e, Nat.mul_zero, Nat.add_zero] at h
  have e2 : Txt.join "" zs = Str.join "" zs := StrLaws.glued_eq_join _ _
  rw [e2]
  exact h
theorem sum_one : ∀ {zs : List Str}, (∀ z ∈ zs, z.length = 1) → (zs.map fun x => x.length).sum = zs.length
  | [], _ => rfl
  | z :: zs, h => by
    have h1 := h z List.mem_cons_self
    have h2 := sum_one fun y hy => h y (List.mem_cons_of_mem _ hy)
    simp only [List.map_cons, List.sum_cons, h1, h2, List.length_cons]
    omega
abbrev nats (xs : List Int) : Prop := ∀ x ∈ xs, 0 ≤ x ∧ x < 429496730
def b_stream : EM Fl := (sq (asgS (.name 2) (lstE true anil)) (sq (asgS (.name 3) (op2 (intF modI) (var 0) (cst (.int 2147483647)))) (sq (forS (range1E (acons (var 1) anil)) (.name 4) (sq (asgS (.name 3) (op2 (intF modI) (op2 (addA false) (op2 (addA false) (op2 (mulA false) (var 3) (cst (.int 48271))) (op2 (mulA false) (op2 (mulA false) (cst (.int 7919)) (var 4)) (var 4))) (cst (.int 11))) (cst (.int 2147483647)))) (exprS (bmE "list" appendW (var 2) (acons (op2 (intF divI) (var 3) (cst (.int 5))) anil))))) (retS (var 2)))))
theorem stream_ok (c m : Int) (hm : 0 ≤ m ∧ m < 1000) : ∃ d, pureP (bodyF 5 b_stream) [.int c, .int m] = some (.ok d) ∧ ∃ xs : List Int, d = ints' xs ∧ xs.length = m.toNat ∧ nats xs := by
  refine fp_run [some (.d (.int c)), some (.d (.int m)), none, none, none] rfl ?_
  unfold b_stream
  walk_at "go"
  unfold rngL
  refine rb_loop (f := fun (i : Nat) => D.int (0 + (i : Int))) (fun l s => ∃ (n : Int) (z : Option W) (ws : List W) (xs : List Int), s = ⟨[some (.d (.int c)), some (.d (.int m)), some (.loc 0), some (.d (.int n)), z], [some (.lst ws)]⟩ ∧ ws = iw xs ∧
    0 ≤ n ∧ nats xs ∧ xs.length + l.length = m.toNat ∧ (∀ b ∈ l, b < 1000)) ?_ ?_ _ _ ⟨_, _, _, [], rfl, rfl, by omega, (fun _ h => nomatch h), by simp, (fun b h => by have := List.mem_range.mp h; omega)⟩
  · rintro a l s ⟨n, z, ws, xs, rfl, rfl, hn, hx, hl, hb⟩
    have hl : xs.length + (l.length + 1) = m.toNat := hl
    have ha := hb a List.mem_cons_self
    have hp : 0 ≤ 7919 * (0 + (a : Int)) * (0 + a) := Int.mul_nonneg (by omega) (by omega)
    walk_at "go"
    · refine ⟨_, _, _, _, rfl, iw_snoc, by omega, ?_, by simp; omega, fun b h => hb b (List.mem_cons_of_mem _ h)⟩
      intro x h
      rcases List.mem_append.mp h with h | h
      · exact hx x h
      · rw [List.mem_singleton.mp h]
        omega
    · rw [iw_len]; omega
  · rintro s ⟨n, z, ws, xs, rfl, rfl, hn, hx, hl, hb⟩
    walk_at "go"
    exact rp_lst rfl (allD_iw xs) ⟨xs, rfl, by simpa using hl, hx⟩
def figL : List Nat := (Str.ofString "0123456789").cps.toList
end EV
namespace EV
open PySem PySem.Spec PyProof.Rows L2
structure Mk0 (K : PySem.W.Frag) (C : Addr) : Prop where
  makes : PySem.W.makesIn K C = true
  init : PySem.W.findIn K (.ref C) "__init__" = some (some (.builtin "object.__init__"))
  kp : PySem.W.keepIn K (.ref C) = true
section
variable {X : Cx} {c : Kx} {U : WX} {j k : Nat} {f C : Addr} {x : Str} {p pos : Pos} {dvs : List V} {dws : List W} {np : Nat} {F : FF}
def F00 : FF := fun _ st => some (.ok (.d .non), st)
end
def NaL (c : Kx) (f : Str) : List (Nat × Addr) → Prop
  | [] => True
  | p :: r => (c.ct[p.1]? = some p.2 ∧ NoAttr c.K p.2 f) ∧ NaL c f r
theorem NaL.ok {c : Kx} {f : Str} : ∀ {ps : List (Nat × Addr)}, NaL c f ps → ∀ k C, (ps.map (·.1)).contains k = true → c.ct[k]? = some C → NoAttr c.K C f
  | [], _, k, C, h, _ => by simp at h
  | p :: r, ⟨⟨h1, h2⟩, t⟩, k, C, h, e => by
    by_cases q : k = p.1
    · subst q
      rw [h1] at e
      cases e
      exact h2
    · refine NaL.ok t k C ?_ e
      simp only [List.map_cons, List.contains_cons, Bool.or_eq_true, beq_iff_eq] at h
      exact h.resolve_left q
def MeL (c : Kx) (X : Cx) (mn : Str) : List (Nat × (List W → EM W)) → Prop
  | [] => True
  | p :: r => MethOk c X mn p.1 p.2 ∧ MeL c X mn r
theorem MeL.ok {c : Kx} {X : Cx} {mn : Str} : ∀ {tbl : List (Nat × (List W → EM W))}, MeL c X mn tbl → ∀ k g, tbl.lookup k = some g → MethOk c X mn k g
  | [], _, k, g, e => by cases e
  | (i, h) :: r, ⟨h1, t⟩, k, g, e => by
    unfold List.lookup at e
    by_cases q : k = i
    · subst q
      simp at e
      subst e
      exact h1
    · have : (k == i) = false := by simpa using q
      rw [this] at e
      exact MeL.ok t k g e
theorem MethOk.of {c : Kx} {X : Cx} {mn : Str} {k j : Nat} {C f : Addr} {sp : Sp} {dvs : List V} {dws : List W} {g0 : List W → EM W} (hC : c.ct[k]? = some C) (hm : Meth c.K C mn f) (F : FnS X.prog X.w X.K X.mg X.base j f sp dvs) (hr : Room j X.A) (hs : SpA c sp g0) (hd : DefOk c dws dvs) :
    MethOk c X mn k fun ws => g0 (ws ++ dws) := ⟨C, f, sp, dvs, dws, g0, j, hC, hm, F, hr, hs, hd, rfl⟩
def TyL (c : Kx) (u : Value) : List (Ty × Bool) → Prop
  | [] => True
  | p :: r => TyFact c u p.1 p.2 ∧ TyL c u r
theorem TyL.ok {c : Kx} {u : Value} : ∀ {q : List (Ty × Bool)}, TyL c u q → ∀ t b, q.lookup t = some b → TyFact c u t b
  | [], _, t, b, e => by cases e
  | (i, h) :: r, ⟨h1, z⟩, t, b, e => by
    unfold List.lookup at e
    by_cases q : t = i
    · subst q
      simp at e
      subst e
      exact h1
    · have : (t == i) = false := by simpa using q
      rw [this] at e
      exact TyL.ok z t b e
def spLawK (K : PySem.W.Frag) : Sp := fun vs H Q _ => ∃ a, ∃ ns : List Int, vs = [V.ref a] ∧ SqL K H a (ns.map V.int) ∧ ns.length ≤ 63 ∧ ∀ H', Q (V.bl true) H'
def setLW (st : Store) (o i y : W) : Option (Unit × Store) := match i with
  | .d (.int k) => match wrL st o fun ws => (ixN ws.length k).map fun j => (ws.set j y, .d .non) with
    | some (_, st') => some ((), st')
    | none => none
  | _ => none
def setL (mo mi me : EM W) : EM Fl := bnd me fun y => bnd mo fun o => bnd mi fun i => bnd (lft fun st => setLW st o i y) fun _ => pur .nx
section
variable {c : Kx} {X : Cx} {U : WX} {o i e : Expr} {mo mi me : EM W} {pos pos' : Pos}
theorem es_setL (he : EE c X U e me) (ho : EE c X U o mo) (hi : EE c X U i mi)
    (ha : ∀ v, assign (.Subscript o i pos') X.env v = (do
      let ov ← holding [v] (eval o X.env)
      let iv ← holding [v, ov] (eval i X.env)
      standAt pos'
      holding [v, ov, iv] (setItem ov iv v)
      release [v, ov, iv] []) := by intro _; rfl)
    (hs : swapsWithSole [.Subscript o i pos'] e pos.line X.env = pure false := by rfl) (hw : swappedStores [.Subscript o i pos'] e X.env = pure none := by rfl)
    (h1 : (assignEach [.Subscript o i pos'] X.env).map (·.2) = [assign (.Subscript o i pos') X.env] := by rfl) : ES c X U (.Assign [.Subscript o i pos'] e pos) (setL mo mi me) :=
  ⟨he.K, PS.imp (ps_asg he.pe (pg_sub ho.pe hi.pe set_list ha) hs hw h1) fun D σ H ⟨ρ, G, s, hR, w⟩ => ⟨ρ, G, s, hR, (Ws.bndE hR w).imp fun y ρ1 G1 H1 s1 ⟨S1, R1, w1⟩ v rv =>
    ⟨ρ1, G1, s1, R1, (Ws.bndE R1 w1).imp fun z ρ2 G2 H2 s2 ⟨S2, R2, w2⟩ vo ro => ⟨ρ2, G2, s2, R2, (Ws.bndE R2 w2).imp fun iw ρ3 G3 H3 s3 ⟨S3, R3, w3⟩ vi ri => by
      obtain ⟨_, st', e1, q⟩ := Wp.lft (Ws.bndE R3 w3)
      unfold setLW at e1
      split at e1
      · rename_i k _
        split at e1
        · rename_i w st2 e2
          cases e1
          obtain ⟨a, vs, ws, ws', rfl, hH, r1, hg, h4⟩ := wrL_ok R3.rs ((ro.mono S3.rho S3.same)) e2
          cases hj : ixN ws.length k with
          | none => rw [hj] at hg; cases hg
          | some j =>
            rw [hj] at hg
            cases hg
            cases ri
            obtain ⟨S4, r4⟩ := h4 (vs.set j v) (r1.set j ((rv.mono S2.rho S2.same).mono S3.rho S3.same))
            have q2 := q ρ3 G3 _ S4 ⟨r4, R3.env, R3.len⟩
            exact ⟨a, vs, k, j, rfl, rfl, hH, by rw [r1.len]; exact hj, Ws.pur (U := U) q2.2.1 q2.2.2⟩
        · cases e1
      · cases e1⟩⟩⟩⟩
end
section
variable {β : Type} {env : List (Option W)} {st : Store} {Q : Out β → SS → Prop}
theorem rb_setL {k : Fl → EM β} {mo mi me : EM W} {s : SS} (h : Run (bnd me fun y => bnd mo fun o => bnd mi fun i => bnd (lft fun st => setLW st o i y) fun _ => k .nx) s Q) : Run (bnd (setL mo mi me) k) s Q := by
  unfold setL
  rw [bnd_assoc]
  have e : (fun a => bnd (bnd mo fun o => bnd mi fun i => bnd (lft fun st => setLW st o i a) fun _ => pur Fl.nx) k) = fun y => bnd mo fun o => bnd mi fun i => bnd (lft fun st => setLW st o i y) fun _ => k .nx := by
    funext a
    rw [bnd_assoc]
    congr 1
    funext b
    rw [bnd_assoc]
    congr 1
    funext c
    rw [bnd_assoc]
    rfl
  rw [e]
  exact h
theorem rl_setL {k : Unit → EM β} {n : Nat} {ws : List W} {i : Int} {j : Nat} {y : W} {st' : Store} (e : st[n]? = some (some (.lst ws))) (hj : ixN ws.length i = some j) (e2 : st.set n (some (.lst (ws.set j y))) = st') (h : Run (k ()) ⟨env, st'⟩ Q) : Run (bnd (lft fun st => setLW st (.loc n) (.d (.int i)) y) k) ⟨env, st⟩ Q := by
  subst e2
  refine rb_lft (a := ()) ?_ h
  unfold setLW wrL
  simp only [e, hj, Option.map]
theorem rl_setL' {k : Unit → EM β} {n : Nat} {ws : List W} {i : Int} {y : W} {st' : Store} (e : st[n]? = some (some (.lst ws))) (e2 : st.set n (some (.lst (ws.set i.toNat y))) = st') (h : Run (k ()) ⟨env, st'⟩ Q) (hj : 0 ≤ i ∧ i < ws.length) : Run (bnd (lft fun st => setLW st (.loc n) (.d (.int i)) y) k) ⟨env, st⟩ Q :=
  rl_setL e (by unfold ixN; rw [if_pos hj.1, if_pos hj.2]) e2 h
end
def mkR (k np : Nat) (F : FF) (dws : List W) (ds : List D) : Option D := match (if (.loc 0 :: (ds.map .d ++ dws)).length = np then F (.loc 0 :: (ds.map .d ++ dws)) [some (.ins k [] [])] else none) with
  | some (.ok (.d .non), st) => match fz 20 (.loc 0) st with
    | some (d, _) => some d
    | none => none
  | _ => none
def mkK (k np : Nat) (F : FF) (dws : List W) (ds : List D) : EM W := match (if (.loc 0 :: (ds.map .d ++ dws)).length = np then F (.loc 0 :: (ds.map .d ++ dws)) [some (.ins k [] [])] else none) with
  | some (.ok (.d .non), st) => match fz 20 (.loc 0) st with
    | some (d, _) => pur (.d d)
    | none => non
  | some (.ex C ks es, _) => thr C ks es
  | _ => non
section
variable {β : Type} {env : List (Option W)} {st : Store} {s : SS} {Q : Out β → SS → Prop} {k : W → EM β}
theorem mkP_eq (i np : Nat) (F : FF) (dws : List W) (m : EM (List W)) : mkP i np F dws m = bnd (treesE m) (mkK i np F dws) := rfl
theorem rb_mkP {i np : Nat} {F : FF} {dws : List W} {m : EM (List W)} (h : Run (bnd (treesE m) fun ds => bnd (mkK i np F dws ds) k) s Q) : Run (bnd (mkP i np F dws m) k) s Q := by rw [mkP_eq]; exact rb_bnd h
theorem mkK_eq {i np : Nat} {F : FF} {dws : List W} {ds : List D} {d : D} (e : mkR i np F dws ds = some d) : mkK i np F dws ds = pur (.d d) := by
  unfold mkR at e
  unfold mkK
  generalize (if (W.loc 0 :: (ds.map .d ++ dws)).length = np then F (.loc 0 :: (ds.map .d ++ dws)) [some (.ins i [] [])] else none) = q at e
  cases q with
  | none => cases e
  | some p =>
    obtain ⟨o, st⟩ := p
    cases o with
    | ex _ _ _ => cases e
    | ok w =>
      cases w with
      | loc _ => cases e
      | d x =>
        cases x with
        | non =>
          simp only at e ⊢
          cases h2 : fz 20 (.loc 0) st with
          | none => rw [h2] at e; cases e
          | some y => rw [h2] at e; cases e; rfl
        | _ => cases e
theorem rb_mkK {i np : Nat} {F : FF} {dws : List W} {ds : List D} {d : D} (e : mkR i np F dws ds = some d) (h : Run (k (.d d)) s Q) : Run (bnd (mkK i np F dws ds) k) s Q := by rw [mkK_eq e]; exact h
end
def RetF (P : W → Store → Prop) : Out Fl → SS → Prop := fun o s => match o with
  | .ok .nx => P (.d .non) s.st
  | .ok (.ret w) => P w s.st
  | _ => False
section
variable {β : Type} {env : List (Option W)} {st : Store} {s : SS} {Q : Out β → SS → Prop} {k : W → EM β}
theorem rf_nx {P : W → Store → Prop} (h : P (.d .non) st) : Run (pur .nx) ⟨env, st⟩ (RetF P) := run_pur h
theorem rf_ret {P : W → Store → Prop} {w : W} (h : P w st) : Run (pur (.ret w)) ⟨env, st⟩ (RetF P) := run_pur h
end
def JoinQ (P : SS → Prop) : Out Fl → SS → Prop := fun o s => match o with
  | .ok .nx => P s
  | _ => False
section
variable {β : Type} {env : List (Option W)} {st : Store} {s : SS} {Q : Out β → SS → Prop}
theorem rb_join {k : Fl → EM β} {m : EM Fl} (P : SS → Prop) (h1 : Run (bnd m pur) s (JoinQ P)) (h2 : ∀ s', P s' → Run (k .nx) s' Q) : Run (bnd m k) s Q := by
  obtain ⟨o, s', e, h⟩ := run_bnd h1
  cases o with
  | ex _ _ _ => exact h.elim
  | ok f =>
    cases f with
    | nx => exact rb_eq e (h2 s' h)
    | ret _ => exact h.elim
    | brk => exact h.elim
    | cnt => exact h.elim
theorem jq_nx {P : SS → Prop} (h : P s) : Run (pur .nx) s (JoinQ P) := run_pur h
end
def ValQ {α : Type} (s0 : SS) (Y : α → Prop) : Out α → SS → Prop := fun o s => match o with
  | .ok a => s = s0 ∧ Y a
  | _ => False
theorem vq {α : Type} {a : α} {s : SS} {Y : α → Prop} (h : Y a) : Run (pur a) s (ValQ s Y) := run_pur ⟨rfl, h⟩
theorem rb_iteDT {α β : Type} {k : α → EM β} {s : SS} {Q : Out β → SS → Prop} {p : Prop} {inst : Decidable p} {m1 m2 : EM α} (e : p) (h : Run (bnd m1 k) s Q) : Run (bnd (ite2 (decide p) m1 m2) k) s Q := rb_iteP (decide_eq_true e) h
theorem rb_iteDnT {α β : Type} {k : α → EM β} {s : SS} {Q : Out β → SS → Prop} {p : Prop} {inst : Decidable p} {m1 m2 : EM α} (e : p) (h : Run (bnd m2 k) s Q) : Run (bnd (ite2 (!decide p) m1 m2) k) s Q := rb_iteN (by rw [decide_eq_true e]; rfl) h
end EV
namespace EV
open PySem L2
def okS (z : Str) : Prop := PyData.strOk z = true
instance {z : Str} : Decidable (okS z) := inferInstanceAs (Decidable (PyData.strOk z = true))
theorem okS_iff {z : Str} : okS z ↔ ∀ c ∈ z.cps.toList, c < 1114112 := by
  unfold okS PyData.strOk
  rw [← Array.all_toList, List.all_eq_true]
  simp
theorem okS_app {a b : Str} (ha : okS a) (hb : okS b) : okS (a ++ b) := by
  rw [okS_iff] at ha hb ⊢
  intro c hc
  have e : (a ++ b).cps.toList = a.cps.toList ++ b.cps.toList := by
    show (a.cps ++ b.cps).toList = _
    simp
  rw [e] at hc
  rcases List.mem_append.mp hc with h | h
  · exact ha c h
  · exact hb c h
theorem okS_cut {a : Str} {lo hi : Option Int} (ha : okS a) : okS (cutS a lo hi) := by
  rw [okS_iff] at ha ⊢
  intro c hc
  unfold cutS at hc
  simp only at hc
  exact ha c (List.mem_of_mem_drop (List.mem_of_mem_take hc))
theorem okS_chr {c : Nat} (h : c < 1114112) : okS (chr1 c) := by
  rw [okS_iff]
  intro d hd
  have : d = c := by simpa [chr1] using hd
  omega
theorem okS_num {i : Int} (h : 0 ≤ i) : okS (Str.ofString (toString i)) := by
  obtain ⟨n, rfl⟩ : ∃ n : Nat, i = n := ⟨i.toNat, by omega⟩
  rw [okS_iff]
  intro c hc
  have e : (Str.ofString (toString (n : Int))).cps.toList = TL.numL n := TL.tl_num n
  rw [e] at hc
  have := TL.numL_digits n c hc
  omega
def okN (n : Nat) (d : D) : Prop := (toPy d).canLay0 = true ∧ (toPy d).depth ≤ n
def okNs (n : Nat) (ds : List D) : Prop := PyData.canLayAll0 (toPys ds) = true ∧ PyData.depthAll (toPys ds) ≤ n
theorem okD_of {n : Nat} {d : D} (h : okN n d) (hn : n ≤ 64) : okD d = true := by
  unfold okD SeqAt.shaped
  rw [h.1]
  exact decide_eq_true (Nat.le_trans h.2 hn)
theorem okN_str {n : Nat} {z : Str} (h : okS z) : okN n (.str z) := ⟨h, by unfold toPy PyData.depth; exact Nat.zero_le _⟩
theorem okN_int {n : Nat} {i : Int} : okN n (.int i) := ⟨rfl, by unfold toPy PyData.depth; exact Nat.zero_le _⟩
theorem okN_bl {n : Nat} {i : Bool} : okN n (.bl i) := ⟨rfl, by unfold toPy PyData.depth; exact Nat.zero_le _⟩
theorem okNs_nil {n : Nat} : okNs n [] := ⟨rfl, Nat.zero_le _⟩
theorem okNs_cons {n : Nat} {d : D} {ds : List D} (h : okN n d) (t : okNs n ds) : okNs n (d :: ds) := ⟨by
  show (_ && _) = true
  rw [h.1, t.1]; rfl, by
  show max _ _ ≤ n
  exact Nat.max_le.mpr ⟨h.2, t.2⟩⟩
theorem okN_lst {n : Nat} {ds : List D} (h : okNs n ds) : okN (n + 1) (.lst ds) := ⟨h.1, by
  show PyData.depthAll _ + 1 ≤ _
  have := h.2
  omega⟩
theorem okN_tup {n : Nat} {ds : List D} (h : okNs n ds) : okN (n + 1) (.tup ds) := ⟨h.1, by
  show PyData.depthAll _ + 1 ≤ _
  have := h.2
  omega⟩
theorem okNs_all {n : Nat} : ∀ {ds : List D}, (∀ d ∈ ds, okN n d) → okNs n ds
  | [], _ => okNs_nil
  | d :: ds, h => okNs_cons (h d List.mem_cons_self) (okNs_all fun e he => h e (List.mem_cons_of_mem _ he))
theorem okN_strs {n : Nat} {zs : List Str} (h : ∀ z ∈ zs, okS z) : okN (n + 1) (strs' zs) := okN_lst (okNs_all fun d hd => by
  obtain ⟨z, hz, rfl⟩ := List.mem_map.mp hd
  exact okN_str (h z hz))
theorem eq_refl {n : Nat} {d : D} (h : okN n d) : D.eq d d = true := SeqAt.eqv_refl _ h.1
section
variable {β : Type} {env : List (Option W)} {st : Store} {Q : Out β → SS → Prop} {k : W → EM β}
theorem snap_lst {n : Nat} {ws : List W} {ds : List D} (e : st[n]? = some (some (.lst ws))) (e2 : allD ws = some ds) : snapD st (.loc n) = some (.lst ds) := by
  unfold snapD
  rw [fz_lst e e2]
theorem eqB_same {n : Nat} {x y : W} {d : D} (hx : snapD st x = some d) (hy : snapD st y = some d) (h : okN n d) (hn : n ≤ 64) : eqB st x y = some true := by
  unfold eqB
  split
  · rw [snap_d] at hx hy
    cases hx
    have := Option.some.inj hy
    cases this
    exact congrArg some (decide_eq_true rfl)
  · rw [snap_d] at hx hy
    cases hx
    have := Option.some.inj hy
    cases this
    exact congrArg some (decide_eq_true rfl)
  · simp only [hx, hy, okD_of h hn, Bool.and_self, if_true, eq_refl h]
theorem rl_neO {n m : Nat} {ws : List W} {ds : List D} (e : st[m]? = some (some (.lst ws))) (e2 : allD ws = some ds) (h : okN n (.lst ds)) (hn : n ≤ 64) (q : Run (k (.d (.bl false))) ⟨env, st⟩ Q) : Run (bnd (lft fun st => neA st (.loc m) (.d (.lst ds))) k) ⟨env, st⟩ Q :=
  rl_neB (eqB_same (snap_lst e e2) (snap_d _ _) h hn) q
theorem rl_neL {n : Nat} {d : D} (h : okN n d) (hn : n ≤ 64) (q : Run (k (.d (.bl false))) ⟨env, st⟩ Q) : Run (bnd (lft fun st => neA st (.d d) (.d d)) k) ⟨env, st⟩ Q :=
  rl_neB (eqB_same (snap_d _ _) (snap_d _ _) h hn) q
end
def dO (x : Option D) : Option W := x.map W.d
theorem rb_frzO {β : Type} {env env' : List (Option W)} {st st' : Store} {Q : Out β → SS → Prop} {k : W → EM β} {n : Nat} {ws : List W} {ds : List D} (e : st[n]? = some (some (.lst ws))) (e2 : allD ws = some ds) (e3 : env.map (rpl n (.lst ds)) = env') (e4 : st.set n none = st')
    (h : Run (k (.d (.lst ds))) ⟨env', st'⟩ Q) : Run (bnd (frzK (.loc n)) k) ⟨env, st⟩ Q := by
  subst e4
  exact rb_frzL (fz_lst e e2) e3 h
theorem lt_len {n : Nat} (h : Nat.ble (n + 1) 16777216 = true) : n < 16777216 := Nat.le_of_ble_eq_true h
section
variable {β : Type} {env : List (Option W)} {st : Store} {s : SS} {Q : Out β → SS → Prop} {k : W → EM β}
theorem rl_find {a b : Str} (h : Run (k (.d (.int (Txt.find a b)))) ⟨env, st⟩ Q) : Run (bnd (lft fun st => findW st (.d (.str a)) [.d (.str b)]) k) ⟨env, st⟩ Q := rb_lft rfl h
theorem rl_ixZ {z : Str} {i : Int} (hi : (0 ≤ i ∧ i < z.length) ∧ z.length ≤ 16777216) (h : Run (k (.d (.str (chr1 (z.cps.toList.getD i.toNat 0))))) ⟨env, st⟩ Q) : Run (bnd (lft fun st => ixA st (.d (.str z)) (.d (.int i))) k) ⟨env, st⟩ Q := rl_ixS hi.1 hi.2 h
theorem rl_ixZ' {z : Str} {i : Int} (h : Run (k (.d (.str (chr1 (z.cps.toList.getD i.toNat 0))))) ⟨env, st⟩ Q) (hi : (0 ≤ i ∧ i < z.length) ∧ z.length ≤ 16777216) : Run (bnd (lft fun st => ixA st (.d (.str z)) (.d (.int i))) k) ⟨env, st⟩ Q := rl_ixS hi.1 hi.2 h
end
theorem rl_neBl {β : Type} {env : List (Option W)} {st : Store} {Q : Out β → SS → Prop} {k : W → EM β} {a b : Bool} (h : Run (k (.d (.bl (!decide (a = b))))) ⟨env, st⟩ Q) : Run (bnd (lft fun st => neA st (.d (.bl a)) (.d (.bl b))) k) ⟨env, st⟩ Q :=
  rl_neB (b := decide (a = b)) (by cases a <;> cases b <;> rfl) h
theorem rl_eqBl {β : Type} {env : List (Option W)} {st : Store} {Q : Out β → SS → Prop} {k : W → EM β} {a b : Bool} (h : Run (k (.d (.bl (decide (a = b))))) ⟨env, st⟩ Q) : Run (bnd (lft fun st => eqA st (.d (.bl a)) (.d (.bl b))) k) ⟨env, st⟩ Q :=
  rl_eqB (b := decide (a = b)) (by cases a <;> cases b <;> rfl) h
end EV
namespace L2
open PySem PySem.Spec PyProof.Rows
section
variable {X : Cx}
def rEqDR : R2 := fun x y H Q => ∃ a b ks ls, x = .ref a ∧ y = .ref b ∧ Rd H a (.dK ks) ∧ Rd H b (.dK ls) ∧ ks.length = ls.length ∧ (∀ p ∈ ks, valV ls p.1 = some p.2 ∧ flatB p.2 = true) ∧ Q (.bl true) H
def rNeDR : R2 := fun x y H Q => ∃ a b ks ls, x = .ref a ∧ y = .ref b ∧ Rd H a (.dK ks) ∧ Rd H b (.dK ls) ∧ ks.length = ls.length ∧ (∀ p ∈ ks, valV ls p.1 = some p.2 ∧ flatB p.2 = true) ∧ Q (.bl false) H
end
end L2
namespace EV
open PySem PySem.Spec PyProof.Rows L2
def kyW : W → Option Key
  | .d (.int i) => some (.inl i)
  | .d (.str z) => some (.inr z)
  | _ => none
def kyD : Key → D
  | .inl i => .int i
  | .inr z => .str z
def dctW (st : Store) : W → Option (List Key × List W)
  | .d (.dct ks ds) => some (ks, ds.map .d)
  | .d _ => none
  | .loc n => match st[n]? with
    | some (some (.dct ks ws)) => some (ks, ws)
    | _ => none
def valW : List Key → List W → Key → Option W
  | k0 :: ks, w :: ws, k => if k0 = k then some w else valW ks ws k
  | _, _, _ => none
def putG {α : Type} (kvs : List (Key × α)) (k : Key) (v : α) : List (Key × α) := if (kvs.any fun kv => decide (kv.1 = k)) = true then kvs.map (fun kv => if kv.1 = k then (kv.1, v) else kv) else kvs ++ [(k, v)]
section
variable {c : Kx} {ρ : Rho} {G H : Hp} {st : Store}
theorem kyW_ok {w : W} {v : V} {k : Key} (r : RepW c ρ G w v) (e : kyW w = some k) : v = kV k := by
  cases w with
  | loc _ => cases e
  | d x =>
    cases x with
    | int i => cases e; cases r; rfl
    | str i => cases e; cases r; rfl
    | _ => cases e
theorem valW_ok {k : Key} : ∀ {ks : List Key} {ws : List W} {vs : List V}, ks.length = ws.length → RepWs c ρ G ws vs → match valW ks ws k with
    | some w => ∃ v, valV (ks.zip vs) k = some v ∧ RepW c ρ G w v
    | none => valV (ks.zip vs) k = none
  | [], [], _, _, _ => rfl
  | k0 :: ks, w :: ws, _, hl, ⟨v, vs, q, h, t⟩ => by
    subst q
    unfold valW
    by_cases z : k0 = k
    · rw [if_pos z]
      exact ⟨v, valV_pos (p := (k0, v)) z, h⟩
    · rw [if_neg z]
      have ih := valW_ok (k := k) (Nat.succ.inj hl) t
      show match valW ks ws k with | some w => ∃ v', valV ((k0, v) :: ks.zip vs) k = some v' ∧ _ | none => valV ((k0, v) :: ks.zip vs) k = none
      rw [valV_neg (p := (k0, v)) z]
      exact ih
  | [], _ :: _, _, hl, _ => by cases hl
  | _ :: _, [], _, hl, _ => by cases hl
theorem any_zip {α β : Type} {k : Key} : ∀ {ks : List Key} {ws : List α} {vs : List β}, ks.length = ws.length → ks.length = vs.length → ((ks.zip ws).any fun kv => decide (kv.1 = k)) = (ks.zip vs).any fun kv => decide (kv.1 = k)
  | [], _, _, _, _ => rfl
  | k0 :: ks, w :: ws, v :: vs, h1, h2 => by
    simp only [List.zip_cons_cons, List.any_cons]
    rw [any_zip (Nat.succ.inj h1) (Nat.succ.inj h2)]
  | _ :: _, [], _, h, _ => by cases h
  | _ :: _, _ :: _, [], _, h => by cases h
def putW (ks : List Key) (ws : List W) (k : Key) (y : W) : List Key × List W := ((putG (ks.zip ws) k y).map (·.1), (putG (ks.zip ws) k y).map (·.2))
theorem map_keys {α : Type} {k : Key} {y : α} : ∀ {ks : List Key} {ws : List α}, ks.length = ws.length → ((ks.zip ws).map fun kv => if kv.1 = k then (kv.1, y) else kv).map (·.1) = ks
  | [], _, _ => rfl
  | k0 :: ks, w :: ws, h => by
    simp only [List.zip_cons_cons, List.map_cons]
    rw [map_keys (Nat.succ.inj h)]
    split <;> rfl
  | _ :: _, [], h => by cases h
theorem map_reps {k : Key} {y : W} {u : V} (hy : RepW c ρ G y u) : ∀ {ks : List Key} {ws : List W} {vs : List V}, ks.length = ws.length → RepWs c ρ G ws vs →
    RepWs c ρ G (((ks.zip ws).map fun kv => if kv.1 = k then (kv.1, y) else kv).map (·.2)) (((ks.zip vs).map fun kv => if kv.1 = k then (kv.1, u) else kv).map (·.2))
  | [], [], _, _, h => rfl
  | k0 :: ks, w :: ws, _, hl, ⟨v, vs, q, h, t⟩ => by
    subst q
    refine ⟨_, _, rfl, ?_, map_reps hy (Nat.succ.inj hl) t⟩
    show RepW c ρ G (if k0 = k then (k0, y) else (k0, w)).2 (if k0 = k then (k0, u) else (k0, v)).2
    split
    · exact hy
    · exact h
  | [], _ :: _, _, hl, _ => by cases hl
  | _ :: _, [], _, hl, _ => by cases hl
theorem zip_unzip {α : Type} : ∀ (l : List (Key × α)), (l.map (·.1)).zip (l.map (·.2)) = l
  | [] => rfl
  | p :: l => by
    simp only [List.map_cons, List.zip_cons_cons]
    rw [zip_unzip l]
theorem putW_ok {ks : List Key} {ws : List W} {vs : List V} {k : Key} {y : W} {u : V} (hl : ks.length = ws.length) (r : RepWs c ρ G ws vs) (hy : RepW c ρ G y u) :
    ∃ vs', putK (ks.zip vs) k u = (putW ks ws k y).1.zip vs' ∧ (putW ks ws k y).1.length = (putW ks ws k y).2.length ∧ RepWs c ρ G (putW ks ws k y).2 vs' := by
  have hl2 : ks.length = vs.length := by rw [r.len]; exact hl
  have ha := any_zip (k := k) hl hl2
  refine ⟨(putK (ks.zip vs) k u).map (·.2), ?_, by unfold putW; simp, ?_⟩
  · have e : (putW ks ws k y).1 = (putK (ks.zip vs) k u).map (·.1) := by
      unfold putW putG putK
      rw [ha]
      by_cases z : ((ks.zip vs).any fun kv => decide (kv.1 = k)) = true
      · rw [if_pos z, if_pos z]
        show List.map _ (List.map _ _) = List.map _ (List.map _ _)
        rw [map_keys hl, map_keys hl2]
      · rw [if_neg z, if_neg z]
        simp only [List.map_append, List.map_cons, List.map_nil]
        rw [List.map_fst_zip (by omega), List.map_fst_zip (by omega)]
    rw [e, zip_unzip]
  · unfold putW putG putK
    rw [ha]
    by_cases z : ((ks.zip vs).any fun kv => decide (kv.1 = k)) = true
    · rw [if_pos z, if_pos z]
      exact map_reps hy hl r
    · rw [if_neg z, if_neg z]
      simp only [List.map_append, List.map_cons, List.map_nil]
      rw [List.map_snd_zip (by omega), List.map_snd_zip (by omega)]
      exact r.app ⟨u, [], rfl, hy, rfl⟩
end
def rDG : R2 := fun x y H Q => ∃ a v, x = .ref a ∧ DGet H a y (some v) ∧ Q v H
def ixD (st : Store) (x y : W) : Option (W × Store) := match dctW st x with
  | some (ks, ws) => match kyW y with
    | some k => match valW ks ws k with
      | some w => some (w, st)
      | none => none
    | none => none
  | none => ixA st x y
section
variable {c : Kx} {X : Cx} {U : WX} {a b o i value : Expr} {ma mb mo mi me : EM W} {pos pos' : Pos}
def rSetD : V → V → V → Hp → (Hp → Prop) → Prop := fun o i v H Q => ∃ a H', o = .ref a ∧ DPut H a i v H' ∧ Q H'
theorem PSet.or {r r' : V → V → V → Hp → (Hp → Prop) → Prop} (h : PSet X r) (h' : PSet X r') : PSet X (fun o i v H Q => r o i v H Q ∨ r' o i v H Q) := by
  intro pins s σ H o i v ov iv u Q I ro ri rv q
  rcases q with q | q
  · exact h pins s σ H o i v ov iv u Q I ro ri rv q
  · exact h' pins s σ H o i v ov iv u Q I ro ri rv q
def putDW (st : Store) (o i y : W) : Option (Unit × Store) := match o with
  | .loc n => match st[n]? with
    | some (some (.dct ks ws)) => match kyW i with
      | some k => if ks.length < 16777216 then some ((), st.set n (some (.dct (putW ks ws k y).1 (putW ks ws k y).2))) else none
      | none => none
    | some (some (.lst _)) => setLW st o i y
    | _ => none
  | _ => none
def setX (mo mi me : EM W) : EM Fl := bnd me fun y => bnd mo fun o => bnd mi fun i => bnd (lft fun st => putDW st o i y) fun _ => pur .nx
end
def newK (own : Bool) (ks : List Key) (ws : List W) (st : Store) : Option (W × Store) := if ks.length = ws.length then (if own then some (.loc st.length, st ++ [some (.dct ks ws)]) else match allD ws with
  | some ds => some (.d (.dct ks ds), st)
  | none => none) else none
section
variable {c : Kx} {ρ : Rho} {G H : Hp} {st : Store}
end
section
variable {c : Kx} {X : Cx} {U : WX} {a b o i value : Expr} {ma mb mo mi me : EM W} {pos pos' : Pos}
def dictC (own : Bool) (st : Store) : List W → Option (W × Store)
  | [w] => match dctW st w with
    | some (ks, ws) => newK own ks ws st
    | none => none
  | _ => none
def dclearW (st : Store) (o : W) : List W → Option (W × Store)
  | [] => match o with
    | .loc n => match st[n]? with
      | some (some (.dct _ _)) => some (.d .non, st.set n (some (.dct [] [])))
      | _ => none
    | _ => none
  | _ => none
def inD (st : Store) (x y : W) : Option (W × Store) := match dctW st y with
  | some (ks, ws) => match kyW x with
    | some k => some (.d (.bl (valW ks ws k).isSome), st)
    | none => none
  | none => inA st x y
def ninD (st : Store) (x y : W) : Option (W × Store) := match dctW st y with
  | some (ks, ws) => match kyW x with
    | some k => some (.d (.bl (!(valW ks ws k).isSome)), st)
    | none => none
  | none => ninA st x y
def rDIn : R2 := fun y x H Q => ∃ a o, x = .ref a ∧ DGet H a y o ∧ Q (.bl o.isSome) H
def rDNin : R2 := fun y x H Q => ∃ a o, x = .ref a ∧ DGet H a y o ∧ Q (.bl (!o.isSome)) H
end
def dgetW (ks : List Key) (ws : List W) (k : Key) (x : W) : W := (valW ks ws k).getD x
def lookE (o k x : W) : EM W := lft fun st => match dctW st o, kyW k with
  | some (ks, ws), some k => some (dgetW ks ws k x, st)
  | _, _ => none
def isDE (o : W) : EM Unit := lft fun st => match dctW st o with
  | some _ => some ((), st)
  | none => none
def get1E (mo mk : EM W) : EM W := bnd mo fun o => bnd (isDE o) fun _ => bnd mk fun k => lookE o k (.d .non)
def get2E (mo mk mx : EM W) : EM W := bnd mo fun o => bnd (isDE o) fun _ => bnd mk fun k => bnd mx fun x => lookE o k x
section
variable {c : Kx} {X : Cx} {U : WX} {o e f : Expr} {mo mk mx : EM W} {apos cpos : Pos}
end
def eqK (ks : List Key) (ws : List W) (ls : List Key) (us : List W) : Bool := decide (ks.length = ls.length) && (ks.zip ws).all fun p => (kyW p.2).isSome && decide ((valW ls us p.1).bind kyW = kyW p.2)
def eqX (st : Store) (x y : W) : Option (W × Store) := match dctW st x, dctW st y with
  | some (ks, ws), some (ls, us) => if eqK ks ws ls us then some (.d (.bl true), st) else none
  | _, _ => eqA st x y
def neX (st : Store) (x y : W) : Option (W × Store) := match dctW st x, dctW st y with
  | some (ks, ws), some (ls, us) => if eqK ks ws ls us then some (.d (.bl false), st) else none
  | _, _ => neA st x y
section
variable {c : Kx} {ρ : Rho} {G H : Hp} {st : Store}
theorem zip_at {k : Key} {v : V} : ∀ {ks : List Key} {ws : List W} {vs : List V}, ks.length = ws.length → RepWs c ρ G ws vs → (k, v) ∈ ks.zip vs → ∃ w, (k, w) ∈ ks.zip ws ∧ RepW c ρ G w v
  | [], _, _, _, _, h => by simp at h
  | k0 :: ks, w :: ws, _, hl, ⟨v0, vs, q, h0, t⟩, h => by
    subst q
    simp only [List.zip_cons_cons, List.mem_cons] at h
    rcases h with h | h
    · cases h
      exact ⟨w, by simp, h0⟩
    · obtain ⟨w', h1, h2⟩ := zip_at (Nat.succ.inj hl) t h
      exact ⟨w', by simp [h1], h2⟩
  | _ :: _, [], _, hl, _, _ => by cases hl
end
section
variable {c : Kx} {X : Cx}
end
end EV
namespace EV
open PySem L2
section
variable {β : Type} {env : List (Option W)} {st st' : Store} {s : SS} {Q : Out β → SS → Prop} {k : W → EM β}
theorem rb_setX {k : Fl → EM β} {mo mi me : EM W} (h : Run (bnd me fun y => bnd mo fun o => bnd mi fun i => bnd (lft fun st => putDW st o i y) fun _ => k .nx) s Q) : Run (bnd (setX mo mi me) k) s Q := by
  unfold setX
  rw [bnd_assoc]
  have e : (fun a => bnd (bnd mo fun o => bnd mi fun i => bnd (lft fun st => putDW st o i a) fun _ => pur Fl.nx) k) = fun y => bnd mo fun o => bnd mi fun i => bnd (lft fun st => putDW st o i y) fun _ => k .nx := by
    funext a
    rw [bnd_assoc]
    congr 1
    funext b
    rw [bnd_assoc]
    congr 1
    funext c
    rw [bnd_assoc]
    rfl
  rw [e]
  exact h
theorem rl_newKO {n : Nat} (e : st.length = n) (e2 : st ++ [some (.dct [] [])] = st') (h : Run (k (.loc n)) ⟨env, st'⟩ Q) : Run (bnd (lft (newK true [] [])) k) ⟨env, st⟩ Q := by
  subst e e2
  exact rb_lft rfl h
theorem rl_newKF (h : Run (k (.d (.dct [] []))) ⟨env, st⟩ Q) : Run (bnd (lft (newK false [] [])) k) ⟨env, st⟩ Q := rb_lft rfl h
theorem rl_dclear {n : Nat} {ks : List Key} {ws : List W} (e : st[n]? = some (some (.dct ks ws))) (e2 : st.set n (some (.dct [] [])) = st') (h : Run (k (.d .non)) ⟨env, st'⟩ Q) : Run (bnd (lft fun st => dclearW st (.loc n) []) k) ⟨env, st⟩ Q := by
  subst e2
  refine rb_lft ?_ h
  unfold dclearW
  simp only [e]
theorem rb_get1 {mo mk : EM W} (h : Run (bnd mo fun o => bnd (isDE o) fun _ => bnd mk fun x => bnd (lookE o x (.d .non)) k) s Q) : Run (bnd (get1E mo mk) k) s Q := by
  unfold get1E
  rw [bnd_assoc]
  have e : (fun o => bnd (bnd (isDE o) fun _ => bnd mk fun x => lookE o x (.d .non)) k) = fun o => bnd (isDE o) fun _ => bnd mk fun x => bnd (lookE o x (.d .non)) k := by
    funext o
    rw [bnd_assoc]
    congr 1
    funext _
    rw [bnd_assoc]
  rw [e]
  exact h
theorem rb_get2 {mo mk mx : EM W} (h : Run (bnd mo fun o => bnd (isDE o) fun _ => bnd mk fun x => bnd mx fun y => bnd (lookE o x y) k) s Q) : Run (bnd (get2E mo mk mx) k) s Q := by
  unfold get2E
  rw [bnd_assoc]
  have e : (fun o => bnd (bnd (isDE o) fun _ => bnd mk fun x => bnd mx fun y => lookE o x y) k) = fun o => bnd (isDE o) fun _ => bnd mk fun x => bnd mx fun y => bnd (lookE o x y) k := by
    funext o
    rw [bnd_assoc]
    congr 1
    funext _
    rw [bnd_assoc]
    congr 1
    funext _
    rw [bnd_assoc]
  rw [e]
  exact h
theorem rb_isD {k : Unit → EM β} {w : W} {p : List Key × List W} (e : dctW st w = some p) (h : Run (k ()) ⟨env, st⟩ Q) : Run (bnd (isDE w) k) ⟨env, st⟩ Q := rb_lft (a := ()) (by simp only [e]) h
theorem rb_look {w x y : W} {ks : List Key} {ws : List W} {q : Key} (e : dctW st w = some (ks, ws)) (ek : kyW x = some q) (h : Run (k (dgetW ks ws q y)) ⟨env, st⟩ Q) : Run (bnd (lookE w x y) k) ⟨env, st⟩ Q := rb_lft (by simp only [e, ek]) h
end
theorem val_none {q : Key} : ∀ {ks : List Key} {ws : List W}, ¬ q ∈ ks → valW ks ws q = none
  | [], _, _ => rfl
  | _ :: _, [], _ => rfl
  | k :: ks, w :: ws, h => by
    unfold valW
    rw [if_neg fun e => h (by rw [e]; exact List.mem_cons_self)]
    exact val_none fun e => h (List.mem_cons_of_mem _ e)
theorem val_mem {q : Key} {w : W} : ∀ {ks : List Key} {ws : List W}, valW ks ws q = some w → w ∈ ws
  | [], _, h => by cases h
  | _ :: _, [], h => by cases h
  | k :: ks, x :: ws, h => by
    unfold valW at h
    split at h
    · cases h; exact List.mem_cons_self
    · exact List.mem_cons_of_mem _ (val_mem h)
theorem val_some {q : Key} : ∀ {ks : List Key} {ws : List W}, ks.length = ws.length → q ∈ ks → ∃ w, valW ks ws q = some w
  | [], _, _, h => by cases h
  | _ :: _, [], h, _ => by cases h
  | k :: ks, x :: ws, hl, h => by
    unfold valW
    by_cases e : k = q
    · exact ⟨x, if_pos e⟩
    · rw [if_neg e]
      rcases List.mem_cons.mp h with h | h
      · exact absurd h.symm e
      · exact val_some (Nat.succ.inj hl) h
theorem val_zip {q : Key} {w : W} : ∀ {ks : List Key} {ws : List W}, ks.Nodup → (q, w) ∈ ks.zip ws → valW ks ws q = some w
  | [], _, _, h => by simp at h
  | _ :: _, [], _, h => by simp at h
  | k :: ks, x :: ws, hn, h => by
    obtain ⟨h1, h2⟩ := List.nodup_cons.mp hn
    unfold valW
    rw [List.zip_cons_cons] at h
    rcases List.mem_cons.mp h with h | h
    · cases h
      exact if_pos rfl
    · rw [if_neg fun e => h1 (by rw [e]; exact (List.of_mem_zip h).1)]
      exact val_zip h2 h
theorem sw_of {P : Str → Prop} : ∀ {ws : List W}, (∀ w ∈ ws, ∃ z, w = .d (.str z) ∧ P z) → ∃ zs, ws = sw zs ∧ ∀ z ∈ zs, P z
  | [], _ => ⟨[], rfl, fun _ h => nomatch h⟩
  | w :: ws, h => by
    obtain ⟨z, rfl, hz⟩ := h w List.mem_cons_self
    obtain ⟨zs, rfl, hs⟩ := sw_of fun x hx => h x (List.mem_cons_of_mem _ hx)
    exact ⟨z :: zs, rfl, fun x hx => (List.mem_cons.mp hx).elim (fun e => by rw [e]; exact hz) (hs x)⟩
def ren (ks : List Key) (zs : List Str) (x : Str) : Str := match valW ks (sw zs) (.inr x) with
  | some (.d (.str y)) => y
  | _ => x
theorem ren_get {ks : List Key} {zs : List Str} {x : Str} : dgetW ks (sw zs) (.inr x) (.d (.str x)) = .d (.str (ren ks zs x)) ∧ (ren ks zs x = x ∨ ren ks zs x ∈ zs) := by
  unfold dgetW ren
  cases e : valW ks (sw zs) (.inr x) with
  | none => exact ⟨rfl, .inl rfl⟩
  | some w =>
    obtain ⟨z, hz, rfl⟩ := List.mem_map.mp (val_mem e)
    exact ⟨rfl, .inr hz⟩
theorem rb_ren {β : Type} {env : List (Option W)} {st : Store} {Q : Out β → SS → Prop} {k : W → EM β} {w : W} {x : Str} {ks : List Key} {zs : List Str} (e : dctW st w = some (ks, sw zs)) (h : Run (k (.d (.str (ren ks zs x)))) ⟨env, st⟩ Q) : Run (bnd (lookE w (.d (.str x)) (.d (.str x))) k) ⟨env, st⟩ Q := by
  refine rb_look e rfl ?_
  rw [ren_get.1]
  exact h
theorem dct_sw {st : Store} {ks : List Key} {zs : List Str} : dctW st (.d (.dct ks (zs.map .str))) = some (ks, sw zs) := by
  show some (ks, (zs.map D.str).map W.d) = _
  rw [List.map_map]
  rfl
end EV
namespace EV
open PySem L2
def rowJ (ws : List Str) : Str := Txt.join (Str.ofString " ") ws
def okW (ws : List Str) : Prop := ws ≠ [] ∧ ws.length ≤ 100 ∧ ∀ w ∈ ws, w.length ≤ 100 ∧ ¬ 32 ∈ w.cps.toList
theorem split_row {ws : List Str} (h : okW ws) : Txt.split (rowJ ws) (Str.ofString " ") = ws :=
  TL.split_join (s := 32) (S := []) (by decide +kernel) (by decide +kernel) h.1 fun p hp => (h.2.2 p hp).2
theorem sum_le {ws : List Str} {n : Nat} (h : ∀ w ∈ ws, w.length ≤ n) : (ws.map fun x => x.length).sum ≤ ws.length * n := by
  induction ws with
  | nil => simp
  | cons w ws ih =>
    have h1 := h w List.mem_cons_self
    have h2 := ih fun x hx => h x (List.mem_cons_of_mem _ hx)
    simp only [List.map_cons, List.sum_cons, List.length_cons]
    rw [Nat.add_mul]
    omega
theorem okW_sum {ws : List Str} (h : okW ws) : (ws.map fun x => x.length).sum ≤ 10000 := by
  have h1 := sum_le (n := 100) fun w hw => (h.2.2 w hw).1
  have := h.2.1
  omega
theorem rowJ_len {ws : List Str} (h : okW ws) : (rowJ ws).length ≤ 10100 := by
  have h1 := StrLaws.join_length_le (Str.ofString " ") ws
  have e : (Str.ofString " ").length = 1 := rfl
  rw [e, Nat.mul_one] at h1
  have e2 : rowJ ws = Str.join (Str.ofString " ") ws := StrLaws.glued_eq_join _ _
  rw [e2]
  have := okW_sum h
  have := h.2.1
  omega
section
variable {β : Type} {env : List (Option W)} {st st' : Store} {s : SS} {Q : Out β → SS → Prop} {k : W → EM β}
theorem rl_splitR {ws : List Str} (h : okW ws) (q : Run (k (.d (strs' ws))) ⟨env, st⟩ Q) : Run (bnd (lft fun st => splitW false st (.d (.str (rowJ ws))) [.d (.str (Str.ofString " "))]) k) ⟨env, st⟩ Q := by
  refine rb_lft ?_ q
  have hl := rowJ_len h
  have e : (Str.ofString " ").length = 1 := rfl
  unfold splitW
  simp only [e]
  rw [if_pos ⟨by decide, by omega⟩, split_row h]
  unfold newL strs'
  simp only [Bool.false_eq_true, if_false]
  have := allD_sw ws
  unfold sw at this
  rw [this]
theorem rl_lenSs {zs : List Str} (h : Run (k (.d (.int zs.length))) ⟨env, st⟩ Q) : Run (bnd (lft fun st => lenW st [.d (strs' zs)]) k) ⟨env, st⟩ Q := rl_lenL (by rw [List.length_map]; exact h)
theorem rl_ixSk {zs : List Str} {i : Int} {z : Str} (e : atI zs i = some z) (h : Run (k (.d (.str z))) ⟨env, st⟩ Q) : Run (bnd (lft fun st => ixA st (.d (strs' zs)) (.d (.int i))) k) ⟨env, st⟩ Q := rl_ixL (by rw [atI_map, e]; rfl) h
theorem rl_ixC0 {a : Str} {r : List Str} (h : Run (k (.d (.str a))) ⟨env, st⟩ Q) : Run (bnd (lft fun st => ixA st (.d (strs' (a :: r))) (.d (.int 0))) k) ⟨env, st⟩ Q := rl_ixSs ⟨by decide, by simp⟩ h
theorem rl_ixC1 {a b : Str} {r : List Str} (h : Run (k (.d (.str b))) ⟨env, st⟩ Q) : Run (bnd (lft fun st => ixA st (.d (strs' (a :: b :: r))) (.d (.int 1))) k) ⟨env, st⟩ Q := rl_ixSs ⟨by decide, by simp; omega⟩ h
theorem rl_ixC2 {a b c : Str} {r : List Str} (h : Run (k (.d (.str c))) ⟨env, st⟩ Q) : Run (bnd (lft fun st => ixA st (.d (strs' (a :: b :: c :: r))) (.d (.int 2))) k) ⟨env, st⟩ Q := rl_ixSs ⟨by decide, by simp; omega⟩ h
theorem rl_slSs {zs : List Str} {lo hi : Option Int} (h : Run (k (.d (strs' (cutW zs lo hi)))) ⟨env, st⟩ Q) : Run (bnd (lft fun st => sliceA false st (.d (strs' zs)) lo hi) k) ⟨env, st⟩ Q := rl_slL (by rw [cutW_map]; exact h)
theorem rl_listF {ds : List D} (h : Run (k (.d (.lst ds))) ⟨env, st⟩ Q) : Run (bnd (lft fun st => listC false st [.d (.lst ds)]) k) ⟨env, st⟩ Q := by
  refine rb_lft ?_ h
  show newL false (ds.map W.d) st = _
  unfold newL
  rw [allD_map]
  rfl
theorem rl_listSs {zs : List Str} (h : Run (k (.d (strs' zs))) ⟨env, st⟩ Q) : Run (bnd (lft fun st => listC false st [.d (strs' zs)]) k) ⟨env, st⟩ Q := rl_listF h
theorem rl_listO {n : Nat} {ws : List W} {ds : List D} (e : st[n]? = some (some (.lst ws))) (e2 : allD ws = some ds) (h : Run (k (.d (.lst ds))) ⟨env, st⟩ Q) : Run (bnd (lft fun st => listC false st [.loc n]) k) ⟨env, st⟩ Q := by
  refine rb_lft ?_ h
  show (match (match st[n]? with | some (some (.lst ws)) => some ws | _ => none) with | some ws => newL false ws st | none => _) = _
  rw [e]
  show newL false ws st = _
  unfold newL
  rw [e2]
  rfl
theorem eq_strs : ∀ (xs ys : List Str), D.eq (strs' xs) (strs' ys) = decide (xs = ys)
  | [], [] => rfl
  | [], _ :: _ => rfl
  | _ :: _, [] => rfl
  | x :: xs, y :: ys => by
    show (D.eq (.str x) (.str y) && D.eq (strs' xs) (strs' ys)) = _
    rw [eq_str, eq_strs xs ys, Bool.eq_iff_iff]
    simp
end
theorem cut_upto {α : Type} {xs : List α} {a : Nat} (h : a ≤ xs.length) : cutW xs none (some (a : Int)) = xs.take a := by
  unfold cutW HT.sIx
  simp only
  rw [if_neg (by omega)]
  simp [Nat.min_eq_left h]
def sfK (ok : List Nat) (i : Nat) (y : W) : W → EM Fl := fun w => fun s => match w with
  | .loc n => match s.st[n]? with
    | some (some (.ins k ks ws)) => if ok.contains k && decide (ks.length < 900) then some (.ok .nx, ⟨s.env, s.st.set n (some (.ins k (fput ks ws i y).1 (fput ks ws i y).2))⟩) else none
    | _ => none
  | _ => none
section
variable {β : Type} {env : List (Option W)} {st st' : Store} {s : SS} {Q : Out β → SS → Prop} {k : Fl → EM β}
theorem sfld_eq (ok : List Nat) (i : Nat) (mo m : EM W) : sfldS ok i mo m = bnd m fun y => bnd mo (sfK ok i y) := rfl
theorem rb_sfld {ok : List Nat} {i : Nat} {mo m : EM W} (h : Run (bnd m fun y => bnd mo fun w => bnd (sfK ok i y w) k) s Q) : Run (bnd (sfldS ok i mo m) k) s Q := by
  rw [sfld_eq]
  exact rb_bnd2 h
theorem rl_sfld {ok : List Nat} {i n c : Nat} {ks : List Nat} {ws : List W} {y : W} (e : st[n]? = some (some (.ins c ks ws))) (h1 : (ok.contains c && decide (ks.length < 900)) = true) (e2 : st.set n (some (.ins c (fput ks ws i y).1 (fput ks ws i y).2)) = st') (h : Run (k .nx) ⟨env, st'⟩ Q) :
    Run (bnd (sfK ok i y (.loc n)) k) ⟨env, st⟩ Q := by
  subst e2
  refine rb_eq ?_ h
  unfold sfK
  simp only [e]
  rw [if_pos h1]
end
end EV
namespace EV
open PySem PySem.Spec PyProof.Rows L2
def spX1 (C : Addr) (f : Str) : Sp := fun vs H Q _ => ∃ a y, vs = [.ref a, y] ∧ H a = some (exo a C none) ∧ ∀ dx, H dx = none → dx ≠ a → Q .non (upd (upd H dx (exd dx [(f, y)])) a (exo a C (some dx)))
def raiseS (k : Nat) (ks : List Nat) (m : EM (List W)) : EM Fl := bnd (treesE m) fun ds => if ds.length = ks.length then thr k ks ds else non
end EV
namespace EV
open PySem L2
instance kmem {q : L2.Key} {ks : List L2.Key} : Decidable (q ∈ ks) := decidable_of_iff ((ks.any fun x => decide (x = q)) = true) (by
  rw [List.any_eq_true]
  constructor
  · rintro ⟨x, h, e⟩
    exact of_decide_eq_true e ▸ h
  · exact fun h => ⟨q, h, decide_eq_true rfl⟩)
def ptD (name : Str) (rooms : List Str) (rows : List D) : D := .ins 7 [5, 7, 8] [.str name, strs' rooms, .lst rows]
def ptO (name : Str) (a b : Nat) : OO := .ins 7 [5, 7, 8] [.d (.str name), .loc a, .loc b]
mutual
inductive Den (st : Store) : Nat → List Nat → W → D → Prop
  | d (h : Nat) (x : D) : Den st h [] (.d x) x
  | part {h m a b : Nat} {name : Str} {rooms : List Str} {items : List W} {rows : List D} {fp : List Nat} (e1 : st[m]? = some (some (ptO name a b))) (e2 : st[a]? = some (some (.lst (sw rooms)))) (e3 : st[b]? = some (some (.lst items))) (t : Dens st h fp items rows) :
      Den st (h + 1) (m :: a :: b :: fp) (.loc m) (ptD name rooms rows)
inductive Dens (st : Store) : Nat → List Nat → List W → List D → Prop
  | nil (h : Nat) : Dens st h [] [] []
  | cons {h : Nat} {f1 f2 : List Nat} {w : W} {ws : List W} {d : D} {ds : List D} (e : Den st h f1 w d) (t : Dens st h f2 ws ds) : Dens st h (f1 ++ f2) (w :: ws) (d :: ds)
end
theorem Dens.lens {st : Store} : ∀ {h : Nat} {fp : List Nat} {ws : List W} {ds : List D}, Dens st h fp ws ds → ws.length = ds.length
  | _, _, _, _, .nil _ => rfl
  | _, _, _, _, .cons _ t => congrArg (· + 1) (Dens.lens t)
mutual
theorem Den.lt {st : Store} : ∀ {h : Nat} {fp : List Nat} {w : W} {d : D}, Den st h fp w d → ∀ k ∈ fp, k < st.length
  | _, _, _, _, .d h x, k, q => (nomatch q)
  | _, _, _, _, .part e1 e2 e3 t, k, q => by
    simp only [List.mem_cons] at q
    rcases q with rfl | rfl | rfl | q
    · exact (List.getElem?_eq_some_iff.mp e1).1
    · exact (List.getElem?_eq_some_iff.mp e2).1
    · exact (List.getElem?_eq_some_iff.mp e3).1
    · exact Dens.lt t k q
theorem Dens.lt {st : Store} : ∀ {h : Nat} {fp : List Nat} {ws : List W} {ds : List D}, Dens st h fp ws ds → ∀ k ∈ fp, k < st.length
  | _, _, _, _, .nil h, k, q => (nomatch q)
  | _, _, _, _, .cons e t, k, q => (List.mem_append.mp q).elim (Den.lt e k) (Dens.lt t k)
end
theorem Dens.snoc {st : Store} {h : Nat} {w : W} {d : D} {f : List Nat} : ∀ {fp : List Nat} {ws : List W} {ds : List D}, Dens st h fp ws ds → Den st h f w d → Dens st h (fp ++ f) (ws ++ [w]) (ds ++ [d])
  | _, _, _, .nil _, e => by
    have := Dens.cons e (.nil h)
    rw [List.append_nil] at this
    exact this
  | _, _, _, .cons e0 t, e => by
    rw [List.append_assoc]
    exact .cons e0 (t.snoc e)
mutual
theorem Den.frame {st st' : Store} : ∀ {h : Nat} {fp : List Nat} {w : W} {d : D}, Den st h fp w d → (∀ n ∈ fp, st'[n]? = st[n]?) → Den st' h fp w d
  | _, _, _, _, .d h x, _ => .d h x
  | _, _, _, _, .part e1 e2 e3 t, q => .part ((q _ (by simp)).trans e1) ((q _ (by simp)).trans e2) ((q _ (by simp)).trans e3) (Dens.frame t fun n hn => q n (by simp [hn]))
theorem Dens.frame {st st' : Store} : ∀ {h : Nat} {fp : List Nat} {ws : List W} {ds : List D}, Dens st h fp ws ds → (∀ n ∈ fp, st'[n]? = st[n]?) → Dens st' h fp ws ds
  | _, _, _, _, .nil h, _ => .nil h
  | _, _, _, _, .cons e t, q => .cons (Den.frame e fun n hn => q n (by simp [hn])) (Dens.frame t fun n hn => q n (by simp [hn]))
end
theorem ne_in {a b : Nat} {l : List Nat} (h : ¬ a ∈ l) (h2 : b ∈ l) : a ≠ b := fun e => h (e ▸ h2)
theorem set_get {st : Store} {n m : Nat} {o : Option OO} (h : n ≠ m) : (st.set n o)[m]? = st[m]? := List.getElem?_set_ne h
def Left (st st' : Store) (fp : List Nat) : Prop := st'.length = st.length ∧ ∀ n, ¬ n ∈ fp → st'[n]? = st[n]?
mutual
theorem Den.fz : ∀ {st : Store} {h : Nat} {fp : List Nat} {w : W} {d : D}, Den st h fp w d → fp.Nodup → ∀ k, 2 * h + 1 ≤ k → ∃ st', EV.fz k w st = some (d, st') ∧ Left st st' fp
  | st, _, _, _, _, .d h x, _, k, _ => ⟨st, fz_d k x st, rfl, fun _ _ => rfl⟩
  | st, _, _, _, _, .part (h := h) (m := m) (a := a) (b := b) (name := name) (rooms := rooms) (items := items) (rows := rows) (fp := fp) e1 e2 e3 t, nd, k, hk => by
    obtain ⟨k, rfl⟩ : ∃ k', k = k' + 2 := ⟨k - 2, by omega⟩
    obtain ⟨n1, nd⟩ := List.nodup_cons.mp nd
    obtain ⟨n2, nd⟩ := List.nodup_cons.mp nd
    obtain ⟨n3, nd⟩ := List.nodup_cons.mp nd
    simp only [List.mem_cons, not_or] at n1 n2 n3
    have q1 : (st.set m none)[a]? = some (some (.lst (sw rooms))) := (set_get n1.1).trans e2
    have q2 : ((st.set m none).set a none)[b]? = some (some (.lst items)) := (set_get n2.1).trans ((set_get n1.2.1).trans e3)
    have t2 : Dens (((st.set m none).set a none).set b none) h fp items rows := t.frame fun n hn => by
      rw [set_get (ne_in n3 hn), set_get (ne_in n2.2 hn), set_get (ne_in n1.2.2 hn)]
    obtain ⟨st', f1, f2, f3⟩ := Dens.fz t2 nd k (by omega)
    have z1 : EV.fz (k + 1) (.loc a) (st.set m none) = some (strs' rooms, (st.set m none).set a none) := by
      unfold EV.fz
      simp only [q1]
      rw [show sw rooms = (rooms.map D.str).map W.d by rw [List.map_map]; rfl, fzL_d]
      rfl
    have z2 : EV.fz (k + 1) (.loc b) ((st.set m none).set a none) = some (.lst rows, st') := by
      unfold EV.fz
      simp only [q2, f1]
    refine ⟨st', ?_, ?_, fun n hn => ?_⟩
    · show (match st[m]? with | some (some (.lst ws)) => _ | some (some (.dct ks ws)) => _ | some (some (.ins i ks ws)) => (match fzL (EV.fz (k + 1)) ws (st.set m none) with | some (ds, st1) => some (D.ins i ks ds, st1) | none => none) | some (some (.tup ws)) => _ | some (some (.dtt _ _)) => _ | _ => none) = _
      rw [e1]
      show (match fzL (EV.fz (k + 1)) [.d (.str name), .loc a, .loc b] (st.set m none) with | some (ds, st1) => some (D.ins 7 [5, 7, 8] ds, st1) | none => none) = _
      unfold fzL
      rw [fz_d]
      simp only
      unfold fzL
      rw [z1]
      simp only
      unfold fzL
      rw [z2]
      simp only
      rfl
    · rw [f2, List.length_set, List.length_set, List.length_set]
    · simp only [List.mem_cons, not_or] at hn
      rw [f3 n hn.2.2.2, set_get (Ne.symm hn.2.2.1), set_get (Ne.symm hn.2.1), set_get (Ne.symm hn.1)]
theorem Dens.fz : ∀ {st : Store} {h : Nat} {fp : List Nat} {ws : List W} {ds : List D}, Dens st h fp ws ds → fp.Nodup → ∀ k, 2 * h + 1 ≤ k → ∃ st', fzL (EV.fz k) ws st = some (ds, st') ∧ Left st st' fp
  | st, _, _, _, _, .nil h, _, k, _ => ⟨st, rfl, rfl, fun _ _ => rfl⟩
  | st, _, _, _, _, .cons (f1 := g1) (f2 := g2) (ws := ws) (d := d) (ds := ds) e t, nd, k, hk => by
    obtain ⟨nd1, nd2, nd3⟩ := List.nodup_append.mp nd
    obtain ⟨st1, f1, f2, f3⟩ := Den.fz e nd1 k hk
    obtain ⟨st2, g1', g2', g3'⟩ := Dens.fz (t.frame fun n hn => f3 n fun q => nd3 n q n hn rfl) nd2 k hk
    refine ⟨st2, ?_, by rw [g2', f2], fun n hn => ?_⟩
    · unfold fzL
      rw [f1]
      simp only
      rw [g1']
    · simp only [List.mem_append, not_or] at hn
      rw [g3' n hn.2, f3 n hn.1]
end
abbrev Fr := Str × List Str × List D
inductive Opn (st : Store) : Nat → List Nat → List Nat → Nat → List Fr → Prop
  | top {h m a b : Nat} {name : Str} {rooms : List Str} {items : List W} {rows : List D} {fp : List Nat} (e1 : st[m]? = some (some (ptO name a b))) (e2 : st[a]? = some (some (.lst (sw rooms)))) (e3 : st[b]? = some (some (.lst items))) (t : Dens st h fp items rows) :
      Opn st h [m] (m :: a :: b :: fp) m [(name, rooms, rows)]
  | more {h m a b m' : Nat} {name : Str} {rooms : List Str} {items : List W} {rows : List D} {fp fp' ms : List Nat} {frs : List Fr} (e1 : st[m]? = some (some (ptO name a b))) (e2 : st[a]? = some (some (.lst (sw rooms)))) (e3 : st[b]? = some (some (.lst (items ++ [.loc m'])))) (t : Dens st (h + 1) fp items rows)
      (o : Opn st h ms fp' m' frs) : Opn st (h + 1) (m :: ms) (m :: a :: b :: (fp ++ fp')) m ((name, rooms, rows) :: frs)
theorem Opn.frame {st st' : Store} : ∀ {h : Nat} {ms fp : List Nat} {m : Nat} {frs : List Fr}, Opn st h ms fp m frs → (∀ n ∈ fp, st'[n]? = st[n]?) → Opn st' h ms fp m frs
  | _, _, _, _, _, .top e1 e2 e3 t, q => .top ((q _ (by simp)).trans e1) ((q _ (by simp)).trans e2) ((q _ (by simp)).trans e3) (t.frame fun n hn => q n (by simp [hn]))
  | _, _, _, _, _, .more e1 e2 e3 t o, q => .more ((q _ (by simp)).trans e1) ((q _ (by simp)).trans e2) ((q _ (by simp)).trans e3) (t.frame fun n hn => q n (by simp [hn])) (o.frame fun n hn => q n (by simp [hn]))
theorem Opn.lt {st : Store} : ∀ {h : Nat} {ms fp : List Nat} {m : Nat} {frs : List Fr}, Opn st h ms fp m frs → ∀ k ∈ fp, k < st.length
  | _, _, _, _, _, .top e1 e2 e3 t, k, q => by
    simp only [List.mem_cons] at q
    rcases q with rfl | rfl | rfl | q
    · exact (List.getElem?_eq_some_iff.mp e1).1
    · exact (List.getElem?_eq_some_iff.mp e2).1
    · exact (List.getElem?_eq_some_iff.mp e3).1
    · exact Dens.lt t k q
  | _, _, _, _, _, .more e1 e2 e3 t o, k, q => by
    simp only [List.mem_cons, List.mem_append] at q
    rcases q with rfl | rfl | rfl | q | q
    · exact (List.getElem?_eq_some_iff.mp e1).1
    · exact (List.getElem?_eq_some_iff.mp e2).1
    · exact (List.getElem?_eq_some_iff.mp e3).1
    · exact Dens.lt t k q
    · exact o.lt k q
theorem Opn.lens {st : Store} : ∀ {h : Nat} {ms fp : List Nat} {m : Nat} {frs : List Fr}, Opn st h ms fp m frs → ms.length = frs.length ∧ ms.length ≤ h + 1
  | _, _, _, _, _, .top _ _ _ _ => ⟨rfl, by simp⟩
  | _, _, _, _, _, .more _ _ _ _ o => by
    have := o.lens
    simp only [List.length_cons]
    omega
theorem Opn.last {st : Store} : ∀ {h : Nat} {ms fp : List Nat} {m : Nat} {frs : List Fr}, Opn st h ms fp m frs → fp.Nodup → ∃ (frs0 : List Fr) (name : Str) (rooms : List Str) (rows : List D) (mt a b : Nat) (items : List W) (ms0 : List Nat), frs = frs0 ++ [(name, rooms, rows)] ∧ ms = ms0 ++ [mt] ∧
      st[mt]? = some (some (ptO name a b)) ∧ st[b]? = some (some (.lst items)) ∧ b ∈ fp ∧ mt ∈ fp ∧ items.length = rows.length ∧ (∀ x, Opn (st.set b (some (.lst (items ++ [.d x])))) h ms fp m (frs0 ++ [(name, rooms, rows ++ [x])])) ∧
      (ms.length < h + 1 → ∀ (st1 : Store) (n a' b' : Nat) (name' : Str) (rooms' : List Str), (∀ k ∈ fp, st1[k]? = st[k]?) → (∀ k ∈ [n, a', b'], ¬ k ∈ fp) → st1[n]? = some (some (ptO name' a' b')) → st1[a']? = some (some (.lst (sw rooms'))) → st1[b']? = some (some (.lst [])) →
        Opn (st1.set b (some (.lst (items ++ [.loc n])))) h (ms ++ [n]) (fp ++ [n, a', b']) m (frs ++ [(name', rooms', [])]))
  | _, _, _, _, _, .top (h := h) (m := m) (a := a) (b := b) (name := name) (rooms := rooms) (items := items) (rows := rows) (fp := fp) e1 e2 e3 t, nd => by
    obtain ⟨n1, nd⟩ := List.nodup_cons.mp nd
    obtain ⟨n2, nd⟩ := List.nodup_cons.mp nd
    obtain ⟨n3, nd⟩ := List.nodup_cons.mp nd
    simp only [List.mem_cons, not_or] at n1 n2 n3
    have hb : b < st.length := (List.getElem?_eq_some_iff.mp e3).1
    refine ⟨[], name, rooms, rows, m, a, b, items, [], rfl, rfl, e1, e3, by simp, by simp, t.lens, fun x => ?_, fun hl st1 n a' b' name' rooms' k1 k2 c1 c2 c3 => ?_⟩
    · have t2 := (t.frame (st' := st.set b (some (.lst (items ++ [.d x])))) fun k hk => set_get (ne_in n3 hk)).snoc (.d h x)
      rw [List.append_nil] at t2
      exact .top ((set_get (Ne.symm n1.2.1)).trans e1) ((set_get (Ne.symm n2.1)).trans e2) (List.getElem?_set_self hb) t2
    · obtain ⟨h, rfl⟩ : ∃ h', h = h' + 1 := ⟨h - 1, by simp at hl; omega⟩
      have hb1 : b < st1.length := (List.getElem?_eq_some_iff.mp ((k1 b (by simp)).trans e3)).1
      have nb : ∀ k ∈ [n, a', b'], b ≠ k := fun k hk e => k2 k hk (by rw [← e]; simp)
      have t2 := t.frame (st' := st1.set b (some (.lst (items ++ [.loc n])))) fun k hk => (set_get (ne_in n3 hk)).trans (k1 k (by simp [hk]))
      have o2 : Opn (st1.set b (some (.lst (items ++ [.loc n])))) h [n] [n, a', b'] n [(name', rooms', [])] := .top ((set_get (nb n (by simp))).trans c1) ((set_get (nb a' (by simp))).trans c2) ((set_get (nb b' (by simp))).trans c3) (.nil h)
      exact .more ((set_get (Ne.symm n1.2.1)).trans ((k1 m (by simp)).trans e1)) ((set_get (Ne.symm n2.1)).trans ((k1 a (by simp)).trans e2)) (List.getElem?_set_self hb1) t2 o2
  | _, _, _, _, _, .more (h := h) (m := m) (a := a) (b := b) (m' := m') (name := name) (rooms := rooms) (items := items) (rows := rows) (fp := fp) (fp' := fp') (ms := ms) (frs := frs) e1 e2 e3 t o, nd => by
    obtain ⟨n1, nd⟩ := List.nodup_cons.mp nd
    obtain ⟨n2, nd⟩ := List.nodup_cons.mp nd
    obtain ⟨n3, nd⟩ := List.nodup_cons.mp nd
    obtain ⟨nd1, nd2, nd3⟩ := List.nodup_append.mp nd
    simp only [List.mem_cons, List.mem_append, not_or] at n1 n2 n3
    obtain ⟨frs0, name2, rooms2, rows2, mt, a2, b2, items2, ms0, rfl, rfl, q1, q2, q3, q4, q7, q5, q6⟩ := o.last nd2
    refine ⟨(name, rooms, rows) :: frs0, name2, rooms2, rows2, mt, a2, b2, items2, m :: ms0, rfl, rfl, q1, q2, by simp [q3], by simp [q4], q7, fun x => ?_, fun hl st1 n a' b' name' rooms' k1 k2 c1 c2 c3 => ?_⟩
    · exact .more ((set_get (Ne.symm (ne_in n1.2.2.2 q3))).trans e1) ((set_get (Ne.symm (ne_in n2.2.2 q3))).trans e2) ((set_get (Ne.symm (ne_in n3.2 q3))).trans e3) (t.frame fun k hk => set_get fun e => nd3 k hk b2 q3 e.symm) (q5 x)
    · have q6 := q6 (by simp at hl ⊢; omega) st1 n a' b' name' rooms' (fun k hk => k1 k (by simp [hk])) (fun k hk q => k2 k hk (by simp [q])) c1 c2 c3
      have := Opn.more (h := h) (st := st1.set b2 (some (.lst (items2 ++ [.loc n])))) ((set_get (Ne.symm (ne_in n1.2.2.2 q3))).trans ((k1 m (by simp)).trans e1)) ((set_get (Ne.symm (ne_in n2.2.2 q3))).trans ((k1 a (by simp)).trans e2)) ((set_get (Ne.symm (ne_in n3.2 q3))).trans ((k1 b (by simp)).trans e3)) (t.frame (st' := st1.set b2 (some (.lst (items2 ++ [.loc n])))) fun k hk => (set_get fun e => nd3 k hk b2 q3 e.symm).trans (k1 k (by simp [hk]))) q6
      simp only [List.cons_append, List.append_assoc] at this ⊢
      exact this
def mkOK (i np : Nat) (F : FF) (dws ws : List W) : EM W := fun s => match (if (.loc s.st.length :: (ws ++ dws)).length = np then F (.loc s.st.length :: (ws ++ dws)) (s.st ++ [some (.ins i [] [])]) else none) with
  | some (.ok (.d .non), st) => some (.ok (.loc s.st.length), ⟨s.env, st⟩)
  | some (.ex C ks es, st) => some (.ex C ks es, ⟨s.env, st⟩)
  | _ => none
section
variable {β : Type} {env : List (Option W)} {st st' : Store} {s : SS} {Q : Out β → SS → Prop} {k : W → EM β}
theorem rb_mkO {i np : Nat} {F : FF} {dws : List W} {m : EM (List W)} (h : Run (bnd m fun ws => bnd (mkOK i np F dws ws) k) s Q) : Run (bnd (mkO i np F dws m) k) s Q := by
  have e : mkO i np F dws m = bnd m (mkOK i np F dws) := rfl
  rw [e]
  exact rb_bnd h
theorem rl_listTO {n : Nat} {ds : List D} (e : st.length = n) (e2 : st ++ [some (.lst (ds.map .d))] = st') (h : Run (k (.loc n)) ⟨env, st'⟩ Q) : Run (bnd (lft fun st => listC true st [.d (.lst ds)]) k) ⟨env, st⟩ Q := by
  subst e e2
  exact rb_lft rfl h
end
theorem get_end {st : Store} {x : Option OO} {r : Store} : (st ++ (x :: r))[st.length]? = some x := by simp
theorem set_end {st : Store} {x y : Option OO} {r : Store} : (st ++ (x :: r)).set st.length y = st ++ (y :: r) := by
  rw [List.set_append_right _ _ (Nat.le_refl _), Nat.sub_self]
  rfl
theorem get_old {st r : Store} {n : Nat} {o : Option OO} (h : st[n]? = some o) : (st ++ r)[n]? = some o := by
  rw [List.getElem?_append_left (List.getElem?_eq_some_iff.mp h).1]
  exact h
end EV
namespace L2
open PySem PySem.Spec PyProof.Rows
def pickL {α : Type} (xs : List α) (lo hi st : Option Int) : List α :=
  (sliceRange (sliceBounds lo hi st xs.length).1 (sliceBounds lo hi st xs.length).2.1 (sliceBounds lo hi st xs.length).2.2).filterMap (xs[·]?)
theorem Vals.pick {xs : List V} {us : List Value} (r : Vals xs us) : ∀ is : List Nat, Vals (is.filterMap (xs[·]?)) (is.filterMap (us[·]?))
  | [] => .nil
  | i :: is => by
    cases e : xs[i]? with
    | none =>
      have h : us[i]? = none := by
        rw [List.getElem?_eq_none_iff] at e ⊢
        have := r.length
        omega
      rw [List.filterMap_cons_none e, List.filterMap_cons_none h]
      exact Vals.pick r is
    | some x =>
      obtain ⟨u, h, ru⟩ := r.get e
      rw [List.filterMap_cons_some e, List.filterMap_cons_some h]
      exact .cons ru (Vals.pick r is)
def tSl3 (K : PySem.W.Frag) (te : TE) (tl th ts : TO) : TE := fun σ H Q => te σ H fun x H1 => tl σ H1 fun l H2 => th σ H2 fun u H3 => ts σ H3 fun k H4 => k ≠ some 0 ∧ ∃ a xs, x = .ref a ∧ SqL K H4 a xs ∧ ∀ p, H4 p = none → Q (.ref p) (upd H4 p (.lst (pickL xs l u k)))
end L2
namespace EV
open PySem PySem.Spec PyProof.Rows L2
section
variable {c : Kx} {X : Cx} {U : WX} {e : Expr} {es : List Expr} {p2 pos : Pos} {m : EM (List W)} {me : EM W}
def newT (ws : List W) (st : Store) : Option (W × Store) := if ws.length ≤ 16777216 then some (.loc st.length, st ++ [some (.tup ws)]) else none
def tupO (m : EM (List W)) : EM W := bnd m fun ws => lft (newT ws)
theorem ee_tupO {k} (h : EA c X U es m) : EE c X U (.Tuple es k pos) (tupO m) :=
  EE.mk1 h.K (pe_tup h.pa) fun ρ G s σ H Q hR w => ⟨ρ, G, s, hR, (Wp.bnd hR w).imp fun ws ρ1 G1 H1 s1 ⟨S1, R1, w1⟩ vs rvs => by
    obtain ⟨w, st', e, q⟩ := Wp.lft w1
    unfold newT at e
    split at e
    · rename_i hl
      cases e
      refine ⟨by rw [rvs.len, sizeLine_eq]; exact hl, fun p hp => ?_⟩
      obtain ⟨S, r'⟩ := new_own (p := (p, p)) (o := .tup ws) (H' := upd H1 p (.tup vs)) R1.rs hp hp (fun a u e => by rw [upd_ne (ne_of_none e hp)]; exact e) ⟨rfl, vs, upd_same, rvs⟩
      exact q _ G1 _ S ⟨r', R1.env.mono S.rho S.same, R1.len⟩ _ ⟨(p, p), by rw [← R1.rs.len, List.getElem?_append_right (Nat.le_refl _)]; simp, rfl⟩
    · cases e⟩
def slice3A (st : Store) (x : W) (lo hi k : Option Int) : Option (W × Store) := if k = some 0 then none else match listW st x with
  | some ws => newL false (pickL ws lo hi k) st
  | none => none
def sl3E (m : EM W) (ml mh mk : EM (Option Int)) : EM W := bnd m fun x => bnd ml fun lo => bnd mh fun hi => bnd mk fun k => lft fun st => slice3A st x lo hi k
theorem rep_pickI {ρ : Rho} {G : Hp} {ws : List W} {vs : List V} (h : RepWs c ρ G ws vs) : ∀ is : List Nat, RepWs c ρ G (is.filterMap (ws[·]?)) (is.filterMap (vs[·]?))
  | [] => rfl
  | i :: is => by
    cases e : ws[i]? with
    | none =>
      have h2 : vs[i]? = none := by
        rw [List.getElem?_eq_none_iff] at e ⊢
        have := h.len
        omega
      rw [List.filterMap_cons_none e, List.filterMap_cons_none h2]
      exact rep_pickI h is
    | some x =>
      obtain ⟨u, h2, ru⟩ := h.get e
      rw [List.filterMap_cons_some e, List.filterMap_cons_some h2]
      exact ⟨u, _, rfl, ru, rep_pickI h is⟩
end
section
variable {β : Type} {env env' : List (Option W)} {st st' : Store} {s : SS} {Q : Out β → SS → Prop} {k : W → EM β}
theorem rb_tupO {m : EM (List W)} (h : Run (bnd m fun ws => bnd (lft (newT ws)) k) s Q) : Run (bnd (tupO m) k) s Q := rb_bnd h
theorem rl_newT {ws : List W} {n : Nat} (hl : ws.length ≤ 16777216) (e : st.length = n) (e2 : st ++ [some (.tup ws)] = st') (h : Run (k (.loc n)) ⟨env, st'⟩ Q) : Run (bnd (lft (newT ws)) k) ⟨env, st⟩ Q := by
  subst e e2
  exact rb_lft (by unfold newT; rw [if_pos hl]) h
theorem rl_ixTO {n : Nat} {ws : List W} {w : W} {i : Int} (e : st[n]? = some (some (.tup ws))) (e2 : atI ws i = some w) (h : Run (k w) ⟨env, st⟩ Q) : Run (bnd (lft fun st => ixA st (.loc n) (.d (.int i))) k) ⟨env, st⟩ Q := by
  refine rb_lft ?_ h
  show (match st[n]? with | some (some (.lst ws)) => _ | some (some (.tup ws)) => (match atI ws i with | some w => some (w, st) | none => none) | _ => none) = _
  rw [e]
  simp only [e2]
def ziK (ds : List D) : EM (List D) := match ds with
  | [x, y] => match listD x, listT y with
    | some xs, some ys => pur (zipD xs ys)
    | _, _ => non
  | _ => non
end
end EV
namespace EV
open PySem PySem.Spec PyProof.Rows L2
def lstO (st : Store) : W → Option (List W)
  | .loc n => match st[n]? with
    | some (some (.lst ws)) => some ws
    | _ => none
  | .d (.lst ds) => some (ds.map .d)
  | _ => none
def loopO (t : Tg) (body : EM Fl) (w : W) : Nat → Nat → EM Fl
  | 0, _ => non
  | n + 1, i => fun s => match lstO s.st w with
    | none => none
    | some ws => match ws[i]? with
      | none => pur .nx s
      | some x => bnd (bnd (asg t x) fun _ => body) (fun f => match f with
        | .nx => loopO t body w n (i + 1)
        | .cnt => loopO t body w n (i + 1)
        | .brk => pur .nx
        | .ret u => pur (.ret u)) s
def forO (n : Nat) (mi : EM W) (t : Tg) (body : EM Fl) : EM Fl := bnd mi fun w => loopO t body w n 0
section
variable {c : Kx} {X : Cx} {U : WX} {body : List Stmt} {m : EM Fl} {pos : Pos}
end
section
variable {β : Type} {env env' : List (Option W)} {st st' : Store} {s : SS} {Q : Out β → SS → Prop}
end
end EV
namespace EV
open PySem L2
class At (env : List (Option W)) (i : Nat) (w : outParam W) : Prop where
  eq : env[i]? = some (some w)
instance at_0 {w : W} {r : List (Option W)} : At (some w :: r) 0 w := ⟨rfl⟩
instance at_s {x : Option W} {w : W} {r : List (Option W)} {i : Nat} [h : At r i w] : At (x :: r) (i + 1) w := ⟨h.eq⟩
class SetAt (env : List (Option W)) (i : Nat) (w : W) (env' : outParam (List (Option W))) : Prop where
  eq : env.set i (some w) = env'
instance set_0 {x : Option W} {w : W} {r : List (Option W)} : SetAt (x :: r) 0 w (some w :: r) := ⟨rfl⟩
instance set_s {x : Option W} {w : W} {r r' : List (Option W)} {i : Nat} [h : SetAt r i w r'] : SetAt (x :: r) (i + 1) w (x :: r') := ⟨congrArg (x :: ·) h.eq⟩
class St {α β : Type} (m : EM α) (k : α → EM β) (s : SS) (Q : Out β → SS → Prop) (P : outParam Prop) : Prop where
  run : P → Run (bnd m k) s Q
class Se {α : Type} (m : EM α) (s : SS) (Q : Out α → SS → Prop) (P : outParam Prop) : Prop where
  run : P → Run m s Q
section
variable {β : Type} {env env' : List (Option W)} {st : Store} {s : SS} {Q : Out β → SS → Prop} {k : W → EM β}
instance st_cst {d : D} : St (cst d) k s Q (Run (k (.d d)) s Q) := ⟨rb_cst⟩
instance st_var {i : Nat} {w : W} [h : At env i w] : St (var i) k ⟨env, st⟩ Q (Run (k w) ⟨env, st⟩ Q) := ⟨rb_var h.eq⟩
instance st_asg {k : Unit → EM β} {i : Nat} {w : W} [h : SetAt env i w env'] : St (asg (.name i) w) k ⟨env, st⟩ Q (Run (k ()) ⟨env', st⟩ Q) := ⟨rb_asg h.eq⟩
instance st_op2 {f : Store → W → W → Option (W × Store)} {ma mb : EM W} : St (op2 f ma mb) k s Q (Run (bnd ma fun x => bnd mb fun y => bnd (lft fun st => f st x y) k) s Q) := ⟨rb_op2⟩
instance st_op1 {f : Store → W → Option (W × Store)} {ma : EM W} : St (op1 f ma) k s Q (Run (bnd ma fun x => bnd (lft fun st => f st x) k) s Q) := ⟨rb_op1⟩
instance st_sq {k : Fl → EM β} {m r : EM Fl} : St (sq m r) k s Q (Run (bnd m fun f => bnd (sqK r f) k) s Q) := ⟨rb_sq⟩
instance st_sqN {k : Fl → EM β} {r : EM Fl} : St (sqK r .nx) k s Q (Run (bnd r k) s Q) := ⟨rb_sqN⟩
instance st_sqR {k : Fl → EM β} {r : EM Fl} {w : W} : St (sqK r (.ret w)) k s Q (Run (k (.ret w)) s Q) := ⟨rb_sqR⟩
instance st_asgS {k : Fl → EM β} {t : Tg} {m : EM W} : St (asgS t m) k s Q (Run (bnd m fun w => bnd (asg t w) fun _ => k .nx) s Q) := ⟨rb_asgS⟩
instance st_acons {k : List W → EM β} {m : EM W} {r : EM (List W)} : St (acons m r) k s Q (Run (bnd m fun w => bnd r fun ws => k (w :: ws)) s Q) := ⟨rb_acons⟩
instance st_anil {k : List W → EM β} : St anil k s Q (Run (k []) s Q) := ⟨rb_anil⟩
instance st_toB {k : Bool → EM β} {m : EM W} : St (toB m) k s Q (Run (bnd m fun w => bnd (toBK w) k) s Q) := ⟨rb_toB⟩
instance st_toBK {k : Bool → EM β} {b : Bool} : St (toBK (.d (.bl b))) k s Q (Run (k b) s Q) := ⟨rb_toBK⟩
instance st_ifE {α : Type} {k : α → EM β} {t : EM Bool} {ma mb : EM α} : St (ifE t ma mb) k s Q (Run (bnd t fun b => bnd (ite2 b ma mb) k) s Q) := ⟨rb_ifE⟩
instance st_callB {f : Store → List W → Option (W × Store)} {m : EM (List W)} : St (callB f m) k s Q (Run (bnd m fun ws => bnd (lft fun st => f st ws) k) s Q) := ⟨rb_callB⟩
instance st_callE {g : List W → EM W} {dws : List W} {m : EM (List W)} : St (callE g dws m) k s Q (Run (bnd m fun ws => bnd (g (ws ++ dws)) k) s Q) := ⟨rb_callE⟩
instance st_retS {k : Fl → EM β} {m : EM W} : St (retS m) k s Q (Run (bnd m fun w => k (.ret w)) s Q) := ⟨rb_retS⟩
instance st_pur {α : Type} {k : α → EM β} {a : α} : St (pur a) k s Q (Run (k a) s Q) := ⟨rb_pur⟩
instance st_iteT {α : Type} {k : α → EM β} {m1 m2 : EM α} : St (ite2 true m1 m2) k s Q (Run (bnd m1 k) s Q) := ⟨rb_iteT⟩
instance st_iteF {α : Type} {k : α → EM β} {m1 m2 : EM α} : St (ite2 false m1 m2) k s Q (Run (bnd m2 k) s Q) := ⟨rb_iteF⟩
instance st_iteNT {α : Type} {k : α → EM β} {m1 m2 : EM α} : St (ite2 (!true) m1 m2) k s Q (Run (bnd m2 k) s Q) := ⟨rb_iteNT⟩
instance st_iteNF {α : Type} {k : α → EM β} {m1 m2 : EM α} : St (ite2 (!false) m1 m2) k s Q (Run (bnd m1 k) s Q) := ⟨rb_iteNF⟩
instance st_lst {own : Bool} {m : EM (List W)} : St (lstE own m) k s Q (Run (bnd m fun ws => bnd (lstK own ws) k) s Q) := ⟨rb_lst⟩
instance st_slE {own : Bool} {m : EM W} {ml mh : EM (Option Int)} : St (slE own m ml mh) k s Q (Run (bnd m fun x => bnd ml fun lo => bnd mh fun hi => bnd (lft fun st => sliceA own st x lo hi) k) s Q) := ⟨rb_slE⟩
instance st_partN {k : Option Int → EM β} : St (partE none) k s Q (Run (k none) s Q) := ⟨rb_partN⟩
instance st_partS {k : Option Int → EM β} {m : EM W} : St (partE (some m)) k s Q (Run (bnd m fun w => bnd (partK w) k) s Q) := ⟨rb_partS⟩
instance st_partK {k : Option Int → EM β} {i : Int} : St (partK (.d (.int i))) k s Q (Run (k (some i)) s Q) := ⟨rb_partK⟩
instance st_exprS {k : Fl → EM β} {m : EM W} : St (exprS m) k s Q (Run (bnd m fun _ => k .nx) s Q) := ⟨rb_exprS⟩
instance st_forS {k : Fl → EM β} {mi : EM (List D)} {t : Tg} {body : EM Fl} : St (forS mi t body) k s Q (Run (bnd mi fun ds => bnd (loopS t body ds) k) s Q) := ⟨rb_forS⟩
instance st_items {k : List D → EM β} {m : EM W} : St (itemsE m) k s Q (Run (bnd m fun w => bnd (itK w) k) s Q) := ⟨rb_items⟩
instance st_itL {k : List D → EM β} {ds : List D} : St (itK (.d (.lst ds))) k s Q (Run (k ds) s Q) := ⟨rb_itL⟩
instance st_itF {k : List D → EM β} {ds : List D} : St (itK (.d (.fls ds))) k s Q (Run (k ds) s Q) := ⟨rb_itF⟩
instance st_itI {k : List D → EM β} {xs : List Int} : St (itK (.d (ints' xs))) k s Q (Run (k (xs.map .int)) s Q) := ⟨rb_itI⟩
instance st_itSs {k : List D → EM β} {xs : List Str} : St (itK (.d (strs' xs))) k s Q (Run (k (xs.map .str)) s Q) := ⟨rb_itSs⟩
instance st_itT {k : List D → EM β} {ds : List D} : St (itK (.d (.tup ds))) k s Q (Run (k ds) s Q) := ⟨rb_itT⟩
instance st_itS {k : List D → EM β} {z : Str} : St (itK (.d (.str z))) k s Q (Run (k (z.cps.toList.map fun c => .str (chr1 c))) s Q) := ⟨rb_itS⟩
instance st_range1 {k : List D → EM β} {m : EM (List W)} : St (range1E m) k s Q (Run (bnd m fun ws => bnd (rg1K ws) k) s Q) := ⟨rb_range1⟩
instance st_range2 {k : List D → EM β} {m : EM (List W)} : St (range2E m) k s Q (Run (bnd m fun ws => bnd (rg2K ws) k) s Q) := ⟨rb_range2⟩
instance st_ntB {k : Bool → EM β} {m : EM Bool} : St (ntB m) k s Q (Run (bnd m fun b => k (!b)) s Q) := ⟨rb_ntB⟩
instance st_anB {k : Bool → EM β} {m r : EM Bool} : St (anB m r) k s Q (Run (bnd m fun b => bnd (ite2 b r (pur false)) k) s Q) := ⟨rb_anB⟩
instance st_orB {k : Bool → EM β} {m r : EM Bool} : St (orB m r) k s Q (Run (bnd m fun b => bnd (ite2 b (pur true) r) k) s Q) := ⟨rb_orB⟩
instance st_anV {m r : EM W} : St (anV m r) k s Q (Run (bnd (toB m) fun b => bnd (ite2 b r (pur (.d (.bl false)))) k) s Q) := ⟨rb_anV⟩
instance st_orV {m r : EM W} : St (orV m r) k s Q (Run (bnd (toB m) fun b => bnd (ite2 b (pur (.d (.bl true))) r) k) s Q) := ⟨rb_orV⟩
instance st_ntV {m : EM W} : St (ntV m) k s Q (Run (bnd (toB m) fun b => k (.d (.bl (!b)))) s Q) := ⟨rb_ntV⟩
instance st_ofB {m : EM Bool} : St (ofB m) k s Q (Run (bnd m fun b => k (.d (.bl b))) s Q) := ⟨rb_ofB⟩
instance st_chain {f g : Store → W → W → Option (W × Store)} {ma mb mc : EM W} : St (chainE f g ma mb mc) k s Q (Run (bnd ma fun x => bnd mb fun y => bnd (lft fun st => f st x y) fun z => bnd (chK g mc y z) k) s Q) := ⟨rb_chain⟩
instance st_chK {g : Store → W → W → Option (W × Store)} {y : W} {mc : EM W} {b : Bool} : St (chK g mc y (.d (.bl b))) k s Q (Run (bnd (ite2 b (bnd mc fun w => lft fun st => g st y w) (pur (.d (.bl false)))) k) s Q) := ⟨rb_chK⟩
instance st_bm {T : String} {f : Store → W → List W → Option (W × Store)} {mo : EM W} {m : EM (List W)} : St (bmE T f mo m) k s Q (Run (bnd mo fun o => bnd (bmK T f m o) k) s Q) := ⟨rb_bm⟩
instance st_frz {m : EM W} : St (frz m) k s Q (Run (bnd m fun w => bnd (frzK w) k) s Q) := ⟨rb_frz⟩
instance st_frzD {d : D} : St (frzK (.d d)) k s Q (Run (k (.d d)) s Q) := ⟨rb_frzD⟩
instance st_compE {own : List Nat} {mi : EM (List D)} {t : Tg} {tt : EM Bool} {el : EM W} {ownr : Bool} : St (compE own mi t tt el ownr) k s Q (Run (bnd mi fun ds => bnd (compK own t tt el ownr ds) k) s Q) := ⟨rb_compE⟩
instance st_fld {i : Nat} {m : EM W} : St (fldE i m) k s Q (Run (bnd m fun w => bnd (fldK i w) k) s Q) := ⟨rb_fld⟩
instance st_mkP {i np : Nat} {F : FF} {dws : List W} {m : EM (List W)} : St (mkP i np F dws m) k s Q (Run (bnd (treesE m) fun ds => bnd (mkK i np F dws ds) k) s Q) := ⟨rb_mkP⟩
instance st_mkO {i np : Nat} {F : FF} {dws : List W} {m : EM (List W)} : St (mkO i np F dws m) k s Q (Run (bnd m fun ws => bnd (mkOK i np F dws ws) k) s Q) := ⟨rb_mkO⟩
instance st_setL {k : Fl → EM β} {mo mi me : EM W} : St (setL mo mi me) k s Q (Run (bnd me fun y => bnd mo fun o => bnd mi fun i => bnd (lft fun st => setLW st o i y) fun _ => k .nx) s Q) := ⟨rb_setL⟩
instance st_setX {k : Fl → EM β} {mo mi me : EM W} : St (setX mo mi me) k s Q (Run (bnd me fun y => bnd mo fun o => bnd mi fun i => bnd (lft fun st => putDW st o i y) fun _ => k .nx) s Q) := ⟨rb_setX⟩
instance st_sfld {k : Fl → EM β} {ok : List Nat} {i : Nat} {mo m : EM W} : St (sfldS ok i mo m) k s Q (Run (bnd m fun y => bnd mo fun w => bnd (sfK ok i y w) k) s Q) := ⟨rb_sfld⟩
instance st_get2 {mo mk mx : EM W} : St (get2E mo mk mx) k s Q (Run (bnd mo fun o => bnd (isDE o) fun _ => bnd mk fun x => bnd mx fun y => bnd (lookE o x y) k) s Q) := ⟨rb_get2⟩
instance st_get1 {mo mk : EM W} : St (get1E mo mk) k s Q (Run (bnd mo fun o => bnd (isDE o) fun _ => bnd mk fun x => bnd (lookE o x (.d .non)) k) s Q) := ⟨rb_get1⟩
instance st_meth {tbl : List (Nat × (List W → EM W))} {mo : EM W} {m : EM (List W)} : St (methE tbl mo m) k s Q (Run (bnd mo fun o => bnd (methK tbl m o) k) s Q) := ⟨rb_meth⟩
instance st_tup {m : EM (List W)} : St (tupE m) k s Q (Run (bnd (treesE m) fun ds => bnd (tupK ds) k) s Q) := ⟨rb_tup⟩
instance st_trees {k : List D → EM β} {m : EM (List W)} : St (treesE m) k s Q (Run (bnd m fun ws => bnd (treesK ws) k) s Q) := ⟨rb_trees⟩
instance st_bnd {α γ : Type} {k : α → EM β} {m : EM γ} {f : γ → EM α} : St (bnd m f) k s Q (Run (bnd m fun a => bnd (f a) k) s Q) := ⟨rb_bnd⟩
instance sl_addI {own : Bool} {i j : Int} : St (lft fun st => addA own st (.d (.int i)) (.d (.int j))) k ⟨env, st⟩ Q (Run (k (.d (.int (i + j)))) ⟨env, st⟩ Q) := ⟨rl_addI⟩
instance sl_sub {i j : Int} : St (lft fun st => subA st (.d (.int i)) (.d (.int j))) k ⟨env, st⟩ Q (Run (k (.d (.int (i - j)))) ⟨env, st⟩ Q) := ⟨rl_sub⟩
instance sl_neg {i : Int} : St (lft fun st => negA st (.d (.int i))) k ⟨env, st⟩ Q (Run (k (.d (.int (-i)))) ⟨env, st⟩ Q) := ⟨rl_neg⟩
instance sl_lt {i j : Int} : St (lft fun st => ltA st (.d (.int i)) (.d (.int j))) k ⟨env, st⟩ Q (Run (k (.d (.bl (decide (i < j))))) ⟨env, st⟩ Q) := ⟨rl_lt⟩
instance sl_le {i j : Int} : St (lft fun st => leA st (.d (.int i)) (.d (.int j))) k ⟨env, st⟩ Q (Run (k (.d (.bl (decide (i ≤ j))))) ⟨env, st⟩ Q) := ⟨rl_le⟩
instance sl_gt {i j : Int} : St (lft fun st => gtA st (.d (.int i)) (.d (.int j))) k ⟨env, st⟩ Q (Run (k (.d (.bl (decide (j < i))))) ⟨env, st⟩ Q) := ⟨rl_gt⟩
instance sl_ge {i j : Int} : St (lft fun st => geA st (.d (.int i)) (.d (.int j))) k ⟨env, st⟩ Q (Run (k (.d (.bl (decide (j ≤ i))))) ⟨env, st⟩ Q) := ⟨rl_ge⟩
instance sl_eqI {i j : Int} : St (lft fun st => eqA st (.d (.int i)) (.d (.int j))) k ⟨env, st⟩ Q (Run (k (.d (.bl (decide (i = j))))) ⟨env, st⟩ Q) := ⟨rl_eqI⟩
instance sl_neBl {a b : Bool} : St (lft fun st => neA st (.d (.bl a)) (.d (.bl b))) k ⟨env, st⟩ Q (Run (k (.d (.bl (!decide (a = b))))) ⟨env, st⟩ Q) := ⟨rl_neBl⟩
instance sl_eqBl {a b : Bool} : St (lft fun st => eqA st (.d (.bl a)) (.d (.bl b))) k ⟨env, st⟩ Q (Run (k (.d (.bl (decide (a = b))))) ⟨env, st⟩ Q) := ⟨rl_eqBl⟩
instance sl_eqS {i j : Str} : St (lft fun st => eqA st (.d (.str i)) (.d (.str j))) k ⟨env, st⟩ Q (Run (k (.d (.bl (decide (i = j))))) ⟨env, st⟩ Q) := ⟨rl_eqS⟩
instance sl_neI {i j : Int} : St (lft fun st => neA st (.d (.int i)) (.d (.int j))) k ⟨env, st⟩ Q (Run (k (.d (.bl (!decide (i = j))))) ⟨env, st⟩ Q) := ⟨rl_neI⟩
instance sl_neS {i j : Str} : St (lft fun st => neA st (.d (.str i)) (.d (.str j))) k ⟨env, st⟩ Q (Run (k (.d (.bl (!decide (i = j))))) ⟨env, st⟩ Q) := ⟨rl_neS⟩
instance sl_isBl {a b : Bool} : St (lft fun st => isBl st (.d (.bl a)) (.d (.bl b))) k ⟨env, st⟩ Q (Run (k (.d (.bl (decide (a = b))))) ⟨env, st⟩ Q) := ⟨rl_isBl⟩
instance sl_isnBl {a b : Bool} : St (lft fun st => isnBl st (.d (.bl a)) (.d (.bl b))) k ⟨env, st⟩ Q (Run (k (.d (.bl (!decide (a = b))))) ⟨env, st⟩ Q) := ⟨rl_isnBl⟩
instance sl_isN {x : W} : St (lft fun st => isN st x (.d .non)) k ⟨env, st⟩ Q (Run (k (.d (.bl (isNonB x)))) ⟨env, st⟩ Q) := ⟨rl_isN⟩
instance sl_isnN {x : W} : St (lft fun st => isnN st x (.d .non)) k ⟨env, st⟩ Q (Run (k (.d (.bl (!isNonB x)))) ⟨env, st⟩ Q) := ⟨rl_isnN⟩
instance sl_ninC {c : Nat} {z : Str} : St (lft fun st => ninA st (.d (.str (chr1 c))) (.d (.str z))) k ⟨env, st⟩ Q (Run (k (.d (.bl (!decide (c ∈ z.cps.toList))))) ⟨env, st⟩ Q) := ⟨rl_ninC⟩
instance sl_inC {c : Nat} {z : Str} : St (lft fun st => inA st (.d (.str (chr1 c))) (.d (.str z))) k ⟨env, st⟩ Q (Run (k (.d (.bl (decide (c ∈ z.cps.toList))))) ⟨env, st⟩ Q) := ⟨rl_inC⟩
instance sl_intB {b : Bool} : St (lft fun st => intW st [.d (.bl b)]) k ⟨env, st⟩ Q (Run (k (.d (.int (if b then 1 else 0)))) ⟨env, st⟩ Q) := ⟨rl_intB⟩
instance sl_lenL {ds : List D} : St (lft fun st => lenW st [.d (.lst ds)]) k ⟨env, st⟩ Q (Run (k (.d (.int ds.length))) ⟨env, st⟩ Q) := ⟨rl_lenL⟩
instance sl_lenF {ds : List D} : St (lft fun st => lenW st [.d (.fls ds)]) k ⟨env, st⟩ Q (Run (k (.d (.int ds.length))) ⟨env, st⟩ Q) := ⟨rl_lenF⟩
instance sl_lenT {ds : List D} : St (lft fun st => lenW st [.d (.tup ds)]) k ⟨env, st⟩ Q (Run (k (.d (.int ds.length))) ⟨env, st⟩ Q) := ⟨rl_lenT⟩
instance sl_lenSs {zs : List Str} : St (lft fun st => lenW st [.d (strs' zs)]) k ⟨env, st⟩ Q (Run (k (.d (.int zs.length))) ⟨env, st⟩ Q) := ⟨rl_lenSs⟩
instance sl_listSs {zs : List Str} : St (lft fun st => listC false st [.d (strs' zs)]) k ⟨env, st⟩ Q (Run (k (.d (strs' zs))) ⟨env, st⟩ Q) := ⟨rl_listSs⟩
instance sl_listF {ds : List D} : St (lft fun st => listC false st [.d (.lst ds)]) k ⟨env, st⟩ Q (Run (k (.d (.lst ds))) ⟨env, st⟩ Q) := ⟨rl_listF⟩
instance sl_slSs {zs : List Str} {lo hi : Option Int} : St (lft fun st => sliceA false st (.d (strs' zs)) lo hi) k ⟨env, st⟩ Q (Run (k (.d (strs' (cutW zs lo hi)))) ⟨env, st⟩ Q) := ⟨rl_slSs⟩
instance sl_slI {zs : List Int} {lo hi : Option Int} : St (lft fun st => sliceA false st (.d (ints' zs)) lo hi) k ⟨env, st⟩ Q (Run (k (.d (ints' (cutW zs lo hi)))) ⟨env, st⟩ Q) := ⟨rl_slI⟩
instance sl_slL {zs : List D} {lo hi : Option Int} : St (lft fun st => sliceA false st (.d (.lst zs)) lo hi) k ⟨env, st⟩ Q (Run (k (.d (.lst (cutW zs lo hi)))) ⟨env, st⟩ Q) := ⟨rl_slL⟩
instance sl_slF {zs : List D} {lo hi : Option Int} : St (lft fun st => sliceA false st (.d (.fls zs)) lo hi) k ⟨env, st⟩ Q (Run (k (.d (.lst (cutW zs lo hi)))) ⟨env, st⟩ Q) := ⟨rl_slF⟩
instance sl_find {a b : Str} : St (lft fun st => findW st (.d (.str a)) [.d (.str b)]) k ⟨env, st⟩ Q (Run (k (.d (.int (Txt.find a b)))) ⟨env, st⟩ Q) := ⟨rl_find⟩
instance sl_newKF : St (lft (newK false [] [])) k ⟨env, st⟩ Q (Run (k (.d (.dct [] []))) ⟨env, st⟩ Q) := ⟨rl_newKF⟩
instance sl_ixC0 {a : Str} {r : List Str} : St (lft fun st => ixA st (.d (strs' (a :: r))) (.d (.int 0))) k ⟨env, st⟩ Q (Run (k (.d (.str a))) ⟨env, st⟩ Q) := ⟨rl_ixC0⟩
instance sl_ixC1 {a b : Str} {r : List Str} : St (lft fun st => ixA st (.d (strs' (a :: b :: r))) (.d (.int 1))) k ⟨env, st⟩ Q (Run (k (.d (.str b))) ⟨env, st⟩ Q) := ⟨rl_ixC1⟩
instance sl_ixC2 {a b c : Str} {r : List Str} : St (lft fun st => ixA st (.d (strs' (a :: b :: c :: r))) (.d (.int 2))) k ⟨env, st⟩ Q (Run (k (.d (.str c))) ⟨env, st⟩ Q) := ⟨rl_ixC2⟩
instance se_lnx {N : SS → Prop} {k : Fl → EM β} : Se (pur .nx) s (LoopQ N k Q) (N s) := ⟨lq_nx⟩
instance se_lcnt {N : SS → Prop} {k : Fl → EM β} : Se (pur .cnt) s (LoopQ N k Q) (N s) := ⟨lq_cnt⟩
instance se_lbrk {N : SS → Prop} {k : Fl → EM β} : Se (pur .brk) s (LoopQ N k Q) (Run (k .nx) s Q) := ⟨lq_brk⟩
instance se_lret {N : SS → Prop} {k : Fl → EM β} {w : W} : Se (pur (.ret w)) s (LoopQ N k Q) (Run (k (.ret w)) s Q) := ⟨lq_ret⟩
instance se_cno {N : SS → Prop} {Y : W → SS → Prop} : Se (pur none) s (CompQ N Y) (N s) := ⟨cq_no⟩
instance se_cyes {N : SS → Prop} {Y : W → SS → Prop} {w : W} : Se (pur (some w)) s (CompQ N Y) (Y w s) := ⟨cq_yes⟩
instance se_rd {P : D → Prop} {d : D} : Se (pur (.ret (.d d))) s (RetP P) (P d) := ⟨rp_d⟩
instance se_rnx {P : D → Prop} : Se (pur .nx) s (RetP P) (P .non) := ⟨rp_nx⟩
instance se_ev {Y : W → Prop} {w : W} : Se (pur w) s (EvQ s Y) (Y w) := ⟨ev_ok⟩
instance se_jnx {P : SS → Prop} : Se (pur .nx) s (JoinQ P) (P s) := ⟨jq_nx⟩
instance se_val {α : Type} {a : α} {Y : α → Prop} : Se (pur a) s (ValQ s Y) (Y a) := ⟨vq⟩
instance se_fnx {P : W → Store → Prop} : Se (pur .nx) ⟨env, st⟩ (RetF P) (P (.d .non) st) := ⟨rf_nx⟩
instance se_fret {P : W → Store → Prop} {w : W} : Se (pur (.ret w)) ⟨env, st⟩ (RetF P) (P w st) := ⟨rf_ret⟩
theorem gd_lft {α : Type} {f : Store → Option (α × Store)} {k : α → EM β} (h : Run (bnd (lft f) k) s Q) : Run (bnd (lft f) k) s Q := h
theorem gd_ite {α : Type} {b : Bool} {m1 m2 : EM α} {k : α → EM β} (h : Run (bnd (ite2 b m1 m2) k) s Q) : Run (bnd (ite2 b m1 m2) k) s Q := h
theorem gd_ix {x y : W} (h : Run (bnd (lft fun st => ixA st x y) k) s Q) : Run (bnd (lft fun st => ixA st x y) k) s Q := h
theorem gd_add {own : Bool} {x y : W} (h : Run (bnd (lft fun st => addA own st x y) k) s Q) : Run (bnd (lft fun st => addA own st x y) k) s Q := h
theorem gd_int {f : Int → Int → Option D} {x y : W} (h : Run (bnd (lft fun st => intF f st x y) k) s Q) : Run (bnd (lft fun st => intF f st x y) k) s Q := h
theorem gd_mul {own : Bool} {x y : W} (h : Run (bnd (lft fun st => mulA own st x y) k) s Q) : Run (bnd (lft fun st => mulA own st x y) k) s Q := h
end
end EV
namespace L2
open PySem PySem.Spec PyProof.Rows
section
variable {X : Cx} {pins : List (Addr × Obj)} {σ : St} {H : Hp} {s : Shared} {a : Addr} {o : HO}
end
def wManyV (K : PySem.W.Frag) (Wout : WX) (D : Ends) : List (Value × Nat × TS) → WX
  | [] => Wout
  | (c, i, ts) :: r => fun cls d σ H => ∃ b, PySem.W.exmOne K cls c = some b ∧
      (b = true → ∀ a, H a = none → ts { nx := fun σ' H' => D.nx (σ'.set i none) H', rt := D.rt, bk := fun σ' H' => D.bk (σ'.set i none) H', ct := fun σ' H' => D.ct (σ'.set i none) H' } (σ.set i (some (.ref a))) (upd H a (excT a cls d))) ∧
      (b = false → wManyV K Wout D r cls d σ H)
inductive HdsV (X : Cx) : List ExceptHandler → List (Value × Nat × TS) → Prop
  | nil : HdsV X [] []
  | cons {x n : Str} {c : Value} {i : Nat} {ts : TS} {b₀ : Stmt} {suite : List Stmt} {np pos' : Pos} {hds : List ExceptHandler} {l : List (Value × Nat × TS)} (hc : Names X x c) (hi : X.N[i]? = some n) (hln : X.env.kindOf n = some .local)
      (hsu : ∀ (a : Addr) (pn : List (Addr × Obj)), PSs (X.suite a pn) (b₀ :: suite) ts) (r : HdsV X hds l) :
      HdsV X (.ExceptHandler (some (.Name x np)) (some n) (b₀ :: suite) pos' :: hds) ((c, i, ts) :: l)
section
variable {X : Cx} {body : List Stmt} {h₀ : ExceptHandler} {hds : List ExceptHandler} {l : List (Value × Nat × TS)} {pos : Pos} {tb : WX → TS} {Wout : WX}
end
end L2
namespace EV
open PySem PySem.Spec PyProof.Rows L2
abbrev Hd := List Nat × Nat × EM Fl
def hdK (i : Nat) (h : EM Fl) (C : Nat) (ks : List Nat) (ds : List D) : EM Fl := fun s => match h ⟨s.env.set i (some (.d (.exc C ks ds))), s.st⟩ with
  | some (.ok f, s2) => some (.ok f, ⟨s2.env.set i none, s2.st⟩)
  | _ => none
def runH : List Hd → Nat → List Nat → List D → EM Fl
  | [], C, ks, ds => thr C ks ds
  | (cs, i, h) :: r, C, ks, ds => if cs.contains C then hdK i h C ks ds else runH r C ks ds
def tryS (known : List Nat) (m : EM Fl) (hds : List Hd) : EM Fl := fun s => match m s with
  | some (.ex C ks ds, s1) => if known.contains C then runH hds C ks ds s1 else none
  | some (.ok f, s1) => some (.ok f, s1)
  | none => none
def ExL (c : Kx) (cv : Value) (known cs : List Nat) : Prop := ∀ k ∈ known, ∀ C, c.ct[k]? = some C → PySem.W.exmOne c.K (.ref C) cv = some (cs.contains k)
inductive HdE (c : Kx) (X : Cx) (known : List Nat) : List ExceptHandler → List Hd → List (Value × Nat × TS) → Prop
  | nil : HdE c X known [] [] []
  | cons {x n : Str} {cv : Value} {i : Nat} {b₀ : Stmt} {suite : List Stmt} {np pos' : Pos} {hds : List ExceptHandler} {l : List Hd} {lv : List (Value × Nat × TS)} {cs : List Nat} {h : EM Fl} (hc : Names X x cv) (hi : X.N[i]? = some n) (hln : X.env.kindOf n = some .local)
      (he : ExL c cv known cs) (hsu : ∀ (a : Addr) (pn : List (Addr × Obj)), ESs c (X.suite a pn) (fun _ _ _ _ => False) (b₀ :: suite) h) (r : HdE c X known hds l lv) :
      HdE c X known (.ExceptHandler (some (.Name x np)) (some n) (b₀ :: suite) pos' :: hds) ((cs, i, h) :: l) ((cv, i, tS c (fun _ _ _ _ => False) h) :: lv)
section
variable {c : Kx} {X : Cx} {U : WX} {body : List Stmt} {h₀ : ExceptHandler} {hds : List ExceptHandler} {m : EM Fl} {pos : Pos}
end
def XfL (c : Kx) (f : Str) (known : List Nat) : Prop := ∀ k ∈ known, ∀ C, c.ct[k]? = some C → XfC c.K C ∧ PySem.W.findIn c.K (.ref C) f = some none
def xfldK (known : List Nat) (n i : Nat) (w : W) : EM W := fun s => match w with
  | .d (.exc C ks ds) => if known.contains C && ks.all (fun k => decide (k < n)) then match fget ks (ds.map .d) i with
    | some y => some (.ok y, s)
    | none => none
    else none
  | _ => none
def xfldE (known : List Nat) (n i : Nat) (m : EM W) : EM W := bnd m (xfldK known n i)
section
variable {c : Kx} {X : Cx} {U : WX} {e : Expr} {me : EM W} {pos : Pos}
end
section
variable {β : Type} {env : List (Option W)} {st : Store} {s : SS} {Q : Out β → SS → Prop}
def TryQ (hds : List Hd) (k : Fl → EM β) (Q : Out β → SS → Prop) (known : List Nat) : Out Fl → SS → Prop := fun o s => match o with
  | .ok f => Run (k f) s Q
  | .ex C ks ds => known.contains C = true ∧ Run (bnd (runH hds C ks ds) k) s Q
theorem rb_xfld {known : List Nat} {n i : Nat} {m : EM W} {k : W → EM β} (h : Run (bnd m fun w => bnd (xfldK known n i w) k) s Q) : Run (bnd (xfldE known n i m) k) s Q := rb_bnd h
instance st_xfld {known : List Nat} {n i : Nat} {m : EM W} {k : W → EM β} : St (xfldE known n i m) k s Q (Run (bnd m fun w => bnd (xfldK known n i w) k) s Q) := ⟨rb_xfld⟩
end
def RetX (C : Nat) (ks : List Nat) (es : List D) : Out Fl → SS → Prop := fun o _ => o = .ex C ks es
end EV
namespace L2
open PySem PySem.Spec PyProof.Rows
section
variable {X : Cx} {C : Addr} {bmB : List Value} {B newId initId : String}
end
def rNeLen (K : PySem.W.Frag) : R2 := fun x y H Q => ∃ a b xs ys, x = .ref a ∧ y = .ref b ∧ SqL K H a xs ∧ SqL K H b ys ∧ xs.length ≠ ys.length ∧ Q (.bl true) H
end L2
namespace EV
open PySem PySem.Spec PyProof.Rows L2
def neZ (st : Store) (x y : W) : Option (W × Store) := match listW st x, listW st y with
  | some ws, some us => if ws.length = us.length then neA st x y else some (.d (.bl true), st)
  | _, _ => neA st x y
def spX3 (C : Addr) (f1 f2 f3 : Str) : Sp := fun vs H Q _ => ∃ a y1 y2 y3, vs = [.ref a, y1, y2, y3] ∧ H a = some (exo a C none) ∧ ∀ dx, H dx = none → dx ≠ a → Q .non (upd (upd H dx (exd dx [(f3, y3), (f2, y2), (f1, y1)])) a (exo a C (some dx)))
theorem ExL.nil {c : Kx} {cv : Value} {cs : List Nat} : ExL c cv [] cs := fun _ h => by cases h
theorem ExL.cons {c : Kx} {cv : Value} {k : Nat} {ks cs : List Nat} {C0 : Addr} (hC : c.ct[k]? = some C0) (h : PySem.W.exmOne c.K (.ref C0) cv = some (cs.contains k)) (r : ExL c cv ks cs) : ExL c cv (k :: ks) cs := fun j hj C e => by
  rcases List.mem_cons.mp hj with rfl | hj
  · rw [hC] at e
    cases e
    exact h
  · exact r j hj C e
theorem XfL.nil {c : Kx} {f : Str} : XfL c f [] := fun _ h => by cases h
theorem XfL.cons {c : Kx} {f : Str} {k : Nat} {ks : List Nat} {C0 : Addr} (hC : c.ct[k]? = some C0) (h : XfC c.K C0) (h2 : PySem.W.findIn c.K (.ref C0) f = some none) (r : XfL c f ks) : XfL c f (k :: ks) := fun j hj C e => by
  rcases List.mem_cons.mp hj with rfl | hj
  · rw [hC] at e
    cases e
    exact ⟨h, h2⟩
  · exact r j hj C e
def allS (st : Store) : List W → Option (List D)
  | [] => some []
  | w :: r => match snapD st w, allS st r with
    | some d, some ds => some (d :: ds)
    | _, _ => none
def atomD : D → Bool
  | .non | .bl _ | .int _ | .str _ => true
  | _ => false
def gS (np : Nat) (F : FP) (ws : List W) : EM W := fun s => if ws.length = np then match allS s.st ws with
    | some ds => match F ds with
      | some (.ok d) => if atomD d then some (.ok (.d d), s) else none
      | _ => none
    | none => none
  else none
theorem allS_ok {c : Kx} {ρ : Rho} {G H : Hp} {st : Store} (r : RS c ρ G H st) : ∀ {ws : List W} {vs : List V} {ds : List D}, RepWs c ρ G ws vs → allS st ws = some ds → RepDs c H ds vs ∧ ds.length = ws.length
  | [], _, _, h, e => by cases h; cases e; exact ⟨.nil, rfl⟩
  | w :: ws, _, ds, ⟨v, vs, q, hv, t⟩, e => by
    subst q
    unfold allS at e
    cases h1 : snapD st w with
    | none => simp only [h1] at e; cases e
    | some d =>
      cases h2 : allS st ws with
      | none => simp only [h1, h2] at e; cases e
      | some ds' =>
        simp only [h1, h2] at e
        cases e
        obtain ⟨G', s', r'⟩ := snap_ok r hv h1
        obtain ⟨t1, t2⟩ := allS_ok r t h2
        exact ⟨.cons (r'.mono s') t1, congrArg (· + 1) t2⟩
end EV
namespace EV
open PySem PySem.Spec PyProof.Rows L2
def min2W (st : Store) : List W → Option (W × Store)
  | [.d (.int i), .d (.int j)] => some (.d (.int (if j < i then j else i)), st)
  | _ => none
def max2W (st : Store) : List W → Option (W × Store)
  | [.d (.int i), .d (.int j)] => some (.d (.int (if j > i then j else i)), st)
  | _ => none
theorem sn_min2 {c : Kx} : SN c (fun xs H Q => ∃ i j, xs = [.int i, .int j] ∧ Q (.int (if j < i then j else i)) H) min2W := fun ρ G H st xs w st' vs Q r rv e q => by
  unfold min2W at e
  split at e
  · cases e
    obtain ⟨v1, r1, rfl, h1, h2⟩ := rv
    obtain ⟨v2, r2, rfl, h3, h4⟩ := h2
    have h4 : r2 = [] := h4
    subst h4
    cases h1
    cases h3
    exact ⟨_, _, rfl, q _ ρ G H Stp.refl r (.int _)⟩
  · cases e
theorem sn_max2 {c : Kx} : SN c (fun xs H Q => ∃ i j, xs = [.int i, .int j] ∧ Q (.int (if j > i then j else i)) H) max2W := fun ρ G H st xs w st' vs Q r rv e q => by
  unfold max2W at e
  split at e
  · cases e
    obtain ⟨v1, r1, rfl, h1, h2⟩ := rv
    obtain ⟨v2, r2, rfl, h3, h4⟩ := h2
    have h4 : r2 = [] := h4
    subst h4
    cases h1
    cases h3
    exact ⟨_, _, rfl, q _ ρ G H Stp.refl r (.int _)⟩
  · cases e
section
variable {β : Type} {env : List (Option W)} {st : Store} {Q : Out β → SS → Prop} {k : W → EM β}
theorem rl_min2 {i j : Int} (h : Run (k (.d (.int (if j < i then j else i)))) ⟨env, st⟩ Q) : Run (bnd (lft fun st => min2W st [.d (.int i), .d (.int j)]) k) ⟨env, st⟩ Q := rb_lft rfl h
theorem rl_max2 {i j : Int} (h : Run (k (.d (.int (if j > i then j else i)))) ⟨env, st⟩ Q) : Run (bnd (lft fun st => max2W st [.d (.int i), .d (.int j)]) k) ⟨env, st⟩ Q := rb_lft rfl h
end
end EV
namespace EV
open PySem PySem.Spec PyProof.Rows L2
section
variable {β : Type} {s : SS} {Q : Out β → SS → Prop}
def WhQ (N : SS → Prop) (k : Fl → EM β) (Q : Out β → SS → Prop) : Out (Option Fl) → SS → Prop := fun o s' => match o with
  | .ok (some f) => LoopQ N k Q (.ok f) s'
  | .ok none => Run (k .nx) s' Q
  | .ex c ks vs => Q (.ex c ks vs) s'
theorem wq_no {N : SS → Prop} {k : Fl → EM β} (h : Run (k .nx) s Q) : Run (pur none) s (WhQ N k Q) := run_pur h
theorem wq_nx {N : SS → Prop} {k : Fl → EM β} (h : N s) : Run (pur (some .nx)) s (WhQ N k Q) := run_pur h
theorem wq_cnt {N : SS → Prop} {k : Fl → EM β} (h : N s) : Run (pur (some .cnt)) s (WhQ N k Q) := run_pur h
theorem wq_brk {N : SS → Prop} {k : Fl → EM β} (h : Run (k .nx) s Q) : Run (pur (some .brk)) s (WhQ N k Q) := run_pur h
theorem wq_ret {N : SS → Prop} {k : Fl → EM β} {w : W} (h : Run (k (.ret w)) s Q) : Run (pur (some (.ret w))) s (WhQ N k Q) := run_pur h
instance se_wno {N : SS → Prop} {k : Fl → EM β} : Se (pur none) s (WhQ N k Q) (Run (k .nx) s Q) := ⟨wq_no⟩
instance se_wnx {N : SS → Prop} {k : Fl → EM β} : Se (pur (some .nx)) s (WhQ N k Q) (N s) := ⟨wq_nx⟩
instance se_wcnt {N : SS → Prop} {k : Fl → EM β} : Se (pur (some .cnt)) s (WhQ N k Q) (N s) := ⟨wq_cnt⟩
instance se_wbrk {N : SS → Prop} {k : Fl → EM β} : Se (pur (some .brk)) s (WhQ N k Q) (Run (k .nx) s Q) := ⟨wq_brk⟩
instance se_wret {N : SS → Prop} {k : Fl → EM β} {w : W} : Se (pur (some (.ret w))) s (WhQ N k Q) (Run (k (.ret w)) s Q) := ⟨wq_ret⟩
end
section
variable {β : Type} {env env' : List (Option W)} {st : Store} {Q : Out β → SS → Prop} {k : W → EM β}
theorem all2_eqmap {α : Type} {g : α → D} {l : List α} {ws : List W} (h : All2 (fun a w => w = W.d (g a)) l ws) : ws = (l.map g).map W.d := by
  induction h with
  | nil => rfl
  | cons h _ ih => rw [h, ih]; rfl
theorem rb_compFM {α : Type} {f : α → D} {i : Nat} {tt : EM Bool} {el : EM W} {ownr : Bool} {l : List α} (p : α → Bool) (g : α → D) (he : env.set i none = env') (hl : l.length ≤ 16777216)
    (ht : ∀ a ∈ l, ∀ env1, env.set i (some (.d (f a))) = env1 → Run (bnd tt pur) ⟨env1, st⟩ (ValQ ⟨env1, st⟩ fun b => b = p a))
    (hs : ∀ a ∈ l, p a = true → ∀ env1, env.set i (some (.d (f a))) = env1 → Run (bnd el pur) ⟨env1, st⟩ (EvQ ⟨env1, st⟩ fun w => w = .d (g a)))
    (hd : Run (bnd (lft (newL ownr (((l.filter p).map g).map .d))) k) ⟨env', st⟩ Q) : Run (bnd (compK [i] (.name i) tt el ownr (l.map f)) k) ⟨env, st⟩ Q := by
  subst he
  have h0 : ∀ a : { a // a ∈ l }, tt ⟨env.set i (some (.d (f a.1))), st⟩ = some (.ok (p a.1), ⟨env.set i (some (.d (f a.1))), st⟩) := fun a => by
    obtain ⟨o, s', e1, h⟩ := run_bnd (ht a.1 a.2 _ rfl)
    cases o with
    | ok w =>
      obtain ⟨e2, e3⟩ := h
      subst e2 e3
      exact e1
    | ex _ _ _ => exact h.elim
  have h1 : ∀ a : { a // a ∈ l }, (fun a : { a // a ∈ l } => p a.1) a = true → ∃ w, el ⟨env.set i (some (.d (f a.1))), st⟩ = some (.ok w, ⟨env.set i (some (.d (f a.1))), st⟩) ∧ w = .d (g a.1) := fun a ha => by
    obtain ⟨o, s', e1, e2, h⟩ := run_bnd (hs a.1 a.2 ha _ rfl)
    subst e2
    cases o with
    | ok w => exact ⟨w, e1, h⟩
    | ex _ _ _ => exact h.elim
  obtain ⟨ws, x', h2, h3⟩ := compL_snd (env := env) (st := st) (f := fun a : { a // a ∈ l } => f a.1) (i := i) (tt := tt) (el := el) (fun a w => w = .d (g a.1)) (fun a => p a.1) h0 h1 l.attach [] env[i]?.join (by simpa using hl)
  have e0 : env.set i env[i]?.join = env := by
    apply List.ext_getElem?
    intro j
    by_cases hj : i = j
    · subst hj
      by_cases hlt : i < env.length
      · rw [List.getElem?_set_self hlt, List.getElem?_eq_getElem hlt]
        rfl
      · rw [List.set_eq_of_length_le (by omega)]
    · rw [List.getElem?_set_ne hj]
  rw [e0] at h2
  have e3 : l.attach.map (fun a : { a // a ∈ l } => f a.1) = l.map f := List.attach_map_val
  rw [e3, List.nil_append] at h2
  have h4 := all2_eqmap (g := fun a : { a // a ∈ l } => g a.1) h3
  have e5 : (l.attach.filter fun a => p a.1).map (fun a : { a // a ∈ l } => g a.1) = (l.filter p).map g := by
    have q1 : l.filter p = (l.attach.filter fun a => p a.1).map (fun a : { a // a ∈ l } => a.1) := by
      have := List.filter_map (p := p) (f := fun a : { a // a ∈ l } => a.1) (l := l.attach)
      have q2 : l.attach.map (fun a : { a // a ∈ l } => a.1) = l := by simp
      rw [q2] at this
      exact this
    rw [q1, List.map_map]
    rfl
  rw [e5] at h4
  subst h4
  obtain ⟨o, s2, e7, q⟩ := hd
  refine ⟨o, s2, ?_, q⟩
  rw [← e7]
  unfold bnd lft compK
  simp only [h2]
  have e8 : wipeO (env.set i x') [i] = env.set i none := by
    show (env.set i x').set i none = _
    rw [List.set_set]
  cases newL ownr (((l.filter p).map g).map .d) st with
  | none => rfl
  | some q =>
    obtain ⟨w, st3⟩ := q
    simp only [e8]
theorem rb_compMM {α : Type} {f : α → D} {i : Nat} {el : EM W} {ownr : Bool} {l : List α} (g : α → D) (he : env.set i none = env') (hl : l.length ≤ 16777216)
    (hs : ∀ a ∈ l, ∀ env1, env.set i (some (.d (f a))) = env1 → Run (bnd el pur) ⟨env1, st⟩ (EvQ ⟨env1, st⟩ fun w => w = .d (g a)))
    (hd : Run (bnd (lft (newL ownr ((l.map g).map .d))) k) ⟨env', st⟩ Q) : Run (bnd (compK [i] (.name i) (pur true) el ownr (l.map f)) k) ⟨env, st⟩ Q := by
  refine rb_compFM (fun _ => true) g he hl (fun a _ env1 _ => run_pur ⟨rfl, rfl⟩) (fun a h _ => hs a h) ?_
  rw [List.filter_eq_self.mpr fun _ _ => rfl]
  exact hd
end
end EV
namespace EV
open PySem PySem.Spec PyProof.Rows L2
def snapW (st : Store) : Option W → Option W
  | some w => match snapD st w with
    | some d => some (.d d)
    | none => none
  | none => none
def snapV (s : SS) : SS := ⟨s.env.map (snapW s.st), []⟩
def snapE (m : EM W) : EM W := fun s => match m (snapV s) with
  | some (.ok (.d d), _) => if atomD d then some (.ok (.d d), s) else none
  | _ => none
section
variable {c : Kx} {X : Cx} {U : WX} {pos : Pos}
def snapB (m : EM Bool) : EM Bool := fun s => match m (snapV s) with
  | some (.ok b, _) => some (.ok b, s)
  | _ => none
def loopZ (t : Tg) (body : EM Fl) (w : W) (ys : List D) : Nat → Nat → EM Fl
  | 0, _ => non
  | n + 1, i => fun s => match lstO s.st w with
    | none => none
    | some ws => match ws[i]?, ys[i]? with
      | some (.d x), some y => bnd (bnd (asg t (.d (.tup [x, y]))) fun _ => body) (fun f => match f with
        | .nx => loopZ t body w ys n (i + 1)
        | .cnt => loopZ t body w ys n (i + 1)
        | .brk => pur .nx
        | .ret u => pur (.ret u)) s
      | some (.loc _), some _ => none
      | _, _ => pur .nx s
def zpK (n : Nat) (t : Tg) (body : EM Fl) : List W → EM Fl
  | [w, .d y] => match listD y with
    | some ys => loopZ t body w ys n 0
    | none => non
  | _ => non
def forZ (n : Nat) (m : EM (List W)) (t : Tg) (body : EM Fl) : EM Fl := bnd m (zpK n t body)
end
section
variable {β : Type} {env env' : List (Option W)} {st st' : Store} {s : SS} {Q : Out β → SS → Prop}
end
end EV
namespace EV
open PySem PySem.Spec PyProof.Rows L2
def leS (a b : Str) : Bool := !ltCps b.cps.toList a.cps.toList
theorem leS_iff {a b : Str} : leS a b = true ↔ a.cps.toList ≤ b.cps.toList := by
  unfold leS
  rw [ltCps_eq, Bool.not_eq_true', decide_eq_false_iff_not]
  exact Iff.rfl
theorem leS_trans {a b c : Str} (h : leS a b = true) (k : leS b c = true) : leS a c = true := leS_iff.mpr (List.le_trans (leS_iff.mp h) (leS_iff.mp k))
def srtS (zs : List Str) : List Str := zs.mergeSort leS
theorem rising_pw : ∀ (p : Str) (l : List Str), risingS p l = true → (p :: l).Pairwise fun a b => leS a b = true
  | p, [], _ => List.pairwise_singleton _ _
  | p, x :: r, h => by
    have h : (!ltCps x.cps.toList p.cps.toList && risingS x r) = true := h
    rw [Bool.and_eq_true] at h
    have ih := rising_pw x r h.2
    have hp : leS p x = true := h.1
    refine List.pairwise_cons.mpr ⟨fun y hy => ?_, ih⟩
    rcases List.mem_cons.mp hy with rfl | hy
    · exact hp
    · exact leS_trans hp ((List.pairwise_cons.mp ih).1 y hy)
def keysS : List Key → Option (List Str)
  | [] => some []
  | .inr z :: r => match keysS r with
    | some zs => some (z :: zs)
    | none => none
  | .inl _ :: _ => none
theorem keysS_eq : ∀ {ks : List Key} {zs : List Str}, keysS ks = some zs → ks = zs.map Sum.inr
  | [], _, h => by cases h; rfl
  | .inr z :: r, _, h => by
    unfold keysS at h
    cases e : keysS r with
    | none => simp only [e] at h; cases h
    | some zs =>
      simp only [e] at h
      cases h
      rw [keysS_eq e]
      rfl
  | .inl _ :: _, _, h => by cases h
def sortedC (own : Bool) (st : Store) : List W → Option (W × Store)
  | [w] => match dctW st w with
    | some (ks, _) => match keysS ks with
      | some zs => if zs.length < 64 then newL own ((srtS zs).map fun z => .d (.str z)) st else none
      | none => none
    | none => none
  | _ => none
theorem rep_strs {c : Kx} {ρ : Rho} {G : Hp} : ∀ zs : List Str, RepWs c ρ G (zs.map fun z => W.d (.str z)) (zs.map V.str)
  | [] => rfl
  | z :: r => ⟨_, _, rfl, .str z, rep_strs r⟩
section
variable {β : Type} {env : List (Option W)} {st : Store} {Q : Out β → SS → Prop} {k : W → EM β}
end
end EV
namespace L2
open PySem PySem.Spec PyProof.Rows
section
variable {X : Cx}
def NFz (X : Cx) (d : Addr) : Prop := ∀ o' u', X.H_0 d ≠ some (.frz o' u')
def unlD (X : Cx) (D : Ends) : Ends := ⟨fun σ' H' => ∃ d o u, NFz X d ∧ H' d = some (.frz o u) ∧ D.nx σ' (upd H' d u), fun v H' => ∃ d o u, NFz X d ∧ H' d = some (.frz o u) ∧ D.rt v (upd H' d u), fun σ' H' => ∃ d o u, NFz X d ∧ H' d = some (.frz o u) ∧ D.bk σ' (upd H' d u), fun σ' H' => ∃ d o u, NFz X d ∧ H' d = some (.frz o u) ∧ D.ct σ' (upd H' d u)⟩
def tUnl (X : Cx) (t : TS) : TS := fun D σ H => t (unlD X D) σ H
def iKeysL (X : Cx) (td : TE) : TI := fun σ H R => td σ H fun x H1 => ∃ d kvs, x = .ref d ∧ H1 d = some (.dK kvs) ∧ ∀ o, NFz X d → R (Itk d o kvs) (upd H1 d (.frz o (.dK kvs)))
end
end L2
namespace EV
open PySem PySem.Spec PyProof.Rows L2
def kyK (t : Tg) (body : EM Fl) : W → EM Fl
  | .loc n => fun s => match s.st[n]? with
    | some (some (.dct ks ws)) => match loopS t body (ks.map kyD) ⟨s.env, s.st.set n none⟩ with
      | some (.ok f, s2) => some (.ok f, ⟨s2.env, s2.st.set n (some (.dct ks ws))⟩)
      | _ => none
    | _ => none
  | _ => non
def forK (mi : EM W) (t : Tg) (body : EM Fl) : EM Fl := bnd mi (kyK t body)
section
variable {c : Kx} {X : Cx} {U : WX} {body : List Stmt} {m : EM Fl} {pos : Pos}
end
section
variable {β : Type} {env : List (Option W)} {st st1 : Store} {s : SS} {Q : Out β → SS → Prop} {k : Fl → EM β}
def KyQ (n : Nat) (o : OO) (k : Fl → EM β) (Q : Out β → SS → Prop) : Out Fl → SS → Prop := fun x s => match x with
  | .ok f => Run (k f) ⟨s.env, s.st.set n (some o)⟩ Q
  | _ => False
end
end EV
namespace EV
open PySem PySem.Spec PyProof.Rows L2
def FR (o : Out W) (st' : Store) : Out Fl → SS → Prop := fun x s => s.st = st' ∧ match x with
  | .ok .nx => o = .ok (.d .non)
  | .ok (.ret w) => o = .ok w
  | .ex c ks vs => o = .ex c ks vs
  | _ => False
section
variable {β : Type} {env : List (Option W)} {st st' : Store} {s : SS} {Q : Out β → SS → Prop} {k : W → EM β}
theorem fr_nx {o : Out W} (h : o = .ok (.d .non) ∧ st = st') : Run (pur .nx) ⟨env, st⟩ (FR o st') := run_pur ⟨h.2, h.1⟩
theorem fr_ret {o : Out W} {w : W} (h : o = .ok w ∧ st = st') : Run (pur (.ret w)) ⟨env, st⟩ (FR o st') := run_pur ⟨h.2, h.1⟩
instance se_frnx {o : Out W} : Se (pur .nx) ⟨env, st⟩ (FR o st') (o = .ok (.d .non) ∧ st = st') := ⟨fr_nx⟩
instance se_frret {o : Out W} {w : W} : Se (pur (.ret w)) ⟨env, st⟩ (FR o st') (o = .ok w ∧ st = st') := ⟨fr_ret⟩
def OutQ (k : W → EM β) (Q : Out β → SS → Prop) (s : SS) : Out W → Prop
  | .ok w => Run (k w) s Q
  | .ex C ks es => Q (.ex C ks es) s
theorem rb_gFo {np : Nat} {F : FF} {ws : List W} {o : Out W} (hn : ws.length = np) (h : F ws st = some (o, st')) (hk : OutQ k Q ⟨env, st'⟩ o) : Run (bnd (gF np F (ws ++ [])) k) ⟨env, st⟩ Q := by
  have e1 : gF np F (ws ++ []) ⟨env, st⟩ = outF (some (o, st')) ⟨env, st⟩ := by
    unfold gF callF
    rw [List.append_nil, if_pos hn, bnd_pur]
    show outF (F ws st) ⟨env, st⟩ = _
    rw [h]
  cases o with
  | ok w => exact rb_eq e1 hk
  | ex C ks es => exact ⟨_, _, bnd_ex e1, hk⟩
theorem rb_gFk {np : Nat} {F : FF} {ws : List W} {w : W} (hn : ws.length = np) (h : F ws st = some (.ok w, st')) (hk : Run (k w) ⟨env, st'⟩ Q) : Run (bnd (gF np F (ws ++ [])) k) ⟨env, st⟩ Q := rb_gFo hn h hk
end
abbrev AL := List (Str × Str)
def dk (N : AL) : List Key := N.map fun p => Sum.inr p.1
def dw (N : AL) : List W := N.map fun p => W.d (.str p.2)
def dd (N : AL) : List D := N.map fun p => D.str p.2
def getA : AL → Str → Option Str
  | [], _ => none
  | p :: r, z => if p.1 = z then some p.2 else getA r z
def putA (N : AL) (z v : Str) : AL := if (N.any fun p => decide (p.1 = z)) = true then N.map (fun p => if p.1 = z then (p.1, v) else p) else N ++ [(z, v)]
theorem valW_al : ∀ (N : AL) (z : Str), valW (dk N) (dw N) (.inr z) = (getA N z).map fun v => W.d (.str v)
  | [], _ => rfl
  | p :: r, z => by
    have ih := valW_al r z
    show (if (Sum.inr p.1 : Key) = .inr z then some (W.d (.str p.2)) else valW (dk r) (dw r) (.inr z)) = (if p.1 = z then some p.2 else getA r z).map _
    by_cases h : p.1 = z
    · rw [if_pos h, if_pos (by rw [h])]
      rfl
    · rw [if_neg h, if_neg fun e => h (Sum.inr.inj e)]
      exact ih
theorem getA_mem : ∀ {N : AL} {z v : Str}, getA N z = some v → (z, v) ∈ N
  | p :: r, z, v, h => by
    unfold getA at h
    split at h
    · rename_i e
      cases h
      subst e
      exact List.mem_cons_self
    · exact List.mem_cons_of_mem _ (getA_mem h)
theorem getA_some : ∀ {N : AL} {z : Str}, z ∈ N.map Prod.fst → ∃ v, getA N z = some v
  | p :: r, z, h => by
    unfold getA
    by_cases e : p.1 = z
    · exact ⟨_, if_pos e⟩
    · rw [if_neg e]
      refine getA_some ?_
      rcases List.mem_cons.mp h with h | h
      · exact absurd h.symm e
      · exact h
section
variable {β : Type} {env : List (Option W)} {st st' : Store} {Q : Out β → SS → Prop} {k : W → EM β}
end
end EV
namespace EV
open PySem PySem.Spec PyProof.Rows L2
def ixOf (y : Str) : List Str → Option Nat
  | [] => none
  | z :: zs => if z = y then some 0 else (ixOf y zs).map (· + 1)
theorem ixOf_ok {y : Str} : ∀ {zs : List Str} {j : Nat}, ixOf y zs = some j → zs[j]? = some y ∧ ∀ m z, m < j → zs[m]? = some z → ¬ z = y
  | [], _, h => by cases h
  | z :: zs, j, h => by
    unfold ixOf at h
    by_cases e : z = y
    · rw [if_pos e] at h
      cases h
      exact ⟨by rw [e]; rfl, fun m z' hm => absurd hm (Nat.not_lt_zero _)⟩
    · rw [if_neg e] at h
      cases q : ixOf y zs with
      | none => rw [q] at h; cases h
      | some i =>
        rw [q] at h
        cases h
        obtain ⟨h1, h2⟩ := ixOf_ok q
        refine ⟨h1, fun m z' hm hz => ?_⟩
        cases m with
        | zero => cases hz; exact e
        | succ m => exact h2 m z' (Nat.lt_of_succ_lt_succ hm) hz
def indexW (st : Store) (o : W) : List W → Option (W × Store)
  | [.d (.str y)] => match o with
    | .d d => match listD d with
      | some ds => match strsD ds with
        | some zs => match ixOf y zs with
          | some j => some (.d (.int (j : Int)), st)
          | none => none
        | none => none
      | none => none
    | _ => none
  | _ => none
section
variable {c : Kx}
def revW (st : Store) (o : W) : List W → Option (W × Store)
  | [] => wrL st o fun ws => some (ws.reverse, .d .non)
  | _ => none
theorem RepWs.rev {ρ : Rho} {G : Hp} : ∀ {ws : List W} {vs : List V}, RepWs c ρ G ws vs → RepWs c ρ G ws.reverse vs.reverse
  | [], vs, h => by
    have h : vs = [] := h
    subst h
    rfl
  | w :: ws, vs, h => by
    obtain ⟨v, r, rfl, h1, h2⟩ := h
    rw [List.reverse_cons, List.reverse_cons]
    exact (RepWs.rev h2).app ⟨v, [], rfl, h1, rfl⟩
end
section
variable {β : Type} {env : List (Option W)} {st : Store} {Q : Out β → SS → Prop} {k : W → EM β}
end
end EV
namespace L2
open PySem PySem.Spec PyProof.Rows
def rNeSame (K : PySem.W.Frag) : R2 := fun x y H Q => ∃ a b xs, x = .ref a ∧ y = .ref b ∧ SqL K H a xs ∧ SqL K H b xs ∧ (∀ x ∈ xs, ∃ p, x = V.ref p) ∧ Q (.bl false) H
def tCpy (K : PySem.W.Frag) (j : Nat) : TE := fun σ H Q => ∃ p ys, σ[j]? = some (some (.ref p)) ∧ SqL K H p ys ∧ ∀ l, H l = none → Q (.ref l) (upd H l (.lst ys))
end L2
namespace EV
open PySem PySem.Spec PyProof.Rows L2
def isIns : D → Bool
  | .ins _ _ _ => true
  | _ => false
def cpyW (i j : Nat) : EM W := fun s => match s.env[j]? with
  | some (some (.d (.lst ds))) => if ds.all isIns && decide (i < s.env.length) then some (.ok (.d (.lst ds)), s) else none
  | _ => none
def copyQ (i j k : Nat) (me : EM W) (mb : EM Bool) (m1 m2 r : EM Fl) : EM Fl :=
  sq (asgS (.name i) (cpyW i j)) (sq (asgS (.name k) me) (sq (ifE mb m1 m2) r))
section
variable {c : Kx} {X : Cx} {U : WX} {rest body orelse : List Stmt} {e b : Expr} {bs : List Expr} {m1 m2 r : EM Fl} {me : EM W} {mb : EM Bool} {pos pos1 pos2 pos3 pos4 pos5 p1 p2 p3 p4 p5 p6 : Pos}
end
end EV
namespace EV
open PySem PySem.Spec PyProof.Rows L2
def tupC (st : Store) : List W → Option (W × Store)
  | [w] => match listW st w with
    | some ws => match allD ws with
      | some ds => some (.d (.tup ds), st)
      | none => none
    | none => match w with
      | .d (.tup ds) => some (.d (.tup ds), st)
      | _ => none
  | _ => none
section
variable {β : Type} {env : List (Option W)} {st : Store} {Q : Out β → SS → Prop} {k : W → EM β}
end
end EV
namespace EV
open PySem PySem.Spec PyProof.Rows L2
def DLike (kvs : List (Key × V)) (u : HO) : Prop := u = .dK kvs ∨ ∃ o, u = .frz o (.dK kvs)
section
variable {c : Kx} {G H : Hp} {d : Addr} {u' : HO} {kvs : List (Key × V)} {ρ : Rho} {st : Store} {σ : L2.St} {s : SS}
theorem upd_other {a : Addr} {u : HO} (h : Rd G d (.dK kvs)) (e : G a = some u) (hu : ∀ k, u ≠ .dK k) (hu2 : ∀ q k, u ≠ .frz q (.dK k)) : upd G d u' a = some u := by
  have : a ≠ d := fun z => by
    subst z
    rcases h with h | ⟨q, h⟩
    · rw [h] at e
      cases e
      exact hu _ rfl
    · rw [h] at e
      cases e
      exact hu2 _ _ rfl
  rw [upd_ne this]
  exact e
theorem SqT.lock {K : PySem.W.Frag} {a : Addr} {xs : List V} (h : Rd G d (.dK kvs)) (e : SqT K G a xs) : SqT K (upd G d u') a xs := by
  rcases e with (e | ⟨q, e⟩) | e
  · exact .inl (.inl (upd_other h e (fun _ => by simp) fun _ _ => by simp))
  · exact .inl (.inr ⟨q, upd_other h e (fun _ => by simp) fun _ _ => by simp⟩)
  · exact .inr e
theorem SqL.lock {K : PySem.W.Frag} {a : Addr} {xs : List V} (h : Rd G d (.dK kvs)) (e : SqL K G a xs) : SqL K (upd G d u') a xs := by
  rcases e with (e | ⟨q, e⟩) | e
  · exact .inl (.inl (upd_other h e (fun _ => by simp) fun _ _ => by simp))
  · exact .inl (.inr ⟨q, upd_other h e (fun _ => by simp) fun _ _ => by simp⟩)
  · exact .inr e
theorem Rd.lock {a : Addr} {ks : List (Key × V)} (hu : DLike kvs u') (h : Rd G d (.dK kvs)) (e : Rd G a (.dK ks)) : Rd (upd G d u') a (.dK ks) := by
  by_cases z : a = d
  · subst z
    have ek : ks = kvs := by
      rcases e with e | ⟨q, e⟩ <;> rcases h with h | ⟨q', h⟩ <;> rw [h] at e <;> cases e <;> rfl
    subst ek
    rcases hu with rfl | ⟨o, rfl⟩
    · exact .inl upd_same
    · exact .inr ⟨o, upd_same⟩
  · rcases e with e | ⟨q, e⟩
    · exact .inl (by rw [upd_ne z]; exact e)
    · exact .inr ⟨q, by rw [upd_ne z]; exact e⟩
theorem Rd.lockT {a : Addr} {ks : List (List Key × V)} (h : Rd G d (.dK kvs)) (e : Rd G a (.dT ks)) : Rd (upd G d u') a (.dT ks) := by
  rcases e with e | ⟨q, e⟩
  · exact .inl (upd_other h e (fun _ => by simp) fun _ _ => by simp)
  · exact .inr ⟨q, upd_other h e (fun _ => by simp) fun _ _ => by simp⟩
theorem Capt.lock {cl : List (Str × Addr)} {fr : List Str} {vs : List V} (h : Rd G d (.dK kvs)) (x : Capt G cl fr vs) : Capt (upd G d u') cl fr vs :=
  ⟨x.len, fun y a e => let ⟨u, z⟩ := x.all y a e; ⟨u, upd_other h z (fun _ => by unfold CellO; simp) fun _ _ => by unfold CellO; simp⟩, x.inj, fun i y e => let ⟨a, v, u, h1, h2, h3, h4⟩ := x.has i y e; ⟨a, v, u, h1, h2, h3, upd_other h h4 (fun _ => by unfold CellO; simp) fun _ _ => by unfold CellO; simp⟩⟩
mutual
theorem RepD.lock (hu : DLike kvs u') (h : Rd G d (.dK kvs)) : ∀ {x : D} {v : V}, RepD c G x v → RepD c (upd G d u') x v
  | _, _, .non => .non
  | _, _, .bl b => .bl b
  | _, _, .int i => .int i
  | _, _, .str x => .str x
  | _, _, .ref a => .ref a
  | _, _, .ty n => .ty n
  | _, _, .lst e r => .lst (upd_other h e (fun _ => by simp) fun _ _ => by simp) (RepDs.lock hu h r)
  | _, _, .fls e r => .fls (SqL.lock h e) (RepDs.lock hu h r)
  | _, _, .tup e r => .tup (SqT.lock h e) (RepDs.lock hu h r)
  | _, _, .dct e l r => .dct (Rd.lock hu h e) l (RepDs.lock hu h r)
  | _, _, .dtt e l r => .dtt (Rd.lockT h e) l (RepDs.lock hu h r)
  | _, _, .ins hc f e e2 l r => .ins hc f (upd_other h e (fun _ => by simp) fun _ _ => by simp) (upd_other h e2 (fun _ => by simp) fun _ _ => by simp) l (RepDs.lock hu h r)
  | _, _, .clo k e e2 q r => .clo k (upd_other h e (fun _ => by unfold NdefX.FnO; simp) fun _ _ => by unfold NdefX.FnO; simp) (upd_other h e2 (fun _ => by unfold LamX.CodeO; simp) fun _ _ => by unfold LamX.CodeO; simp) (q.lock h) (RepDs.lock hu h r)
  | _, _, .exc0 hc e => .exc0 hc (upd_other h e (fun _ => by unfold excT; simp) fun _ _ => by unfold excT; simp)
  | _, _, .excD hc e e2 l r => .excD hc (upd_other h e (fun _ => by unfold excT; simp) fun _ _ => by unfold excT; simp) (upd_other h e2 (fun _ => by simp) fun _ _ => by simp) l (RepDs.lock hu h r)
theorem RepDs.lock (hu : DLike kvs u') (h : Rd G d (.dK kvs)) : ∀ {xs : List D} {vs : List V}, RepDs c G xs vs → RepDs c (upd G d u') xs vs
  | _, _, .nil => .nil
  | _, _, .cons a b => .cons (RepD.lock hu h a) (RepDs.lock hu h b)
end
theorem RepW.lock (hu : DLike kvs u') (h : Rd G d (.dK kvs)) : ∀ {w : W} {v : V}, RepW c ρ G w v → RepW c ρ (upd G d u') w v
  | .d _, _, r => RepD.lock hu h r
  | .loc _, _, r => r
theorem RepWs.lock (hu : DLike kvs u') (h : Rd G d (.dK kvs)) : ∀ {ws : List W} {vs : List V}, RepWs c ρ G ws vs → RepWs c ρ (upd G d u') ws vs
  | [], _, r => r
  | _ :: _, _, ⟨v, r, q, a, t⟩ => ⟨v, r, q, RepW.lock hu h a, RepWs.lock hu h t⟩
theorem OwnOk.lock {p : Addr × Addr} (hu : DLike kvs u') (h : Rd G d (.dK kvs)) (h1 : p.1 ≠ d) (h2 : p.2 ≠ d) : ∀ {o : OO}, OwnOk c ρ G H p o → OwnOk c ρ (upd G d u') (upd H d u') p o
  | .tup _, ⟨q, vs, a, r⟩ => ⟨q, vs, by rw [upd_ne h1]; exact a, RepWs.lock hu h r⟩
  | .lst _, ⟨q, vs, a, r⟩ => ⟨q, vs, by rw [upd_ne h1]; exact a, RepWs.lock hu h r⟩
  | .dct _ _, ⟨q, k, vs, a, r⟩ => ⟨q, k, vs, by rw [upd_ne h1]; exact a, RepWs.lock hu h r⟩
  | .dtt _ _, ⟨q, k, vs, a, r⟩ => ⟨q, k, vs, by rw [upd_ne h1]; exact a, RepWs.lock hu h r⟩
  | .ins _ _ _, ⟨k, C, vs, a, f, b, e, r⟩ => ⟨k, C, vs, a, f, by rw [upd_ne h1]; exact b, by rw [upd_ne h2]; exact e, RepWs.lock hu h r⟩
  | .tab, ⟨q, q2, ps, a, t, k⟩ => ⟨q, q2, ps, by rw [upd_ne h1]; exact a, t, fun pos cv hc => let ⟨b, e1, e2⟩ := k pos cv hc; ⟨b, e1, upd_other h e2 (fun _ => by unfold LamX.CodeO; simp) fun _ _ => by unfold LamX.CodeO; simp⟩⟩
theorem Rd.some {u : HO} (h : Rd G d u) : ∃ w, G d = some w := by
  rcases h with h | ⟨o, h⟩
  · exact ⟨_, h⟩
  · exact ⟨_, h⟩
theorem RS.lock (hu : DLike kvs u') (h : Rd G d (.dK kvs)) (r : RS c ρ G H st) : RS c ρ (L2.upd G d u') (L2.upd H d u') st where
  sub := fun a u e => by
    by_cases z : a = d
    · subst z
      rw [upd_same] at e ⊢
      exact e
    · rw [upd_ne z] at e ⊢
      exact r.sub a u e
  len := r.len
  own := fun n p o hp ho => by
    obtain ⟨b1, b2, b3⟩ := r.own n p o hp ho
    obtain ⟨w, hw⟩ := Rd.some h
    have h1 : p.1 ≠ d := fun z => by rw [z, hw] at b1; cases b1
    have h2 : p.2 ≠ d := fun z => by rw [z, hw] at b2; cases b2
    exact ⟨by rw [upd_ne h1]; exact b1, by rw [upd_ne h2]; exact b2, b3.lock hu h h1 h2⟩
  inj := r.inj
theorem R.lock (hu : DLike kvs u') (h : Rd G d (.dK kvs)) (r : R c ρ G σ H s) : R c ρ (upd G d u') σ (upd H d u') s :=
  ⟨r.rs.lock hu h, fun i w e => by
    obtain ⟨v, h1, h2⟩ := r.env i w e
    exact ⟨v, h1, h2.lock hu h⟩, r.len⟩
end
end EV
namespace L2
open PySem PySem.Spec PyProof.Rows
section
variable {X : Cx}
def iKeysB (X : Cx) (td : TE) : TI := fun σ H R => td σ H fun x H1 => ∃ d kvs, x = .ref d ∧ ((∃ o, H1 d = some (.frz o (.dK kvs)) ∧ R (Itk d o kvs) H1) ∨ (H1 d = some (.dK kvs) ∧ ∀ o, NFz X d → R (Itk d o kvs) (upd H1 d (.frz o (.dK kvs)))))
def tUnlE (X : Cx) (t : TE) : TE := fun σ H Q => t σ H fun v H' => Q v H' ∨ ∃ d o u, NFz X d ∧ H' d = some (.frz o u) ∧ Q v (upd H' d u)
def unlB (X : Cx) (D : Ends) : Ends := ⟨fun σ' H' => D.nx σ' H' ∨ ∃ d o u, NFz X d ∧ H' d = some (.frz o u) ∧ D.nx σ' (upd H' d u), fun v H' => D.rt v H' ∨ ∃ d o u, NFz X d ∧ H' d = some (.frz o u) ∧ D.rt v (upd H' d u), fun σ' H' => D.bk σ' H' ∨ ∃ d o u, NFz X d ∧ H' d = some (.frz o u) ∧ D.bk σ' (upd H' d u), fun σ' H' => D.ct σ' H' ∨ ∃ d o u, NFz X d ∧ H' d = some (.frz o u) ∧ D.ct σ' (upd H' d u)⟩
end
end L2
namespace EV
open PySem PySem.Spec PyProof.Rows L2
def compKy (own : List Nat) (me : EM W) (t : Tg) (tt : EM Bool) (el : EM W) (ownr : Bool) : EM W := bnd me fun w => match w with
  | .d (.dct ks _) => compK own t tt el ownr (ks.map kyD)
  | _ => non
section
variable {c : Kx} {X : Cx} {U : WX} {tg iter elt t1 : Expr} {ifs : List Expr} {scope : Scope} {own : List (Str × Nat)} {pos : Pos} {me : EM W} {t : Tg} {tt : EM Bool} {el : EM W} {ownr : Bool}
section
variable (hc : X.calm = true) (hN : X.N.Nodup) (hi : EE c X U iter me) (ok : BlkOk X.N X.env.scope scope own) (hsub : ∀ i ∈ t.is, i ∈ own.map (·.2))
    (hg : ∀ (s : Shared) (H : Hp) (C : Addr) (cl : List (Str × Addr)) (fp : List Addr), EG c (X.blk s H scope (compEnvC scope cl C X.env) fp) tg t) (ht : ∀ (s : Shared) (H : Hp) (C : Addr) (cl : List (Str × Addr)) (fp : List Addr), ETs c (X.blk s H scope (compEnvC scope cl C X.env) fp) ifs tt)
    (he : ∀ (s : Shared) (H : Hp) (C : Addr) (cl : List (Str × Addr)) (fp : List Addr), EE c (X.blk s H scope (compEnvC scope cl C X.env) fp) U0 elt el)
include hc hN hi ok hsub hg ht he
end
end
section
variable {β : Type} {s : SS} {Q : Out β → SS → Prop} {k : W → EM β}
end
end EV
namespace EV
open PySem PySem.Spec PyProof.Rows L2
abbrev KT := List Key
def keysL : List W → Option KT
  | [] => some []
  | w :: ws => match kyW w, keysL ws with
    | some k, some ks => some (k :: ks)
    | _, _ => none
def keyT (st : Store) : W → Option KT
  | .loc n => match st[n]? with
    | some (some (.tup ws)) => keysL ws
    | _ => none
  | _ => none
def dttW (st : Store) : W → Option (List KT × List W)
  | .d (.dtt ks ds) => some (ks, ds.map .d)
  | .d _ => none
  | .loc n => match st[n]? with
    | some (some (.dtt ks ws)) => some (ks, ws)
    | _ => none
def valT : List KT → List W → KT → Option W
  | k0 :: ks, w :: ws, k => if k0 = k then some w else valT ks ws k
  | _, _, _ => none
def putT {α : Type} (kvs : List (KT × α)) (k : KT) (v : α) : List (KT × α) := if (kvs.any fun kv => decide (kv.1 = k)) = true then kvs.map (fun kv => if kv.1 = k then (kv.1, v) else kv) else kvs ++ [(k, v)]
def putTW (ks : List KT) (ws : List W) (k : KT) (y : W) : List KT × List W := ((putT (ks.zip ws) k y).map (·.1), (putT (ks.zip ws) k y).map (·.2))
section
variable {c : Kx} {ρ : Rho} {G H : Hp} {st : Store}
theorem keysL_ok : ∀ {ws : List W} {vs : List V} {k : KT}, RepWs c ρ G ws vs → keysL ws = some k → vs = k.map kV
  | [], vs, k, r, e => by
    have r : vs = [] := r
    subst r
    cases e
    rfl
  | w :: ws, _, k, ⟨v, r, q, h, t⟩, e => by
    subst q
    unfold keysL at e
    cases e1 : kyW w with
    | none => simp only [e1] at e; cases e
    | some k1 =>
      cases e2 : keysL ws with
      | none => simp only [e1, e2] at e; cases e
      | some k2 =>
        simp only [e1, e2] at e
        cases e
        rw [kyW_ok h e1, keysL_ok t e2]
        rfl
theorem valT_ok {k : KT} : ∀ {ks : List KT} {ws : List W} {vs : List V}, ks.length = ws.length → RepWs c ρ G ws vs → match valT ks ws k with
    | some w => ∃ v, valV (ks.zip vs) k = some v ∧ RepW c ρ G w v
    | none => valV (ks.zip vs) k = none
  | [], [], _, _, _ => rfl
  | k0 :: ks, w :: ws, _, hl, ⟨v, vs, q, h, t⟩ => by
    subst q
    unfold valT
    by_cases z : k0 = k
    · rw [if_pos z]
      exact ⟨v, valV_pos (p := (k0, v)) z, h⟩
    · rw [if_neg z]
      have ih := valT_ok (k := k) (Nat.succ.inj hl) t
      show match valT ks ws k with | some w => ∃ v', valV ((k0, v) :: ks.zip vs) k = some v' ∧ _ | none => valV ((k0, v) :: ks.zip vs) k = none
      rw [valV_neg (p := (k0, v)) z]
      exact ih
  | [], _ :: _, _, hl, _ => by cases hl
  | _ :: _, [], _, hl, _ => by cases hl
theorem any_zipT {α β : Type} {k : KT} : ∀ {ks : List KT} {ws : List α} {vs : List β}, ks.length = ws.length → ks.length = vs.length → ((ks.zip ws).any fun kv => decide (kv.1 = k)) = (ks.zip vs).any fun kv => decide (kv.1 = k)
  | [], _, _, _, _ => rfl
  | k0 :: ks, w :: ws, v :: vs, h1, h2 => by
    simp only [List.zip_cons_cons, List.any_cons]
    rw [any_zipT (Nat.succ.inj h1) (Nat.succ.inj h2)]
  | _ :: _, [], _, h, _ => by cases h
  | _ :: _, _ :: _, [], _, h => by cases h
theorem map_keysT {α : Type} {k : KT} {y : α} : ∀ {ks : List KT} {ws : List α}, ks.length = ws.length → ((ks.zip ws).map fun kv => if kv.1 = k then (kv.1, y) else kv).map (·.1) = ks
  | [], _, _ => rfl
  | k0 :: ks, w :: ws, h => by
    simp only [List.zip_cons_cons, List.map_cons]
    rw [map_keysT (Nat.succ.inj h)]
    split <;> rfl
  | _ :: _, [], h => by cases h
theorem map_repsT {k : KT} {y : W} {u : V} (hy : RepW c ρ G y u) : ∀ {ks : List KT} {ws : List W} {vs : List V}, ks.length = ws.length → RepWs c ρ G ws vs →
    RepWs c ρ G (((ks.zip ws).map fun kv => if kv.1 = k then (kv.1, y) else kv).map (·.2)) (((ks.zip vs).map fun kv => if kv.1 = k then (kv.1, u) else kv).map (·.2))
  | [], [], _, _, h => rfl
  | k0 :: ks, w :: ws, _, hl, ⟨v, vs, q, h, t⟩ => by
    subst q
    refine ⟨_, _, rfl, ?_, map_repsT hy (Nat.succ.inj hl) t⟩
    show RepW c ρ G (if k0 = k then (k0, y) else (k0, w)).2 (if k0 = k then (k0, u) else (k0, v)).2
    split
    · exact hy
    · exact h
  | [], _ :: _, _, hl, _ => by cases hl
  | _ :: _, [], _, hl, _ => by cases hl
theorem zip_unzipT {α : Type} : ∀ (l : List (KT × α)), (l.map (·.1)).zip (l.map (·.2)) = l
  | [] => rfl
  | p :: l => by
    simp only [List.map_cons, List.zip_cons_cons]
    rw [zip_unzipT l]
end
def ixT (st : Store) (x y : W) : Option (W × Store) := match dttW st x, keyT st y with
  | some (ks, ws), some k => match valT ks ws k with
    | some w => some (w, st)
    | none => none
  | _, _ => none
def inT (st : Store) (x y : W) : Option (W × Store) := match dttW st y, keyT st x with
  | some (ks, ws), some k => some (.d (.bl (valT ks ws k).isSome), st)
  | _, _ => none
def ninT (st : Store) (x y : W) : Option (W × Store) := match dttW st y, keyT st x with
  | some (ks, ws), some k => some (.d (.bl (!(valT ks ws k).isSome)), st)
  | _, _ => none
def lookT (o k x : W) : EM W := lft fun st => match dttW st o, keyT st k with
  | some (ks, ws), some k => some ((valT ks ws k).getD x, st)
  | _, _ => none
def isTE (o : W) : EM Unit := lft fun st => match dttW st o with
  | some _ => some ((), st)
  | none => none
def get1T (mo mk : EM W) : EM W := bnd mo fun o => bnd (isTE o) fun _ => bnd mk fun k => lookT o k (.d .non)
def putTS (st : Store) (o i y : W) : Option (Unit × Store) := match o with
  | .loc n => match st[n]? with
    | some (some (.dtt ks ws)) => match keyT st i with
      | some k => if ks.length < 16777216 then some ((), st.set n (some (.dtt (putTW ks ws k y).1 (putTW ks ws k y).2))) else none
      | none => none
    | _ => none
  | _ => none
def setT (mo mi me : EM W) : EM Fl := bnd me fun y => bnd mo fun o => bnd mi fun i => bnd (lft fun st => putTS st o i y) fun _ => pur .nx
section
variable {c : Kx} {X : Cx} {U : WX} {a b o i e value : Expr} {ma mb mo mi me mk : EM W} {pos pos' apos cpos : Pos}
end
section
variable {β : Type} {env : List (Option W)} {st st' : Store} {s : SS} {Q : Out β → SS → Prop} {k : W → EM β}
end
end EV
namespace EV
open PySem PySem.Spec PyProof.Rows L2
section
variable {P : Program} {w : World} {mg : Str → Option Value} {base : Heap} {c : Kx}
theorem fn_fullD {x qual : Str} {sd : Stmt} {f : Addr} {fd : FuncData} {N ps : List Str} {k : Nat} {m : EM Fl} {dvs : List V} {kws : List (Str × V)} (F : FunD c.K x qual (defArgs sd) (defBody sd) (defScope sd) dvs kws f fd) (S : FnScope N ps (defScope sd)) (hn : ps.length ≤ N.length)
    (hb : ∀ (cdv : Value) (A : Around) (outer : List Env) (s : Shared) (H : Hp) (E : XK), Room k (A.deeper (envOfC qual (defScope sd) s.heap.objs.size f cdv)) → ESs c (cxE P w c mg base N qual sd f cdv A outer s H E) (wx E) (defBody sd) m) :
    FnOk P w c.K mg base (L2.CX P w) (k + 1) f fd ps (spF c ps.length (bodyF N.length m)) := by
  refine F.ok S (fun vs H Q E h => h.len) (fun cdv A outer s H vs Q E hr h => ⟨_, (hb cdv A outer s H E hr).ps, ?_⟩)
  obtain ⟨ρ, G, st, ws, r, rw', hl, h⟩ := h
  have hv : vs.length = ws.length := rw'.len
  have hR : R c ρ G (L2.start N vs) H (initS N.length ws st) := by
    refine ⟨r, fun i w e => ?_, ?_⟩
    · unfold initS at e
      unfold L2.start
      simp only at e
      by_cases hi : i < ws.length
      · rw [List.getElem?_append_left (by simpa using hi), List.getElem?_map] at e
        cases q : ws[i]? with
        | none => rw [q] at e; cases e
        | some y =>
          rw [q] at e
          cases e
          obtain ⟨v, h1, h2⟩ := rw'.get q
          exact ⟨v, by rw [List.getElem?_append_left (by simp [hv]; exact hi), List.getElem?_map, h1]; rfl, h2⟩
      · rw [List.getElem?_append_right (by simpa using hi), List.getElem?_replicate] at e
        split at e <;> cases e
    · unfold initS L2.start
      simp [hv]
  refine ⟨ρ, G, initS N.length ws st, hR, ?_⟩
  unfold bodyF at h
  unfold Ws
  cases e : m (initS N.length ws st) with
  | none => simp only [e] at h
  | some p =>
    obtain ⟨o, s'⟩ := p
    cases o with
    | ok fl =>
      cases fl with
      | nx =>
        simp only [e] at h
        exact fun ρ' G' σ' H' S' R' => h _ ρ' G' H' S' R'.rs .non
      | ret w =>
        simp only [e] at h
        exact fun ρ' G' σ' H' S' R' v rv => h v ρ' G' H' S' R'.rs rv
      | brk => simp only [e] at h
      | cnt => simp only [e] at h
    | ex C ks es =>
      simp only [e] at h
      exact fun ρ' G' σ' H' cls d S' R' x => h ρ' G' H' cls d S' R'.rs x
structure DefAtD (K : PySem.W.Frag) (x qual : Str) (st : Stmt) (f : Addr) (ps : List Str) (dvs : List V) : Prop where
  ex : ∃ fd : FuncData, FunD K x qual (defArgs st) (defBody st) (defScope st) dvs [] f fd ∧ Binds K fd ps []
theorem FnS.ofD {x qual : Str} {sd : Stmt} {f : Addr} {N ps : List Str} {k : Nat} {m : EM Fl} {dvs : List V} (D : DefAtD c.K x qual sd f ps dvs) (S : FnScope N ps (defScope sd)) (hn : ps.length ≤ N.length)
    (hb : ∀ (cdv : Value) (A : Around) (outer : List Env) (s : Shared) (H : Hp) (E : XK), Room k (A.deeper (envOfC qual (defScope sd) s.heap.objs.size f cdv)) → ESs c (cxE P w c mg base N qual sd f cdv A outer s H E) (wx E) (defBody sd) m) :
    FnS P w c.K mg base (k + 1) f (spF c ps.length (bodyF N.length m)) [] := by
  obtain ⟨fd, F, b⟩ := D.ex
  exact ⟨fd, ps, [], fn_fullD F S hn hb, F.kp, b, .nil⟩
end
end EV
namespace EV
open PySem PySem.Spec PyProof.Rows L2
section
variable {P : Program} {w : World} {mg : Str → Option Value} {base : Heap} {c : Kx}
structure DefAtF (K : PySem.W.Frag) (x qual : Str) (st : Stmt) (f : Addr) (ps : List Str) (dvs : List V) : Prop where
  ex : ∃ fd : FuncData, FunD K x qual (defArgs st) (defBody st) (defScope st) dvs [] f fd ∧ Binds K fd ps [] ∧ ∃ ds, Vals dvs ds ∧ Binds K fd ps ds
theorem DefAtF.all {K : PySem.W.Frag} {x qual : Str} {st : Stmt} {f : Addr} {ps : List Str} {dvs : List V} (D : DefAtF K x qual st f ps dvs) : DefAtD K x qual st f ps dvs :=
  let ⟨fd, F, b, _⟩ := D.ex
  ⟨fd, F, b⟩
def dI0 : W := .d (.int 0)
def dNon : W := .d .non
theorem DefOk.non : DefOk c [dNon] [V.non] := fun _ _ => ⟨_, _, rfl, .non, rfl⟩
end
section
variable {β : Type} {env : List (Option W)} {st : Store} {Q : Out β → SS → Prop} {k : W → EM β}
end
end EV
namespace EV
open PySem PySem.Spec PyProof.Rows L2
def rLenDT : List V → Hp → VK → Prop := fun xs H Q => ∃ a kvs, xs = [.ref a] ∧ Rd H a (.dK kvs) ∧ Q (.int (kvs.length : Int)) H
def lenDW (st : Store) : List W → Option (W × Store)
  | [.d (.dct ks _)] => some (.d (.int (ks.length : Int)), st)
  | _ => none
section
variable {β : Type} {env : List (Option W)} {st : Store} {Q : Out β → SS → Prop} {k : W → EM β}
end
end EV
namespace EV
open PySem PySem.Spec PyProof.Rows L2
def shW (k : Nat) : W → W
  | .d x => .d x
  | .loc n => .loc (k + n)
def OO.sh (k : Nat) : OO → OO
  | .lst ws => .lst (ws.map (shW k))
  | .tup ws => .tup (ws.map (shW k))
  | .dct ks ws => .dct ks (ws.map (shW k))
  | .dtt ks ws => .dtt ks (ws.map (shW k))
  | .ins i ks ws => .ins i ks (ws.map (shW k))
  | .tab => .tab
def shS (k : Nat) (st : Store) : Store := st.map fun o => o.map (OO.sh k)
def outX (o : Option (Out W × Store)) : EM W := match o with
  | some (.ok w, st) => fun s => some (.ok (shW s.st.length w), ⟨s.env, s.st ++ shS s.st.length st⟩)
  | some (.ex C ks es, _) => thr C ks es
  | none => non
def callX (F : FF) (m : EM (List W)) : EM W := bnd (treesE m) fun ds => outX (F (ds.map .d) [])
def gX (np : Nat) (F : FF) (ws : List W) : EM W := if ws.length = np then callX F (pur ws) else non
section
variable {c : Kx} {ρ ρ' : Rho} {G H : Hp}
theorem RepW.sh : ∀ {w : W} {v : V}, RepW c ρ' G w v → RepW c (ρ ++ ρ') G (shW ρ.length w) v
  | .d _, _, h => h
  | .loc n, _, ⟨p, h, q⟩ => ⟨p, by
    rw [List.getElem?_append_right (Nat.le_add_right _ _), Nat.add_sub_cancel_left]
    exact h, q⟩
theorem RepWs.sh : ∀ {ws : List W} {vs : List V}, RepWs c ρ' G ws vs → RepWs c (ρ ++ ρ') G (ws.map (shW ρ.length)) vs
  | [], _, h => h
  | _ :: _, _, ⟨v, r, q, h, t⟩ => ⟨v, r, q, RepW.sh h, RepWs.sh t⟩
theorem OwnOk.sh {p : Addr × Addr} : ∀ {o : OO}, OwnOk c ρ' G H p o → OwnOk c (ρ ++ ρ') G H p (o.sh ρ.length)
  | .tup _, ⟨q, vs, a, r⟩ => ⟨q, vs, a, RepWs.sh r⟩
  | .lst _, ⟨q, vs, a, r⟩ => ⟨q, vs, a, RepWs.sh r⟩
  | .dct _ _, ⟨q, k, vs, a, r⟩ => ⟨q, by rw [List.length_map]; exact k, vs, a, RepWs.sh r⟩
  | .dtt _ _, ⟨q, k, vs, a, r⟩ => ⟨q, by rw [List.length_map]; exact k, vs, a, RepWs.sh r⟩
  | .ins _ _ _, ⟨k, C, vs, a, f, b, d, r⟩ => ⟨by rw [List.length_map]; exact k, C, vs, a, f, b, d, RepWs.sh r⟩
  | .tab, h => h
end
section
variable {β : Type} {env : List (Option W)} {st st1 : Store} {Q : Out β → SS → Prop} {k : W → EM β} {np : Nat} {F : FF} {ws : List W} {ds : List D}
end
end EV
namespace L2
open PySem PySem.Spec PyProof.Rows
section
variable {X : Cx} {body : List Stmt} {h₀ : ExceptHandler} {hds : List ExceptHandler} {l : List (Value × Nat × TS)} {pos : Pos} {tb : WX → TS} {Wout : WX}
end
end L2
namespace EV
open PySem PySem.Spec PyProof.Rows L2
def tryE (known : List Nat) (m m2 : EM Fl) (hds : List Hd) : EM Fl := fun s => match m s with
  | some (.ex C ks ds, s1) => if known.contains C then runH hds C ks ds s1 else none
  | some (.ok .nx, s1) => m2 s1
  | some (.ok f, s1) => some (.ok f, s1)
  | none => none
section
variable {c : Kx} {X : Cx} {U : WX} {body : List Stmt} {h₀ : ExceptHandler} {hds : List ExceptHandler} {m : EM Fl} {pos : Pos}
end
section
variable {β : Type} {s : SS} {Q : Out β → SS → Prop}
def TryEQ (hds : List Hd) (m2 : EM Fl) (k : Fl → EM β) (Q : Out β → SS → Prop) (known : List Nat) : Out Fl → SS → Prop := fun o s => match o with
  | .ok .nx => Run (bnd m2 k) s Q
  | .ok f => Run (k f) s Q
  | .ex C ks ds => known.contains C = true ∧ Run (bnd (runH hds C ks ds) k) s Q
end
section
variable {c : Kx}
theorem wish_of {N : List Str} {np : Nat} {m : EM Fl} {vs : List V} {H : Hp} {Q : VK} {E : XK} (h : spF c np (bodyF N.length m) vs H Q E) : tS c (wx E) m { nx := fun _ Hn => Q .non Hn, rt := Q } (L2.start N vs) H := by
  obtain ⟨ρ, G, st, ws, r, rw', hl, h⟩ := h
  have hv : vs.length = ws.length := rw'.len
  have hR : R c ρ G (L2.start N vs) H (initS N.length ws st) := by
    refine ⟨r, fun i w e => ?_, ?_⟩
    · unfold initS at e
      unfold L2.start
      simp only at e
      by_cases hi : i < ws.length
      · rw [List.getElem?_append_left (by simpa using hi), List.getElem?_map] at e
        cases q : ws[i]? with
        | none => rw [q] at e; cases e
        | some y =>
          rw [q] at e
          cases e
          obtain ⟨v, h1, h2⟩ := rw'.get q
          exact ⟨v, by rw [List.getElem?_append_left (by simp [hv]; exact hi), List.getElem?_map, h1]; rfl, h2⟩
      · rw [List.getElem?_append_right (by simpa using hi), List.getElem?_replicate] at e
        split at e <;> cases e
    · unfold initS L2.start
      simp [hv]
  refine ⟨ρ, G, initS N.length ws st, hR, ?_⟩
  unfold bodyF at h
  unfold Ws
  cases e : m (initS N.length ws st) with
  | none => simp only [e] at h
  | some p =>
    obtain ⟨o, s'⟩ := p
    cases o with
    | ok fl =>
      cases fl with
      | nx =>
        simp only [e] at h
        exact fun ρ' G' σ' H' S' R' => h _ ρ' G' H' S' R'.rs .non
      | ret w =>
        simp only [e] at h
        exact fun ρ' G' σ' H' S' R' v rv => h v ρ' G' H' S' R'.rs rv
      | brk => simp only [e] at h
      | cnt => simp only [e] at h
    | ex C ks es =>
      simp only [e] at h
      exact fun ρ' G' σ' H' cls d S' R' x => h ρ' G' H' cls d S' R'.rs x
end
structure RoomT (k : Nat) (A : Around) : Prop where
  low : A.depth + 3 * k + 5 < recursionLimit
  few : A.units + 16 * k + 200 < cLine
theorem RoomT.mono {j k : Nat} {A : Around} (r : RoomT k A) (h : j ≤ k) : RoomT j A := ⟨by have := r.low; omega, by have := r.few; omega⟩
theorem RoomT.deeper {k : Nat} {A : Around} (r : RoomT (k + 1) A) (env : Env) : RoomT k (A.deeper env) := by
  obtain ⟨h1, h2⟩ := r
  refine ⟨?_, ?_⟩
  · show A.depth + 1 + 3 * k + 5 < _
    omega
  · show A.units + 3 + 16 * k + 200 < _
    omega
theorem RoomT.here {k : Nat} {A : Around} (r : RoomT k A) : A.depth < recursionLimit := by
  have := r.low
  omega
theorem RoomT.units {k : Nat} {A : Around} (r : RoomT k A) : A.units + 64 < cLine := by
  have := r.few
  omega
structure FnT (P : Program) (w : World) (K : PySem.W.Frag) (mg : Str → Option Value) (base : Heap) (CXk : CXT) (k : Nat) (f : Addr) (fd : FuncData) (ps : List Str) (spc : Sp) : Prop where
  arity : ∀ vs H Q E, spc vs H Q E → vs.length = ps.length
  runs : ∀ (A : Around) (outer : List Env) (s : Shared) (H : Hp) (args : Args) (us : List Value) (vs : List V) (Q : VK) (E : XK), RoomT k A → Env0 P w K mg base A outer s H →
    BindsTo s fd args (ps.zip us) → Vals vs us → spc vs H Q E → codeAny (model P w) A (.call (.ref f) args) (CR CXk outer P w H s Q E) s
abbrev cxT (CXk : CXT) (P : Program) (w : World) (K : PySem.W.Frag) (mg : Str → Option Value) (base : Heap) (N : List Str) (qual : Str) (sc : Scope) (f : Addr) (cd : Value) (A : Around) (outer : List Env) (s : Shared) (H : Hp) (E : XK) : Cx :=
  { cxOf CXk P w K mg base N qual sc f cd A outer s H E with calm := false }
theorem env0_mark {P : Program} {w : World} {K : PySem.W.Frag} {mg : Str → Option Value} {base : Heap} {A : Around} {outer : List Env} {s : Shared} {H : Hp} (e : Env0 P w K mg base A outer s H) :
    Env0 P w K mg base { A with handled := none } outer s H := ⟨e.frames, e.mod, e.bs, e.bsz, e.funs, e.frf, e.hok, e.bare⟩
theorem startT {CXk : CXT} {P : Program} {w : World} {K : PySem.W.Frag} {mg : Str → Option Value} {base : Heap} {N ps : List Str} {qual : Str} {sc : Scope} {f : Addr} {cd : Value} {A : Around} {outer : List Env} {s s1 : Shared} {H : Hp} {E : XK} {us : List Value} {vs : List V}
    (S : FnScope N ps sc) (e0 : Env0 P w K mg base A outer s H) (hl : vs.length = ps.length) (r : Vals vs us)
    (x : InCallC s s.heap.objs.size (bindL (envOfC qual sc s.heap.objs.size f cd).kindOf (ps.zip us) fun _ => none) (cellsFrom (s.heap.objs.size + 1) sc.names []) (bindC (envOfC qual sc s.heap.objs.size f cd).kindOf (ps.zip us) fun _ => none) s1) :
    L2.Inv (cxT CXk P w K mg base N qual sc f cd A outer s H E) [] (L2.start N vs) H s1 := by
  have I := inv_start (CX := CXk) (E := E) (A := { A with handled := none }) S rfl (env0_mark e0) hl r x
  have k := I.ok
  exact ⟨⟨k.mod, k.kind, k.glob, k.blt, k.above, k.inj, k.has, k.cab, fun z => Bool.noConfusion z, Around.frames_deeper e0.frames, k.stk, k.exf, k.bs, k.bsz, k.noex, k.exfs, k.funs, k.frf⟩,
    I.os, I.bare, I.base, I.loc, I.cell, I.free, I.freeC, I.pin, I.hok, I.len⟩
theorem fnT_of {CXk : CXT} {P : Program} {w : World} {K : PySem.W.Frag} {mg : Str → Option Value} {base : Heap} {k : Nat} {f : Addr} {nm qual : Str} {prm : Arguments} {bd : List Stmt} {sc : Scope} {dV kV dc m cdv t oc : Value} {an od : Option Addr}
    {osl : Array (Option Value)} {N ps : List Str} {spc : Sp} (look : K.lookup f = some ⟨oc, od, .func (PySem.W.fnOf nm qual prm bd sc dV kV dc m an cdv t), osl⟩) (code : PySem.W.codeIn K cdv qual = true) (S : FnScope N ps sc)
    (arity : ∀ vs H Q E, spc vs H Q E → vs.length = ps.length)
    (body : ∀ (A : Around) (outer : List Env) (s : Shared) (H : Hp) (vs : List V) (Q : VK) (E : XK), RoomT k (A.deeper (envOfC qual sc s.heap.objs.size f cdv)) → spc vs H Q E →
      ∃ rd, PSs (cxT CXk P w K mg base N qual sc f cdv A outer s H E) bd rd ∧ rd { nx := fun _ Hn => Q .non Hn, rt := Q } (L2.start N vs) H) :
    FnT P w K mg base CXk (k + 1) f (PySem.W.fnOf nm qual prm bd sc dV kV dc m an cdv t) ps spc := by
  refine ⟨arity, fun A outer s H args us vs Q E room e0 bind rel asks => ?_⟩
  have many := arity _ _ _ _ asks
  have inK : K.In s.heap := e0.mod.kin.keeps fun b o z => (e0.bs b o z).1
  have noLim : s.heap.NoLimit := e0.mod.nolimit.keeps fun b o z => (e0.bs b o z).1
  have kinds : ∀ y ∈ ps.zip us, sc.names.lookup y.1 = some .local ∨ (sc.names.lookup y.1 = some .cell ∧ ((cellsFrom (s.heap.objs.size + 1) sc.names []).lookup y.1).isSome = true) := fun ⟨n, v⟩ hy =>
    (S.par n (List.of_mem_zip hy).1).elim .inl fun q => .inr ⟨q, PySem.W.cellsFrom_some _ _ _ (.inl q)⟩
  refine codeAny_call_function room.here (inK _ _ look) rfl S.co S.gen rfl (PySem.W.codeRec_of inK code) (bind _ _ _ _ ?_)
  refine wpAny_newFunctionEnv_cells S.kind kinds fun env he s1 x => ?_
  subst he
  refine ⟨noLim.keeps x.toInCall.keep, codeAny_func ?_⟩
  obtain ⟨rd, run, wish⟩ := body A outer s H vs Q E (room.deeper _) asks
  have J := startT (CXk := CXk) (E := E) S e0 many rel x
  refine wpAny_mono (run.run [] s1 (L2.start N vs) H _ J wish) (fun fl s' got => ?_) fun e s' z => z
  have ends : ∀ {σ' : L2.St} {H' : Hp} {v : V} {u : Value}, L2.Inv (cxT CXk P w K mg base N qual sc f cdv A outer s H E) [] σ' H' s' → RelV v u → Q v H' → CE outer P w H s Q u s' :=
    fun {σ' H' v u} J2 rv q => ⟨v, H', J2.os, J2.bare, J2.base, J2.hok, rv, q⟩
  cases fl with
  | brk =>
    obtain ⟨_, _, _, z⟩ := got
    exact z.elim
  | cont =>
    obtain ⟨_, _, _, z⟩ := got
    exact z.elim
  | next =>
    obtain ⟨σ', H', J2, q⟩ := got
    exact ends (v := V.non) (u := Value.none) J2 rfl q
  | ret u =>
    obtain ⟨v, σ', H', J2, rv, q⟩ := got
    exact ends J2 rv q
structure FnST (P : Program) (w : World) (K : PySem.W.Frag) (mg : Str → Option Value) (base : Heap) (k : Nat) (f : Addr) (spc : Sp) : Prop where
  ex : ∃ (fd : FuncData) (ps : List Str), FnT P w K mg base (L2.CX P w) k f fd ps spc ∧ PySem.W.keepIn K (.ref f) = true ∧ Binds K fd ps []
theorem FnST.mono {P : Program} {w : World} {K : PySem.W.Frag} {mg : Str → Option Value} {base : Heap} {j k : Nat} {f : Addr} {spc : Sp} (h : FnST P w K mg base j f spc) (hk : j ≤ k) : FnST P w K mg base k f spc := by
  obtain ⟨fd, ps, F, a, b⟩ := h.ex
  exact ⟨fd, ps, ⟨F.arity, fun A outer s H args us vs Q E r => F.runs A outer s H args us vs Q E (r.mono hk)⟩, a, b⟩
theorem FnST.P {P : Program} {w : World} {mg : Str → Option Value} {base : Heap} {c : Kx} {k : Nat} {f : Addr} {np : Nat} {F : FF} (h : FnST P w c.K mg base k f (spF c np F)) : FnST P w c.K mg base k f (spP c np (pureP F)) := by
  obtain ⟨fd, ps, F, a, b⟩ := h.ex
  exact ⟨fd, ps, ⟨fun vs H Q E q => F.arity vs H Q E (spP_of q), fun A outer s H args us vs Q E r e0 bi rel q => F.runs A outer s H args us vs Q E r e0 bi rel (spP_of q)⟩, a, b⟩
abbrev cxET (P : Program) (w : World) (c : Kx) (mg : Str → Option Value) (base : Heap) (N : List Str) (qual : Str) (st : Stmt) (f : Addr) (cdv : Value) (A : Around) (outer : List Env) (s : Shared) (H : Hp) (E : XK) : Cx :=
  cxT (L2.CX P w) P w c.K mg base N qual (defScope st) f cdv A outer s H E
theorem FnST.of {P : Program} {w : World} {mg : Str → Option Value} {base : Heap} {c : Kx} {x qual : Str} {sd : Stmt} {f : Addr} {N ps : List Str} {k : Nat} {m : EM Fl} (D : DefAt c.K x qual sd f ps) (S : FnScope N ps (defScope sd)) (hn : ps.length ≤ N.length)
    (hb : ∀ (cdv : Value) (A : Around) (outer : List Env) (s : Shared) (H : Hp) (E : XK), RoomT k (A.deeper (envOfC qual (defScope sd) s.heap.objs.size f cdv)) → ESs c (cxET P w c mg base N qual sd f cdv A outer s H E) (wx E) (defBody sd) m) :
    FnST P w c.K mg base (k + 1) f (spF c ps.length (bodyF N.length m)) := by
  obtain ⟨fd, F, b⟩ := D.ex
  obtain ⟨co, cd, vK, dc, mm, an, cdv, t, os, rfl, look, code⟩ := F.ex
  exact ⟨_, ps, fnT_of look code S (fun vs H Q E h => h.len) fun A outer s H vs Q E hr h => ⟨_, (hb cdv A outer s H E hr).ps, wish_of h⟩, F.kp, b⟩
section
variable {X : Cx} {c : Kx} {U : WX} {k : Nat} {f : Addr} {spc : Sp} {x : Str} {p pos : Pos} {e : Expr} {es : List Expr} {m : EM (List W)} {g : List W → EM W}
end
end EV
namespace MinD
open PySem PyProof.Rows
open Sem (wp)
section
variable {prog : Program} {w : World} {A : Around} {R : Result → Shared → Prop} {I : Addr} {fp wr : List Addr} {n : Nat} {P : Nat → Value → Prop} {St : Nat → Heap → Prop} {d : Value}
theorem loop (W : Walks prog w A.in1 I fp wr n P St) (bt : Nat → Nat → Bool) (hcmp : CmpOf prog w A.in1 .Lt P bt) (S : Addr) (hSf : S ∉ fp) :
    ∀ (k j : Nat) (s : Shared) (vb : Value) (c : Nat), n - (j + 1) = k → j + 1 ≤ n → St (j + 1) s.heap → P (argBest bt j) vb →
    s.heap.get? S = some { cls := .type "list", dict := none, data := .seq #[vb, vb] c, slots := #[] } →
    (∀ v h' tk, P (argBest bt (n - 1)) v → (∀ b o, b ∉ wr → b ≠ S → s.heap.get? b = some o → h'.get? b = some o) → R (.ok (.ret v)) { s with heap := h', toks := tk }) →
    codeAny (model prog w) A (.builtin "min.loop" ⟨[.ref I, .none, .ref S], [(Str.ofString "default", d)]⟩) R s := by
  have hSw : S ∉ wr := fun h => hSf (W.sub _ h)
  have hname : (toString "min" ++ toString ".loop" : String) = "min.loop" := by decide
  intro k
  induction k with
  | zero =>
    intro j s vb c hk hj hst hPb hS hR
    have hin : j + 1 = n := by omega
    refine codeAny_builtin F.entry_min_loop ?_
    rw [Around.under_plainId F.plain_min_loop _]
    show wpAny _ A.in1 (seqItems? (.ref S) >>= _) _ _ s
    refine wpAny_bind (wpAny_seqItems hS rfl ?_)
    show wpAny _ A.in1 (tryCatch (pyNext (.ref I)) _ >>= _) _ _ s
    refine wpAny_bind (wpAny_tryCatch (W.done s _ _ (hin ▸ hst) fun h' tk hk' => ?_))
    have hS' := hk' S _ hSw hS
    show wpAny _ A.in1 (updateSeq S (fun _ => #[]) >>= _) _ _ _
    refine wpAny_bind ?_
    refine wpAny_updateSeq hS' rfl (wpAny_bind (wpAny_letGo (wpAny_pure ?_)))
    refine hR vb _ tk (by rw [← hin]; exact hPb) fun b o hbw hbS e => (Heap.get?_update_other _ _ (Ne.symm hbS)).trans (hk' b o hbw e)
  | succ k ih =>
    intro j s vb c hk hj hst hPb hS hR
    have hlt : j + 1 < n := by omega
    refine codeAny_builtin F.entry_min_loop ?_
    rw [Around.under_plainId F.plain_min_loop _]
    show wpAny _ A.in1 (seqItems? (.ref S) >>= _) _ _ s
    refine wpAny_bind (wpAny_seqItems hS rfl ?_)
    show wpAny _ A.in1 (tryCatch (pyNext (.ref I)) _ >>= _) _ _ s
    refine wpAny_bind (wpAny_tryCatch (W.item (j + 1) s _ _ hlt hst fun v h' tk hP hst' hk' => ?_))
    have hS' := hk' S _ hSw hS
    show wpAny _ A.in1 (tryCatch (holding [v, v] (richCompare .Lt v vb >>= _)) _ >>= _) _ _ _
    refine wpAny_bind (wpAny_tryCatch (wpAny_holding (wpAny_bind (hcmp (j + 1) (argBest bt j) v vb _ _ _ hP hPb ?_))))
    refine wpAny_bind (wpAny_holding (wpAny_truthy_bool ?_))
    refine wpAny_bind (wpAny_letGo (wpAny_pure ?_))
    cases hb : bt (j + 1) (argBest bt j) with
    | true =>
      simp only [if_true]
      refine wpAny_bind ?_
      refine wpAny_updateSeq hS' rfl (wpAny_bind (wpAny_letGo ?_))
      rw [hname]
      refine wpAny_pure ⟨plainId_quiet F.plain_min_loop _, ih (j + 1) _ v _ (by omega) hlt (W.frame _ _ _ hst' fun b hbf o e => ?_) (by simp only [argBest, hb, if_true]; exact hP) (Heap.get?_update_self _ hS' rfl)
        fun v' h'' tk'' hP' hk'' => ?_⟩
      · exact (Heap.get?_update_other _ _ (fun h : S = b => hSf (by rw [h]; exact hbf))).trans e
      · exact hR v' h'' tk'' hP' fun b o hbw hbS e => hk'' b o hbw hbS ((Heap.get?_update_other _ _ (Ne.symm hbS)).trans (hk' b o hbw e))
    | false =>
      simp only [Bool.false_eq_true, if_false]
      refine wpAny_bind (wpAny_letGo ?_)
      rw [hname]
      refine wpAny_pure ⟨plainId_quiet F.plain_min_loop _, ih (j + 1) _ vb c (by omega) hlt hst' (by simp only [argBest, hb, Bool.false_eq_true, if_false]; exact hPb) hS' fun v' h'' tk'' hP' hk'' => ?_⟩
      exact hR v' h'' tk'' hP' fun b o hbw hbS e => hk'' b o hbw hbS (hk' b o hbw e)
theorem first (W : Walks prog w A.in1 I fp wr n P St) (bt : Nat → Nat → Bool) (hcmp : CmpOf prog w A.in1 .Lt P bt) (S : Addr) (hSf : S ∉ fp) (hn : 0 < n) {s : Shared} {c : Nat} (hst : St 0 s.heap)
    (hS : s.heap.get? S = some { cls := .type "list", dict := none, data := .seq #[] c, slots := #[] })
    (hR : ∀ v h' tk, P (argBest bt (n - 1)) v → (∀ b o, b ∉ wr → b ≠ S → s.heap.get? b = some o → h'.get? b = some o) → R (.ok (.ret v)) { s with heap := h', toks := tk }) :
    codeAny (model prog w) A (.builtin "min.loop" ⟨[.ref I, .none, .ref S], [(Str.ofString "default", d)]⟩) R s := by
  have hSw : S ∉ wr := fun h => hSf (W.sub _ h)
  have hname : (toString "min" ++ toString ".loop" : String) = "min.loop" := by decide
  refine codeAny_builtin F.entry_min_loop ?_
  rw [Around.under_plainId F.plain_min_loop _]
  show wpAny _ A.in1 (seqItems? (.ref S) >>= _) _ _ s
  refine wpAny_bind (wpAny_seqItems hS rfl ?_)
  show wpAny _ A.in1 (tryCatch (pyNext (.ref I)) _ >>= _) _ _ s
  refine wpAny_bind (wpAny_tryCatch (W.item 0 s _ _ hn hst fun v h' tk hP hst' hk' => ?_))
  have hS' := hk' S _ hSw hS
  show wpAny _ A.in1 (updateSeq S (fun _ => #[v, v]) >>= _) _ _ _
  refine wpAny_bind ?_
  refine wpAny_updateSeq hS' rfl ?_
  rw [hname]
  refine wpAny_pure ⟨plainId_quiet F.plain_min_loop _, loop W bt hcmp S hSf _ 0 _ v _ rfl hn (W.frame _ _ _ hst' fun b hbf o e => ?_) hP (Heap.get?_update_self _ hS' rfl) fun v' h'' tk'' hP' hk'' => ?_⟩
  · exact (Heap.get?_update_other _ _ (fun h : S = b => hSf (by rw [h]; exact hbf))).trans e
  · exact hR v' h'' tk'' hP' fun b o hbw hbS e => hk'' b o hbw hbS ((Heap.get?_update_other _ _ (Ne.symm hbS)).trans (hk' b o hbw e))
theorem empty (W : Walks prog w A.in1 I fp wr 0 P St) (S : Addr) (hSf : S ∉ fp) {s : Shared} {c : Nat} (hst : St 0 s.heap)
    (hS : s.heap.get? S = some { cls := .type "list", dict := none, data := .seq #[] c, slots := #[] })
    (hR : ∀ h' tk, (∀ b o, b ∉ wr → b ≠ S → s.heap.get? b = some o → h'.get? b = some o) → R (.ok (.ret d)) { s with heap := h', toks := tk }) :
    codeAny (model prog w) A (.builtin "min.loop" ⟨[.ref I, .none, .ref S], [(Str.ofString "default", d)]⟩) R s := by
  have hSw : S ∉ wr := fun h => hSf (W.sub _ h)
  refine codeAny_builtin F.entry_min_loop ?_
  rw [Around.under_plainId F.plain_min_loop _]
  show wpAny _ A.in1 (seqItems? (.ref S) >>= _) _ _ s
  refine wpAny_bind (wpAny_seqItems hS rfl ?_)
  show wpAny _ A.in1 (tryCatch (pyNext (.ref I)) _ >>= _) _ _ s
  refine wpAny_bind (wpAny_tryCatch (W.done s _ _ hst fun h' tk hk' => ?_))
  show wpAny _ A.in1 (rule _ >>= fun _ => ret d) _ _ _
  refine wpAny_bind (wpAny_rule ?_)
  exact wpAny_pure (hR h' tk fun b o hbw _ e => hk' b o hbw e)
end
section
variable {prog : Program} {w : World} {A : Around} {E : Value → Shared → Prop} {s : Shared} {l : Addr} {xs : Array (Int × Tok)} {d : Value}
end
end MinD
namespace L2
open PySem PySem.Spec PyProof.Rows
def rMinD (K : PySem.W.Frag) : List V → List V → Hp → VK → Prop := fun vs zs H Q => ∃ (a : Addr) (ns : List Int) (z : V), vs = [V.ref a] ∧ zs = [z] ∧ SqL K H a (ns.map V.int) ∧ (ns = [] → Q z H) ∧ ∀ m, m ∈ ns → (∀ x ∈ ns, m ≤ x) → Q (.int m) H
end L2
namespace EV
open PySem PySem.Spec PyProof.Rows L2
def intsW : List W → Option (List Int)
  | [] => some []
  | .d (.int i) :: r => match intsW r with
    | some ns => some (i :: ns)
    | none => none
  | _ => none
def minL : Int → List Int → Int
  | m, [] => m
  | m, x :: r => minL (if x < m then x else m) r
theorem minL_le : ∀ (r : List Int) (m : Int), minL m r ≤ m ∧ ∀ x ∈ r, minL m r ≤ x
  | [], m => ⟨Int.le_refl _, fun _ h => nomatch h⟩
  | y :: r, m => by
    have h := minL_le r (if y < m then y else m)
    have h1 : (if y < m then y else m) ≤ m ∧ (if y < m then y else m) ≤ y := by split <;> omega
    refine ⟨Int.le_trans h.1 h1.1, fun x hx => ?_⟩
    rcases List.mem_cons.mp hx with rfl | hx
    · exact Int.le_trans h.1 h1.2
    · exact h.2 x hx
theorem minL_in : ∀ (r : List Int) (m : Int), minL m r = m ∨ minL m r ∈ r
  | [], m => .inl rfl
  | y :: r, m => by
    rcases minL_in r (if y < m then y else m) with h | h
    · show minL (if y < m then y else m) r = m ∨ minL (if y < m then y else m) r ∈ y :: r
      rw [h]
      split
      · exact .inr List.mem_cons_self
      · exact .inl rfl
    · exact .inr (List.mem_cons_of_mem _ h)
def minO : List Int → D
  | [] => .non
  | m :: r => .int (minL m r)
def minNW (st : Store) : List W → Option (W × Store)
  | [w] => match listW st w with
    | some ws => match intsW ws with
      | some ns => some (.d (minO ns), st)
      | none => none
    | none => none
  | _ => none
theorem intsW_ok {c : Kx} {ρ : Rho} {G : Hp} : ∀ {ws : List W} {ns : List Int} {vs : List V}, intsW ws = some ns → RepWs c ρ G ws vs → vs = ns.map V.int
  | [], ns, vs, e, r => by
    cases e
    have r : vs = [] := r
    exact r
  | w :: ws, ns, vs, e, r => by
    obtain ⟨v, vr, rfl, h1, h2⟩ := r
    cases w with
    | loc n => cases e
    | d x =>
      cases x with
      | int i =>
        unfold intsW at e
        cases e2 : intsW ws with
        | none => rw [e2] at e; cases e
        | some ns2 =>
          rw [e2] at e
          cases e
          cases h1
          rw [intsW_ok e2 h2]
          rfl
      | _ => cases e
def rMinN (K : PySem.W.Frag) : List V → Hp → VK → Prop := fun vs H Q => ∃ (a : Addr) (ns : List Int), vs = [V.ref a] ∧ SqL K H a (ns.map V.int) ∧ (ns = [] → Q .non H) ∧ ∀ m, m ∈ ns → (∀ x ∈ ns, m ≤ x) → Q (.int m) H
section
variable {c : Kx} {X : Cx} {U : WX} {x : Str} {e : Expr} {p pos kpos p2 : Pos} {m : EM (List W)} {j : Nat}
end
section
variable {β : Type} {env : List (Option W)} {st : Store} {Q : Out β → SS → Prop} {k : W → EM β}
theorem intsW_map : ∀ (ns : List Int), intsW ((ns.map D.int).map W.d) = some ns
  | [] => rfl
  | n :: r => by
    show (match intsW ((r.map D.int).map W.d) with | some ns => some (n :: ns) | none => none) = _
    rw [intsW_map r]
end
end EV
namespace RZ
open PySem PySem.Spec PyProof.Rows L2
def dcnt (ns : List Int) : Nat := (PyProof.Rows.firstMet (fun i => ns.getD i 0) ns.length).length
theorem firstMet_le (f : Nat → Int) : ∀ n, (PyProof.Rows.firstMet f n).length ≤ n
  | 0 => Nat.le_refl _
  | n + 1 => by
    rw [PyProof.Rows.firstMet_succ]
    have := firstMet_le f n
    unfold PyProof.Rows.step_dedup
    split
    · omega
    · rw [List.length_append]
      show _ + 1 ≤ _
      omega
def tLenSetD (K : PySem.W.Frag) (ta : TE) : TE := fun σ H Q => ta σ H fun x H1 => ∃ (l : Addr) (ns : List Int), x = .ref l ∧ SqL K H1 l (ns.map V.int) ∧ ns.length ≤ 4000 ∧ Q (.int (dcnt ns : Nat)) H1
end RZ
namespace EV
open PySem PySem.Spec PyProof.Rows L2
def maxL : Int → List Int → Int
  | m, [] => m
  | m, x :: r => maxL (if m < x then x else m) r
theorem maxL_ge : ∀ (r : List Int) (m : Int), m ≤ maxL m r ∧ ∀ x ∈ r, x ≤ maxL m r
  | [], m => ⟨Int.le_refl _, fun _ h => nomatch h⟩
  | y :: r, m => by
    have h := maxL_ge r (if m < y then y else m)
    have h1 : m ≤ (if m < y then y else m) ∧ y ≤ (if m < y then y else m) := by split <;> omega
    refine ⟨Int.le_trans h1.1 h.1, fun x hx => ?_⟩
    rcases List.mem_cons.mp hx with rfl | hx
    · exact Int.le_trans h1.2 h.1
    · exact h.2 x hx
theorem maxL_in : ∀ (r : List Int) (m : Int), maxL m r = m ∨ maxL m r ∈ r
  | [], m => .inl rfl
  | y :: r, m => by
    rcases maxL_in r (if m < y then y else m) with h | h
    · show maxL (if m < y then y else m) r = m ∨ maxL (if m < y then y else m) r ∈ y :: r
      rw [h]
      split
      · exact .inr List.mem_cons_self
      · exact .inl rfl
    · exact .inr (List.mem_cons_of_mem _ h)
def max1W (st : Store) : List W → Option (W × Store)
  | [w] => match listW st w with
    | some ws => match intsW ws with
      | some (n :: ns) => some (.d (.int (maxL n ns)), st)
      | _ => none
    | none => none
  | _ => none
def lenSetW (st : Store) (w : W) : Option (W × Store) :=
  match listW st w with
  | some ws => match intsW ws with
    | some ns => if ns.length ≤ 4000 then some (.d (.int (RZ.dcnt ns : Nat)), st) else none
    | none => none
  | none => none
section
variable {c : Kx} {X : Cx} {U : WX} {e : Expr} {p p2 q pos : Pos} {m : EM W} {ms : EM (List W)}
end
section
variable {β : Type} {env : List (Option W)} {st : Store} {Q : Out β → SS → Prop} {k : W → EM β}
end
end EV
namespace PySem
open Sem (wp)
section
variable {M : Model} {A : Around} {E : Value → Shared → Prop} {s : Shared} {env : Env}
def compPostX (M : Model) (A : Around) (E : Value → Shared → Prop) (use : Option (Value → Sem Unit)) (Q : Value → Shared → Prop) (acc : Value) (F : Option Addr) (C : Addr) (r : Result) (s' : Shared) : Prop :=
  match r, use with
  | .ok _, none => ∃ m, s'.heap.Ns C m ∧ ∀ h', Heap.SameBut C s'.heap h' → Q acc { s' with heap := h' }
  | .ok _, some u => wpAny M A (u acc) (fun _ s'' => ∃ m, s''.heap.Ns C m ∧ ∀ h', Heap.SameBut C s''.heap h' → Q .none { s'' with heap := h' }) E s'
  | .error x, _ => ∃ m, s'.heap.Ns C m ∧ ∀ h', Heap.SameBut C s'.heap h' → ∀ cenv : Env, cenv.locals = C → cenv.frame = F → wpAny M A (passOn "comprehension.variables-let-go" x cenv : Sem Value) (fun _ _ => False) E { s' with heap := h' }
end
namespace HandSPX
section
variable {M : Model} {A : Around} {E : Value → Shared → Prop} {env : Env} {outer : List Env} {L e : Addr} {Z : Obj → Prop} {s : Shared} {base : Heap}
end
end HandSPX
end PySem
namespace L2
open PySem PySem.Spec PyProof.Rows
section
variable {X : Cx} {pins : List (Addr × Obj)} {σ : St} {H : Hp} {s : Shared}
abbrev Cx.wx (X : Cx) (xe : Value → Shared → Prop) : Cx := { X with xe := xe }
theorem Inv.wx (I : Inv X pins σ H s) (xe : Value → Shared → Prop) : Inv (X.wx xe) pins σ H s :=
  ⟨⟨I.ok.mod, I.ok.kind, I.ok.glob, I.ok.blt, I.ok.above, I.ok.inj, I.ok.has, I.ok.cab, I.ok.hd, I.ok.frames, I.ok.stk, I.ok.exf, I.ok.bs, I.ok.bsz, I.ok.noex, I.ok.exfs, I.ok.funs, I.ok.frf⟩, I.os, I.bare, I.base, I.loc, I.cell, I.free, I.freeC, I.pin, I.hok, I.len⟩
theorem funFrames_but {base base' h h' : Heap} {C : Addr} (hb : ∀ b, base.get? b = none → base'.get? b = none) (hs : ∀ b, b ≠ C → h'.get? b = h.get? b) : ∀ {l : List Env}, h.FunFrames base l → C ∉ frs l → h'.FunFrames base' l
  | [], _, _ => trivial
  | env :: l, h, hn => by
    obtain ⟨hk, ⟨L, o, hf, hbn, ho, hd⟩, hr⟩ := h
    have hm : ∀ x ∈ frs l, x ∈ frs (env :: l) := fun x hx => by
      obtain ⟨e, he, q⟩ := List.mem_filterMap.mp hx
      exact List.mem_filterMap.mpr ⟨e, List.mem_cons_of_mem _ he, q⟩
    have hL : L ≠ C := fun e => hn (by rw [← e]; exact List.mem_filterMap.mpr ⟨env, List.mem_cons_self, hf⟩)
    exact ⟨hk, ⟨L, o, hf, hb L hbn, (hs L hL).trans ho, hd⟩, funFrames_but hb hs hr fun q => hn (hm C q)⟩
end
end L2
namespace EV
open PySem PySem.Spec PyProof.Rows L2
def noX {α : Type} (m : EM α) : EM α := fun s => match m s with
  | some (.ok a, s') => some (.ok a, s')
  | _ => none
def compLX (own : List Nat) (t : Tg) (el : EM W) : List D → List D → EM (List D)
  | [], acc => pur acc
  | d :: ds, acc => bnd (noX (bnd (wipS own) fun _ => asg t (.d d))) fun _ => bnd el fun w => match w with
    | .d x => if acc.length < 16777216 then compLX own t el ds (acc ++ [x]) else non
    | .loc _ => non
def compXK (own : List Nat) (t : Tg) (el : EM W) (ds : List D) : EM W := fun s => match compLX own t el ds [] s with
  | some (.ok xs, s3) => some (.ok (.d (.lst xs)), ⟨wipeO s3.env own, s3.st⟩)
  | some (.ex C ks es, s3) => some (.ex C ks es, ⟨wipeO s3.env own, s3.st⟩)
  | none => none
def compX (own : List Nat) (mi : EM (List D)) (t : Tg) (el : EM W) : EM W := bnd mi (compXK own t el)
theorem XOk.mono {c : Kx} {G G' : Hp} (e : Same G G') {k : Nat} {ks : List Nat} {ds : List D} {cls : Value} {d : Option Addr} (h : XOk c G k ks ds cls d) : XOk c G' k ks ds cls d := by
  obtain ⟨C, h1, h2, h3⟩ := h
  refine ⟨C, h1, h2, ?_⟩
  rcases h3 with h3 | ⟨dx, vs, a1, a2, a3, a4⟩
  · exact .inl h3
  · exact .inr ⟨dx, vs, a1, a2, e _ _ a3, a4.mono e⟩
section
variable {c : Kx} {X : Cx} {U : WX} {tg iter elt : Expr} {scope : Scope} {own : List (Str × Nat)} {pos : Pos} {mi : EM (List D)} {t : Tg} {el : EM W}
section
variable (hc : X.calm = true) (tk : Takes X U) (hU : ∀ cls d σ σ' H, U cls d σ H → U cls d σ' H) (hst : X.stack = X.env :: X.outer) (hf : X.env.frame = some X.env.locals) (hN : X.N.Nodup) (hi : EI c X U tg iter mi) (ok : BlkOk X.N X.env.scope scope own) (hsub : ∀ i ∈ t.is, i ∈ own.map (·.2))
    (hg : ∀ (s : Shared) (H : Hp) (C : Addr) (cl : List (Str × Addr)) (fp : List Addr), EG c (X.blk s H scope (compEnvC scope cl C X.env) fp) tg t)
    (he : ∀ (s : Shared) (H : Hp) (C : Addr) (cl : List (Str × Addr)) (fp : List Addr) (xe : Value → Shared → Prop), Takes ((X.blk s H scope (compEnvC scope cl C X.env) fp).wx xe) U → EE c ((X.blk s H scope (compEnvC scope cl C X.env) fp).wx xe) U elt el)
include hc tk hU hst hf hN hi ok hsub hg he
end
end
end EV
namespace RZ
open PySem PySem.Spec PyProof.Rows L2
def rDictP (K : PySem.W.Frag) : List V → Hp → VK → Prop := fun xs H Q => ∃ (a : Addr) (bs : List Addr) (kvs : List (Key × V)), xs = [.ref a] ∧ SqL K H a (bs.map V.ref) ∧ bs.length = kvs.length ∧ (∀ (j : Nat) (b : Addr) (kv : Key × V), bs[j]? = some b → kvs[j]? = some kv → SqT K H b [kV kv.1, kv.2]) ∧
  ∀ p, H p = none → Q (.ref p) (upd H p (.dK (mergeK [] kvs)))
theorem vals_refs : ∀ {bs : List Addr} {us : List Value}, Vals (bs.map V.ref) us → us = bs.map Value.ref
  | [], _, r => by
    cases r
    rfl
  | b :: bs, _, r => by
    cases r with
    | cons h t =>
      cases h
      rw [vals_refs t]
      rfl
theorem pairs_of {X : Cx} {pins : List (Addr × Obj)} {σ : L2.St} {H : Hp} {s : Shared} (I : L2.Inv X pins σ H s) : ∀ {bs : List Addr} {kvs : List (Key × V)}, bs.length = kvs.length → (∀ (j : Nat) (b : Addr) (kv : Key × V), bs[j]? = some b → kvs[j]? = some kv → SqT X.K H b [kV kv.1, kv.2]) →
    ∃ (ps : List (Value × Value)) (rs : List (Key × Value)), KV kvs rs ∧ ps.length = kvs.length ∧ rs.length = kvs.length ∧ ∀ (j : Nat) (k v : Value), ps[j]? = some (k, v) → ∃ b key, bs[j]? = some b ∧ PairAt s.heap b k v ∧ rs[j]? = some (key, v) ∧ (mixKind X.prog X.w).is key k = true
  | [], [], _, _ => ⟨[], [], .nil, rfl, rfl, fun j k v h => by simp at h⟩
  | b :: bs, kv :: kvs, hl, h => by
    obtain ⟨ps, rs, h1, h2, h3, h4⟩ := pairs_of I (bs := bs) (kvs := kvs) (by simpa using hl) fun j b kv e1 e2 => h (j + 1) b kv e1 e2
    obtain ⟨its, r, ht, _⟩ := I.tuple (h 0 b kv rfl rfl)
    obtain ⟨u, w, rfl, r1, r2⟩ := vals2 r
    refine ⟨(u, w) :: ps, (kv.1, w) :: rs, .cons ⟨rfl, r2⟩ h1, by simp [h2], by simp [h3], fun j k v e => ?_⟩
    cases j with
    | zero =>
      have e : (u, w) = (k, v) := by simpa using e
      cases e
      exact ⟨b, kv.1, rfl, .inl ht, rfl, kV_is r1⟩
    | succ j => exact h4 j k v e
  | [], _ :: _, hl, _ => by cases hl
  | _ :: _, [], hl, _ => by cases hl
end RZ
namespace RZ
open PySem PySem.Spec PyProof.Rows L2
theorem strsD_at : ∀ {us : List Value} {xs : List Str}, StrsAre us xs → ∀ (i : Nat) (v : Value), us[i]? = some v → ∃ t, v = .str (xs.getD i Str.empty) t
  | _, _, .nil, i, v, h => by simp at h
  | _, _, .cons n t hr, 0, v, h => by
    simp at h
    exact ⟨t, by rw [← h] <;> rfl⟩
  | _, _, .cons n t hr, i + 1, v, h => by
    simp only [List.getElem?_cons_succ] at h
    obtain ⟨t', e⟩ := strsD_at hr i v h
    exact ⟨t', by rw [e] <;> rfl⟩
def dcntS (xs : List Str) : Nat → Nat
  | 0 => 0
  | i + 1 => if (xs.take i).any (· == xs.getD i Str.empty) = true then dcntS xs i else dcntS xs i + 1
theorem dcntS_le (xs : List Str) : ∀ i, dcntS xs i ≤ i
  | 0 => Nat.le_refl _
  | i + 1 => by
    have := dcntS_le xs i
    unfold dcntS
    split <;> omega
section
variable {prog : Program} {w : World} {A : Around} {R : Result → Shared → Prop} {I : Addr} {fp wr : List Addr} {G : Array GenState → Array GenState → Prop} {n : Nat} {P : Nat → Value → Prop} {St : Nat → Shared → Prop}
end
section
variable {prog : Program} {w : World} {A : Around} {E : Value → Shared → Prop} {s : Shared}
end
def tLenSetT (K : PySem.W.Frag) (ta : TE) : TE := fun σ H Q => ta σ H fun x H1 => ∃ (l : Addr) (xs : List Str), x = .ref l ∧ SqL K H1 l (xs.map V.str) ∧ xs.length ≤ 4000 ∧ Q (.int (dcntS xs xs.length : Nat)) H1
theorem strsAre_of : ∀ {ys : List Str} {us : List Value}, Vals (ys.map V.str) us → StrsAre us ys
  | [], _, r => by
    cases r
    exact .nil
  | y :: ys, _, r => by
    cases r with
    | cons h t =>
      obtain ⟨tk, rfl⟩ := h
      exact .cons y tk (strsAre_of t)
end RZ
namespace EV
open PySem PySem.Spec PyProof.Rows L2
def pairW : W → Option (Key × D)
  | .d (.tup [.str k, v]) => some (.inr k, v)
  | .d (.tup [.int k, v]) => some (.inl k, v)
  | _ => none
def pairsW : List W → Option (List (Key × D))
  | [] => some []
  | w :: r => match pairW w with
    | some p => match pairsW r with
      | some l => some (p :: l)
      | none => none
    | none => none
def mergeW : List (Key × D) → List Key × List W → List Key × List W
  | [], p => p
  | kd :: r, p => mergeW r (putW p.1 p.2 kd.1 (.d kd.2))
def dictPW (own : Bool) (st : Store) : List W → Option (W × Store)
  | [w] => match listW st w with
    | some ws => match pairsW ws with
      | some l => newK own (mergeW l ([], [])).1 (mergeW l ([], [])).2 st
      | none => none
    | none => none
  | _ => none
section
variable {c : Kx} {ρ : Rho} {G H : Hp} {st : Store}
theorem two_repD {d1 d2 : D} {vs : List V} (h : RepDs c G [d1, d2] vs) : ∃ v1 v2, vs = [v1, v2] ∧ RepD c G d1 v1 ∧ RepD c G d2 v2 := by
  cases h with
  | cons r1 h =>
    cases h with
    | cons r2 h =>
      cases h
      exact ⟨_, _, rfl, r1, r2⟩
theorem pairW_ok {w : W} {v : V} {kd : Key × D} (r : RS c ρ G H st) (rv : RepW c ρ G w v) (e : pairW w = some kd) : ∃ b u, v = .ref b ∧ SqT c.K H b [kV kd.1, u] ∧ RepW c ρ G (.d kd.2) u := by
  unfold pairW at e
  split at e
  · cases e
    cases rv with
    | tup h hr =>
      obtain ⟨v1, v2, rfl, r1, r2⟩ := two_repD hr
      cases r1
      exact ⟨_, v2, rfl, SqT.same r.sub h, r2⟩
  · cases e
    cases rv with
    | tup h hr =>
      obtain ⟨v1, v2, rfl, r1, r2⟩ := two_repD hr
      cases r1
      exact ⟨_, v2, rfl, SqT.same r.sub h, r2⟩
  · cases e
theorem pairsW_ok (r : RS c ρ G H st) : ∀ {ws : List W} {us : List V} {l : List (Key × D)}, RepWs c ρ G ws us → pairsW ws = some l →
    ∃ (bs : List Addr) (vs : List V), us = bs.map V.ref ∧ bs.length = l.length ∧ (∀ (j : Nat) (b : Addr) (kv : Key × V), bs[j]? = some b → ((l.map (·.1)).zip vs)[j]? = some kv → SqT c.K H b [kV kv.1, kv.2]) ∧ vs.length = l.length ∧ RepWs c ρ G (l.map fun p => W.d p.2) vs
  | [], us, l, rv, e => by
    cases e
    have rv : us = [] := rv
    subst rv
    exact ⟨[], [], rfl, rfl, fun j b kv h => (by simp at h), rfl, rfl⟩
  | w :: ws, us, l, rv, e => by
    obtain ⟨v, vr, rfl, h1, h2⟩ := rv
    unfold pairsW at e
    cases e1 : pairW w with
    | none => rw [e1] at e; cases e
    | some kd =>
      cases e2 : pairsW ws with
      | none => rw [e1, e2] at e; cases e
      | some l2 =>
        rw [e1, e2] at e
        cases e
        obtain ⟨b, u, rfl, hT, hu⟩ := pairW_ok r h1 e1
        obtain ⟨bs, vs, rfl, hl, hall, hv, hr⟩ := pairsW_ok r h2 e2
        refine ⟨b :: bs, u :: vs, rfl, by simp [hl], fun j b' kv hj hkv => ?_, by simp [hv], ⟨u, vs, rfl, hu, hr⟩⟩
        cases j with
        | zero =>
          have hj : b = b' := by simpa using hj
          have hkv : (kd.1, u) = kv := by simpa using hkv
          subst hj hkv
          exact hT
        | succ j => exact hall j b' kv (by simpa using hj) (by simpa using hkv)
theorem mergeW_ok : ∀ {l : List (Key × D)} {us : List V} {p : List Key × List W} {vs : List V}, p.1.length = p.2.length → RepWs c ρ G p.2 vs → us.length = l.length → RepWs c ρ G (l.map fun p => W.d p.2) us →
    ∃ vs', mergeK (p.1.zip vs) ((l.map (·.1)).zip us) = (mergeW l p).1.zip vs' ∧ RepWs c ρ G (mergeW l p).2 vs'
  | [], us, p, vs, hl, hr, hu, hru => by
    have hu : us = [] := List.eq_nil_of_length_eq_zero hu
    subst hu
    exact ⟨vs, rfl, hr⟩
  | kd :: l, us, p, vs, hl, hr, hu, hru => by
    obtain ⟨u, ur, rfl, h1, h2⟩ := hru
    obtain ⟨vs', e1, e2, e3⟩ := putW_ok (k := kd.1) hl hr h1
    obtain ⟨vs2, e4, e5⟩ := mergeW_ok (l := l) (us := ur) (p := putW p.1 p.2 kd.1 (.d kd.2)) e2 e3 (by simpa using hu) h2
    refine ⟨vs2, ?_, e5⟩
    show _ = (mergeW l (putW p.1 p.2 kd.1 (.d kd.2))).1.zip vs2
    rw [← e4, ← e1]
    rfl
end
def textsW : List W → Option (List Str)
  | [] => some []
  | .d (.str i) :: r => match textsW r with
    | some ns => some (i :: ns)
    | none => none
  | _ => none
theorem textsW_ok {c : Kx} {ρ : Rho} {G : Hp} : ∀ {ws : List W} {ns : List Str} {vs : List V}, textsW ws = some ns → RepWs c ρ G ws vs → vs = ns.map V.str
  | [], ns, vs, e, r => by
    cases e
    have r : vs = [] := r
    exact r
  | w :: ws, ns, vs, e, r => by
    obtain ⟨v, vr, rfl, h1, h2⟩ := r
    unfold textsW at e
    split at e
    · rename_i e0
      cases e0
    · rename_i i r0 e0
      cases e0
      cases e2 : textsW ws with
      | none => rw [e2] at e; cases e
      | some ns2 =>
        rw [e2] at e
        cases e
        cases h1
        rw [textsW_ok e2 h2]
        rfl
    · cases e
theorem textsW_map : ∀ zs : List Str, textsW ((zs.map D.str).map W.d) = some zs
  | [] => rfl
  | z :: zs => by
    show (match textsW ((zs.map D.str).map W.d) with | some ns => some (z :: ns) | none => none) = _
    rw [textsW_map zs]
def lenSetTW (st : Store) (w : W) : Option (W × Store) :=
  match listW st w with
  | some ws => match textsW ws with
    | some ns => if ns.length ≤ 4000 then some (.d (.int (RZ.dcntS ns ns.length : Nat)), st) else none
    | none => none
  | none => none
section
variable {c : Kx} {X : Cx} {U : WX} {e : Expr} {p p2 q pos : Pos} {m : EM W}
end
section
variable {β : Type} {env : List (Option W)} {st : Store} {Q : Out β → SS → Prop} {k : W → EM β}
end
theorem dcntS_all {xs : List Str} : ∀ (i : Nat), i ≤ xs.length → (RZ.dcntS xs i = i ↔ (xs.take i).Nodup)
  | 0, _ => by simp [RZ.dcntS]
  | i + 1, h => by
    have ih := dcntS_all (xs := xs) i (by omega)
    have hle := RZ.dcntS_le xs i
    have e1 : xs.take (i + 1) = xs.take i ++ [xs.getD i Str.empty] := by
      rw [List.take_add_one, List.getD_eq_getElem?_getD, List.getElem?_eq_getElem (by omega)]
      rfl
    have e2 : (xs.take i).any (· == xs.getD i Str.empty) = true ↔ xs.getD i Str.empty ∈ xs.take i := by
      rw [List.any_eq_true]
      exact ⟨fun ⟨x, h1, h2⟩ => (by rw [← (beq_iff_eq.mp h2)]; exact h1), fun h => ⟨_, h, beq_self_eq_true _⟩⟩
    rw [e1, List.nodup_append]
    unfold RZ.dcntS
    constructor
    · intro e
      split at e
      · omega
      · rename_i hn
        refine ⟨ih.mp (by omega), by simp, fun a ha b hb q => ?_⟩
        rw [List.mem_singleton.mp hb] at q
        exact hn (e2.mpr (q ▸ ha))
    · rintro ⟨h1, _, h3⟩
      rw [if_neg fun q => h3 _ (e2.mp q) _ List.mem_cons_self rfl, ih.mpr h1]
end EV
namespace EV
open PySem PySem.Spec PyProof.Rows L2 NdefX LamX
open Classical in
noncomputable def hidS (cs : Addr → Prop) (H : Hp) : Hp := fun b => if cs b then none else H b
open Classical in
noncomputable def shown (cs : Addr → Prop) (H0 H : Hp) : Hp := fun b => if cs b then H0 b else H b
section
variable {cs : Addr → Prop} {H H0 H1 G : Hp} {b : Addr} {u : HO}
theorem hq_in (h : cs b) : hidS cs H b = none := if_pos h
theorem hq_out (h : ¬ cs b) : hidS cs H b = H b := if_neg h
theorem hq_non (h : H b = none) : hidS cs H b = none := by
  by_cases z : cs b
  · exact hq_in z
  · rw [hq_out z]; exact h
theorem hq_some (e : hidS cs H b = some u) : ¬ cs b ∧ H b = some u := by
  by_cases z : cs b
  · rw [hq_in z] at e; cases e
  · rw [hq_out z] at e; exact ⟨z, e⟩
theorem shown_in (h : cs b) : shown cs H0 H b = H0 b := if_pos h
theorem shown_out (h : ¬ cs b) : shown cs H0 H b = H b := if_neg h
theorem hq_keep (hc : ∀ b, cs b → ∃ w, H b = some (CellO b w)) (e : H b = some u) (hn : ∀ w, u ≠ CellO b w) : hidS cs H b = some u := by
  refine (hq_out fun hb => ?_).trans e
  obtain ⟨w, q⟩ := hc b hb
  rw [e] at q
  exact hn w (Option.some.inj q)
theorem hq_same (s : Same G H) : Same (hidS cs G) (hidS cs H) := fun b o e => by
  obtain ⟨z, q⟩ := hq_some e
  rw [hq_out z]
  exact s b o q
end
mutual
def noclo : D → Bool
  | .clo _ _ => false
  | .exc _ _ _ => false
  | .lst xs => noclos xs
  | .fls xs => noclos xs
  | .tup xs => noclos xs
  | .dct _ vs => noclos vs
  | .dtt _ vs => noclos vs
  | .ins _ _ vs => noclos vs
  | .non => true
  | .bl _ => true
  | .int _ => true
  | .str _ => true
  | .ref _ => true
  | .ty _ => true
def noclos : List D → Bool
  | [] => true
  | d :: ds => noclo d && noclos ds
end
theorem noclos_app : ∀ {xs ys : List D}, noclos xs = true → noclos ys = true → noclos (xs ++ ys) = true
  | [], _, _, h => h
  | x :: xs, ys, h1, h2 => by
    have h1 : (noclo x && noclos xs) = true := h1
    have h := Bool.and_eq_true_iff.mp h1
    show (noclo x && noclos (xs ++ ys)) = true
    rw [h.1, noclos_app h.2 h2]
    rfl
section
variable {cs : Addr → Prop} {c : Kx} {G : Hp}
theorem rd_hidS {a : Addr} {u : HO} (hc : ∀ b, cs b → ∃ w, G b = some (CellO b w)) (h : Rd G a u) (hn : ∀ w, u ≠ CellO a w) : Rd (hidS cs G) a u := by
  rcases h with h | ⟨o, h⟩
  · exact .inl (hq_keep hc h hn)
  · exact .inr ⟨o, hq_keep hc h fun w z => by unfold CellO at z; cases z⟩
mutual
theorem RepD.hidS (hc : ∀ b, cs b → ∃ w, G b = some (CellO b w)) : ∀ {x : D} {v : V}, noclo x = true → RepD c G x v → RepD c (hidS cs G) x v
  | _, _, _, .non => .non
  | _, _, _, .bl b => .bl b
  | _, _, _, .int i => .int i
  | _, _, _, .str x => .str x
  | _, _, _, .ref a => .ref a
  | _, _, _, .ty n => .ty n
  | _, _, n, .lst e r => .lst (hq_keep hc e fun w z => by unfold CellO at z; cases z) (RepDs.hidS hc n r)
  | _, _, n, .fls e r => .fls (by
      rcases e with e | e
      · exact .inl (rd_hidS hc e fun w z => by unfold CellO at z; cases z)
      · exact .inr e) (RepDs.hidS hc n r)
  | _, _, n, .tup e r => .tup (by
      rcases e with e | e
      · exact .inl (rd_hidS hc e fun w z => by unfold CellO at z; cases z)
      · exact .inr e) (RepDs.hidS hc n r)
  | _, _, n, .dct e l r => .dct (rd_hidS hc e fun w z => by unfold CellO at z; cases z) l (RepDs.hidS hc n r)
  | _, _, n, .dtt e l r => .dtt (rd_hidS hc e fun w z => by unfold CellO at z; cases z) l (RepDs.hidS hc n r)
  | _, _, n, .ins k f e e2 l r => .ins k f (hq_keep hc e fun w z => by unfold CellO at z; cases z) (hq_keep hc e2 fun w z => by unfold CellO at z; cases z) l (RepDs.hidS hc n r)
  | _, _, n, .exc0 _ _ => by cases n
  | _, _, n, .excD _ _ _ _ _ => by cases n
  | _, _, n, .clo _ _ _ _ _ => by cases n
theorem RepDs.hidS (hc : ∀ b, cs b → ∃ w, G b = some (CellO b w)) : ∀ {xs : List D} {vs : List V}, noclos xs = true → RepDs c G xs vs → RepDs c (hidS cs G) xs vs
  | _, _, _, .nil => .nil
  | _, _, n, .cons a r => have h := Bool.and_eq_true_iff.mp n; .cons (RepD.hidS hc h.1 a) (RepDs.hidS hc h.2 r)
end
end
structure CloOk (P : Program) (w : World) (c : Kx) (mg : Str → Option Value) (base : Heap) (k i np : Nat) (F : FP) : Prop where
  run : ∀ s : NFS, c.nf[i]? = some s → ∃ ps : List Str, ps.length = np ∧ ∀ (f : Addr) (cl : List (Str × Addr)) (a : Addr), NOk P w c.K mg base (L2.CX P w) k f (s.of cl a) ps s.fr (fun ws vs H Q E => ∃ vs2 : List V, ws = vs2.map some ∧ vs.length = ps.length ∧ spP c (np + s.fr.length) F (vs ++ vs2) H Q E)
section
variable {P : Program} {w : World} {c : Kx} {mg : Str → Option Value} {base : Heap}
theorem CloOk.mono {j k i np : Nat} {F : FP} (h : CloOk P w c mg base j i np F) (hk : j ≤ k) : CloOk P w c mg base k i np F :=
  ⟨fun s e => let ⟨ps, l, q⟩ := h.run s e; ⟨ps, l, fun f cl a => (q f cl a).mono hk⟩⟩
theorem CloOk.of {s : NFS} {N ps : List Str} {k i : Nat} {m : EM Fl} (hi : c.nf[i]? = some s) (S : NScope N ps s.fr (C8.fnScope s.st))
    (hb : ∀ (cl : List (Str × Addr)) (a : Addr) (doc pm ctv : Value) (us : List Value), us.length = ps.length → bindArgs ((s.of cl a).fd doc pm ctv) ⟨us, []⟩ = pure (ps.zip us))
    (hbody : ∀ (f : Addr) (cl : List (Str × Addr)) (a : Addr) (A : Around) (outer : List Env) (s0 : Shared) (H : Hp) (E : XK), Room k (A.deeper (envF (s.of cl a) f s0.heap.objs.size)) →
      ESs c (ncx (L2.CX P w) P w c.K mg base N (s.of cl a) f A outer s0 H E) (wx E) (C8.fnBody s.st) m) :
    CloOk P w c mg base (k + 1) i ps.length (pureP (bodyF N.length m)) := by
  refine ⟨fun s' e => ?_⟩
  rw [hi] at e
  cases e
  refine ⟨ps, rfl, fun f cl a => nok_of (F := s.of cl a) S (hb cl a) (fun ws vs H Q E q => let ⟨_, _, l, _⟩ := q; l) fun A outer s0 H vs ws Q E hr _ _ hl q => ?_⟩
  obtain ⟨vs2, rfl, l, q⟩ := q
  refine ⟨_, (hbody f cl a A outer s0 H E hr).ps, ?_⟩
  have z := wish_of (N := N) (m := m) (spP_of q)
  have e : startF N vs (vs2.map some) = L2.start N (vs ++ vs2) := by
    unfold startF L2.start
    rw [List.map_append, List.append_assoc, List.length_map, List.length_append, Nat.sub_sub]
  rw [e]
  exact z
theorem clo_run {A : Around} {outer : List Env} {s : Shared} {G H : Hp} {us : List Value} {vs : List V} {Q : VK} {i np k : Nat} {F : FP} {es ds : List D} {a : Addr} {d : D} (C : CloOk P w c mg base k i np F) (hr : Room k A) (e0 : Env0 P w c.K mg base A outer s H) (sG : Same G H)
    (rc : RepD c G (.clo i es) (.ref a)) (rd : RepDs c G ds vs) (n1 : noclos es = true) (n2 : noclos ds = true) (hl : ds.length = np) (hF : F (ds ++ es) = some (.ok d)) (r : Vals vs us) (hq : ∀ v G' H', Grown G H G' H' → RepD c G' d v → Q v H') :
    codeAny (model P w) A (.call (.ref a) ⟨us, []⟩) (CR (L2.CX P w) outer P w H s Q fun _ _ _ => False) s := by
  cases rc with
  | @clo _ a' cl sn _ _ vs2 hi hf hcd cap res =>
  obtain ⟨ps, lp, run⟩ := C.run sn hi
  generalize hcs : (fun b => ∃ y, cl.lookup y = some b) = cs
  have inC : ∀ {b}, cs b → ∃ w, G b = some (CellO b w) := fun {b} hb => by
    rw [← hcs] at hb
    obtain ⟨y, q⟩ := hb
    exact cap.all y b q
  have inH : ∀ {b}, cs b → ∃ w, H b = some (CellO b w) := fun hb => let ⟨u, q⟩ := inC hb; ⟨u, sG _ _ q⟩
  have cellAt : ∀ {b u}, H b = some (CellO b u) → s.heap.IsCell b (some u) := fun {b u} q => by
    have x : ObjOk P w H s.heap b (.ext fun h => h.IsCell b (some u)) := e0.hok b _ q
    exact x.1
  have offA : ¬ cs a := fun hb => by
    obtain ⟨u, q⟩ := inH hb
    obtain ⟨o1, h1, d1⟩ := cellAt q
    obtain ⟨od, sl, doc, pm, ctv, h2⟩ := fnO_at e0.hok (sG _ _ hf)
    rw [h1] at h2
    cases h2
    cases d1
  have offC : ¬ cs a' := fun hb => by
    obtain ⟨u, q⟩ := inH hb
    obtain ⟨o1, h1, d1⟩ := cellAt q
    obtain ⟨c1, o2, vs1, t1, e1, h2, d2, _⟩ := codeO_at e0.hok (sG _ _ hcd)
    cases e1
    rw [h1] at h2
    cases h2
    rw [d1] at d2
    cases d2
  have hok0 : HOk P w (hidS cs H) s.heap := fun b o e => by
    obtain ⟨z, e⟩ := hq_some e
    exact (e0.hok b o e).stay (fun _ _ _ q => q) (fun b' q => hq_keep (fun _ => inH) q fun w z => by unfold CellO at z; cases z) fun b' xs q => hq_keep (fun _ => inH) q fun w z => by unfold CellO at z; cases z
  have e1 : Env0 P w c.K mg base A outer s (hidS cs H) := ⟨e0.frames, e0.mod, fun b o q => ⟨(e0.bs b o q).1, hq_non (e0.bs b o q).2⟩, e0.bsz, e0.funs, fun b hb => hq_non (e0.frf b hb), hok0, e0.bare⟩
  have cells : CellsAt (sn.of cl a').cl sn.fr (vs2.map some) s.heap (hidS cs H) := by
    refine ⟨by rw [List.length_map]; exact cap.len, fun y b q => ?_, cap.inj, fun j y q => ?_⟩
    · have hb : cs b := by rw [← hcs]; exact ⟨y, q⟩
      obtain ⟨u, q2⟩ := inH hb
      exact ⟨hq_in hb, _, cellAt q2⟩
    · obtain ⟨b, v, u, h1, h2, h3, h4⟩ := cap.has j y q
      refine ⟨b, h1, fun v' q2 => ⟨u, ?_, cellAt (sG _ _ h4)⟩⟩
      rw [List.getElem?_map, h2] at q2
      cases q2
      exact h3
  have sp : spP c (np + sn.fr.length) F (vs ++ vs2) (hidS cs H) (fun v H1 => ∃ G1, Grown (hidS cs G) (hidS cs H) G1 H1 ∧ RepD c G1 d v) (fun _ _ _ => False) := by
    refine ⟨hidS cs G, ds ++ es, hq_same sG, (RepDs.hidS (fun _ => inC) n2 rd).app (RepDs.hidS (fun _ => inC) n1 res), ?_, ?_⟩
    · rw [List.length_append, hl, ← res.len, cap.len]
    · rw [hF]
      exact fun v G' H' g rv => ⟨G', g, rv⟩
  refine codeAny_mono ((run a cl a').run A outer s (hidS cs H) us vs (vs2.map some) _ _ hr e1 ((hq_out offA).trans (sG _ _ hf)) ((hq_out offC).trans (sG _ _ hcd)) cells r ⟨vs2, rfl, by rw [rd.len, hl, lp], sp⟩) fun res' s' h => ?_
  cases res' with
  | error e =>
    obtain ⟨_, _, _, _, _, _, _, _, _, _, _, _, z⟩ := (show L2.CX P w outer (hidS cs H) s (fun _ _ _ => False) e s' from h)
    exact z.elim
  | ok fl =>
    cases fl with
    | next => exact False.elim h
    | brk => exact False.elim h
    | cont => exact False.elim h
    | ret u =>
      obtain ⟨v, H1, os, bare, un, hok1, rv, G1, g, rd1⟩ := (show CE outer P w (hidS cs H) s _ u s' from h)
      have gone : ∀ {b}, cs b → H1 b = none := fun {b} hb => by
        obtain ⟨u1, q⟩ := inH hb
        obtain ⟨o1, h1, _⟩ := cellAt q
        exact un.free b o1 h1 (hq_in hb) (by simp)
      have keepU : ∀ {b x}, H b = some x → (∀ w, x ≠ CellO b w) → hidS cs H b = some x := fun {b x} q n => hq_keep (fun _ => inH) q n
      have off : ∀ {b x}, H1 b = some x → ¬ cs b := fun {b x} q z => by rw [gone z] at q; cases q
      have un2 : Un (frs outer) [] H (shown cs H H1) s.heap s'.heap := by
        refine ⟨fun b o h1 h2 h3 h4 => un.keep b o h1 (hq_non h2) h3 h4, fun b o h1 h2 h3 h4 => un.slot b o h1 (hq_non h2) h3 h4, fun b o h1 h2 h3 => ?_, un.there, fun b xs q => ?_, fun b o x q => ?_, fun b ps q => ?_⟩
        · by_cases z : cs b
          · rw [shown_in z]; exact h2
          · rw [shown_out z]; exact un.free b o h1 (hq_non h2) h3
        · have q1 := un.tups b xs (keepU q fun w z => by unfold CellO at z; cases z)
          rw [shown_out (off q1)]; exact q1
        · have q1 := un.frzs b o x (keepU q fun w z => by unfold CellO at z; cases z)
          rw [shown_out (off q1)]; exact q1
        · obtain ⟨more, q1⟩ := un.tbls b ps (keepU q fun w z => by unfold CellO at z; cases z)
          exact ⟨more, by rw [shown_out (off q1)]; exact q1⟩
      have hok2 : HOk P w (shown cs H H1) s'.heap := fun b o q => by
        by_cases z : cs b
        · rw [shown_in z] at q
          obtain ⟨u1, q1⟩ := inH z
          have q2 := q.symm.trans q1
          cases q2
          have x : ObjOk P w H s.heap b (.ext fun h => h.IsCell b (some u1)) := e0.hok b _ q
          obtain ⟨p1, ⟨o1, h1⟩, st⟩ := x
          have nf : b ∉ frs outer := fun hb => by rw [e0.frf b hb] at q; cases q
          have h2 := un.keep b o1 h1 (hq_in z) nf (by simp)
          exact ⟨st _ _ p1 fun o q => (by rw [h1] at q; cases q; exact h2), ⟨o1, h2⟩, st⟩
        · rw [shown_out z] at q
          exact (hok1 b o q).stay (fun _ _ _ q => q) (fun b' q => by rw [shown_out (off q)]; exact q) fun b' xs q => by rw [shown_out (off q)]; exact q
      refine ⟨v, shown cs H H1, os, bare, un2, hok2, rv, hq v (shown cs G G1) _ ⟨fun b o q => ?_, fun b o q => ?_, fun b o q => ?_, fun b o q q2 => ?_⟩ (rd1.mono fun b o q => ?_)⟩
      · by_cases z : cs b
        · rw [shown_in z]; exact q
        · rw [shown_out z]; exact g.sH b o ((hq_out z).trans q)
      · by_cases z : cs b
        · rw [shown_in z]; exact q
        · rw [shown_out z]; exact g.sG b o ((hq_out z).trans q)
      · by_cases z : cs b
        · rw [shown_in z] at q ⊢; exact sG b o q
        · rw [shown_out z] at q ⊢; exact g.sub b o q
      · by_cases z : cs b
        · rw [shown_in z, q] at q2; cases q2
        · rw [shown_out z] at q2
          exact (hq_out z).symm.trans (g.fr b o ((hq_out z).trans q) q2)
      · rw [shown_out (off (g.sub b o q))]; exact q
end
def cloI : W → EM (Nat × List D)
  | .d (.clo i es) => pur (i, es)
  | _ => non
def cloG (tbl : List (Nat × Nat × FP)) (i : Nat) (es : List D) (ws : List W) : EM W := match tbl.lookup i, allD ws with
  | some (np, F), some ds => if ds.length = np ∧ noclos es = true ∧ noclos ds = true then match F (ds ++ es) with
    | some (.ok d) => pur (.d d)
    | _ => non
    else non
  | _, _ => non
def callC (tbl : List (Nat × Nat × FP)) (mf : EM W) (ma : EM (List W)) : EM W := bnd mf fun f => bnd (cloI f) fun p => bnd ma fun ws => cloG tbl p.1 p.2 ws
section
variable {X : Cx} {c : Kx} {U : WX} {k : Nat} {fx : Expr} {pos : Pos} {e : Expr} {es : List Expr} {mf : EM W} {ma : EM (List W)} {tbl : List (Nat × Nat × FP)}
theorem ee_callC (ht : ∀ i np F, tbl.lookup i = some (np, F) → CloOk X.prog X.w c X.mg X.base k i np F) (hr : Room k X.A) (hf : EE c X U fx mf) (ha : EA c X U (e :: es) ma)
    (he : starEach (e :: es) X.env = (false, eval e X.env) :: starEach es X.env := by rfl) (hpl : (backTo pos (starEach es X.env)).any (·.1) = false := by rfl)
    (h0 : eval (.Call fx (e :: es) [] pos) X.env = (do callWith pos (← eval fx X.env) [] (backTo pos (starEach (e :: es) X.env)) (backToKw pos (keywordEach [] X.env))) := by rfl) :
    EE c X U (.Call fx (e :: es) [] pos) (callC tbl mf ma) := by
  refine ⟨ha.K, ⟨fun pins s σ H Q I ⟨ρ, G, s0, hR, w⟩ => ?_⟩⟩
  refine Call_ (he := h0) (thn (hf.pe.run pins s σ H (fun v H1 => ∃ f ρ1 G1 s1, R c ρ1 G1 σ H1 s1 ∧ RepW c ρ1 G1 f v ∧ Wp c U (bnd (cloI f) fun p => bnd ma fun ws => cloG tbl p.1 p.2 ws) ρ1 G1 σ H1 s1 (fun w ρ' G' H' _ => ∀ v, RepW c ρ' G' w v → Q v H')) I
    ⟨ρ, G, s0, hR, (Wp.bnd hR w).imp fun f ρ1 G1 H1 s1 ⟨S1, R1, w1⟩ v rv => ⟨f, ρ1, G1, s1, R1, rv, w1⟩⟩) fun u s1 ⟨v, H1, I1, ru, f, ρ1, G1, t1, R1, rv, w1⟩ => ?_)
  cases f with
  | loc n => exact w1.none rfl
  | d y =>
  cases y with
  | clo i cap =>
    have w2 : Wp c U (bnd ma fun ws => cloG tbl i cap ws) ρ1 G1 σ H1 t1 (fun w ρ' G' H' _ => ∀ v, RepW c ρ' G' w v → Q v H') := w1
    have rv : RepD c G1 (.clo i cap) v := rv
    obtain ⟨a, rfl⟩ : ∃ a, v = .ref a := by cases rv; exact ⟨_, rfl⟩
    obtain rfl : u = Value.ref a := ru
    have fat : ∀ {H2 G2 s2}, Inv X pins σ H2 s2 → Same G1 G2 → Same G2 H2 → PySem.W.FnAt a s2.heap := fun {H2 G2 s2} I2 sg sh => by
      cases rv with
      | clo _ h _ _ _ => exact fnAt_of I2 (sh _ _ (sg _ _ h))
    refine PySem.W.callWith_F (first := []) (fat I1 (Same.refl _) R1.rs.sub) (thn (ha.pa.run pos pins s1 σ H1 (fun vs H2 => ∃ ws ρ2 G2 s2, Same G1 G2 ∧ R c ρ2 G2 σ H2 s2 ∧ RepWs c ρ2 G2 ws vs ∧ Wp c U (cloG tbl i cap ws) ρ2 G2 σ H2 s2 (fun w ρ' G' H' _ => ∀ v, RepW c ρ' G' w v → Q v H')) I1
      ⟨ρ1, G1, t1, R1, (Wp.bnd R1 w2).imp fun ws ρ2 G2 H2 s2 ⟨S2, R2, w3⟩ vs rvs => ⟨ws, ρ2, G2, s2, S2.same, R2, rvs, w3⟩⟩) fun us s2 ⟨vs, H2, I2, rus, ws, ρ2, G2, t2, sg, R2, rvs, w3⟩ => ⟨fat I2 sg R2.rs.sub, ?_⟩) he hpl
    show wpAny _ _ (call (.ref a) us) _ _ _
    cases et : tbl.lookup i with
    | none => exact w3.none (by unfold cloG; rw [et]; rfl)
    | some q =>
    obtain ⟨np, F⟩ := q
    cases ea : allD ws with
    | none => exact w3.none (by unfold cloG; rw [et, ea]; rfl)
    | some ds =>
    by_cases hc : ds.length = np ∧ noclos cap = true ∧ noclos ds = true
    · obtain ⟨h1, h2, h3⟩ := hc
      cases eF : F (ds ++ cap) with
      | none => exact w3.none (by unfold cloG; rw [et, ea]; simp only [h1, h2, h3, eF, and_self, if_true]; rfl)
      | some o =>
      cases o with
      | ex _ _ _ => exact w3.none (by unfold cloG; rw [et, ea]; simp only [h1, h2, h3, eF, and_self, if_true]; rfl)
      | ok d =>
        have e4 : cloG tbl i cap ws = pur (.d d) := by unfold cloG; rw [et, ea]; simp only [h1, h2, h3, eF, and_self, if_true]
        rw [e4] at w3
        obtain rfl := allD_eq ea
        have env := I2.env0
        rw [ha.K] at env
        refine wpAny_call (codeAny_mono (clo_run (Q := Q) (ht i np F et) hr env R2.rs.sub (rv.mono sg) (RepWs.toD rvs) h2 h3 h1 eF rus fun v G' H' g rd => ?_) fun r s' hq => ?_)
        · obtain ⟨S, r'⟩ := called R2.rs g.sH g.sG g.sub g.fr
          exact Wp.okE (s' := t2) (a := W.d d) rfl w3 ρ2 G' H' S ⟨r', R2.env.mono S.rho S.same, R2.len⟩ v rd
        · cases r with
          | error e =>
            obtain ⟨_, _, _, _, _, _, _, _, _, _, _, _, z⟩ := (show L2.CX X.prog X.w X.stack H2 s2 (fun _ _ _ => False) e s' from hq)
            exact z.elim
          | ok fl =>
            cases fl with
            | ret u => exact I2.after hq
            | next => exact False.elim hq
            | brk => exact False.elim hq
            | cont => exact False.elim hq
    · exact w3.none (by unfold cloG; rw [et, ea]; simp only [hc, if_false]; rfl)
  | _ => exact w1.none rfl
end
end EV
namespace EV
open PySem PySem.Spec PyProof.Rows L2 NdefX LamX
theorem wp_app {M : Model} {Γ : PySem.Ctx} {Q : Flow → Pos → Shared → Prop} {E : Value → Pos → Shared → Prop} {env : Env} {ys : List Stmt} : ∀ (xs : List Stmt) (p : Pos) (s : Shared), Sem.wp M Γ (execs xs env) (fun fl p' s' => match fl with
    | .next => Sem.wp M Γ (execs ys env) Q E p' s'
    | f => Q f p' s') E p s → Sem.wp M Γ (execs (xs ++ ys) env) Q E p s
  | [], p, s, h => h
  | x :: xs, p, s, h => by
    rw [execs_cons, Sem.wp_bind'] at h
    show Sem.wp M Γ (execs (x :: (xs ++ ys)) env) Q E p s
    rw [execs_cons, Sem.wp_bind']
    refine Sem.wp_mono M Γ _ (fun fl p' s' q => ?_) (fun _ _ _ q => q) p s h
    cases fl with
    | next => exact wp_app xs p' s' q
    | ret v => exact q
    | brk => exact q
    | cont => exact q
theorem execs_app {M : Model} {A : Around} {E : Value → Shared → Prop} {Q : Flow → Shared → Prop} {env : Env} {xs ys : List Stmt} {s : Shared} (h : wpAny M A (execs xs env) (fun fl s' => match fl with
    | .next => wpAny M A (execs ys env) Q E s'
    | f => Q f s') E s) : wpAny M A (execs (xs ++ ys) env) Q E s := fun Γ p hΓ => wp_app xs p s (Sem.wp_mono M Γ _ (fun fl p' s' q => by
  cases fl with
  | next => exact q Γ p' hΓ
  | ret v => exact q
  | brk => exact q
  | cont => exact q) (fun _ _ _ q => q) p s (h Γ p hΓ))
theorem upd_comm {H : Hp} {a b : Addr} {x y : HO} (h : a ≠ b) : upd (upd H a x) b y = upd (upd H b y) a x := by
  funext z
  unfold upd
  by_cases h1 : z = b
  · subst h1
    simp only [if_true]
    rw [if_neg (Ne.symm h)]
  · simp only [h1, if_false]
theorem set_same {α : Type} : ∀ {l : List α} {n : Nat} {x : α}, l[n]? = some x → l.set n x = l
  | [], _, _, h => by simp at h
  | y :: l, 0, x, h => by simp at h; subst h; rfl
  | y :: l, n + 1, x, h => by
    show y :: l.set n x = y :: l
    rw [set_same (by simpa using h)]
structure DefSt (X : Cx) (c : Kx) (j k : Nat) (st : Stmt) (s : NFS) : Prop where
  hi : c.nf[k]? = some s
  eq : ∃ pos : Pos, st = .FunctionDef s.name (C8.fnArgs s.st) (C8.fnBody s.st) [] none [] (C8.fnScope s.st) none s.name pos ∧ c.tn pos.line pos.col = s.qual
  qn : s.qual = X.env.qual ++ s.name
  free : ∀ y ∈ (C8.fnScope s.st).names, y.2 = .free → y.1 ∈ s.fr ∧ (X.env.scope.names.lookup y.1 = some .cell ∨ X.env.scope.names.lookup y.1 = some .free)
  d0 : (C8.fnArgs s.st).defaults = []
  k0 : (C8.fnArgs s.st).kw_defaults = []
  an : annTrees (C8.fnArgs s.st) none X.env = []
  at_ : X.N[j]? = some s.name
  loc : X.env.scope.names.lookup s.name = some .local
section
variable {X : Cx} {c : Kx} {pins : List (Addr × Obj)} {σ : L2.St} {ρ : Rho} {G H : Hp} {sh : Shared} {st : Store} {j k n : Nat} {d : Stmt} {s : NFS} {cc : Addr} {p : Addr × Addr}
abbrev clOf (X : Cx) (s : NFS) : List (Str × Addr) := cloFrom X.env.cells (C8.fnScope s.st).names []
theorem def_run {Q : Flow → Shared → Prop} {E : Value → Shared → Prop} (D : DefSt X c j k d s) (nd : X.N.Nodup) (I : Inv X pins σ H sh) (r : RS c ρ G H st) (hp : ρ[n]? = some p) (ho : st[n]? = some (some .tab)) (TB : TabB X.base X.mg cc c.tp) (hcode : X.env.code = .ref cc)
    (h : ∀ f a' G1 H1 sh1, Stp ρ G H st ρ G1 H1 st → RS c ρ G1 H1 st → Inv X pins (σ.set j (some (.ref f))) H1 sh1 → G1 f = some (FnO f (s.of (clOf X s) a')) → G1 a' = some (CodeO a' s.qual) → Q .next sh1) :
    wpAny (model X.prog X.w) X.A (exec d X.env) Q E sh := by
  obtain ⟨pos, e, tn⟩ := D.eq
  subst e
  have hq : qualnameIn X.env s.name s.name = X.env.qual ++ s.name := by
    have kl : X.env.kindOf s.name = some .local := D.loc
    unfold qualnameIn
    rw [kl]
    rfl
  refine PySem.W.nestDef_K D.d0 D.k0 D.an ?_
  rw [hq]
  obtain ⟨g1, g2, q1, q2, ps, hP, ht, hk⟩ := r.own n p .tab hp ho
  rw [q2] at hP
  have bP : sh.heap.BuiltinsAt X.mg c.tp := TB.bm.keeps I.bk
  have hP' : sh.heap.get? c.tp = some { cls := .none, data := .fields ps } := I.hok c.tp _ hP
  have has : ∀ y ∈ (C8.fnScope s.st).names, y.2 = .free → ∃ a, X.env.cells.lookup y.1 = some a := fun y hy e => (D.free y hy e).2.elim (fun z => I.ok.has _ (.inl z)) fun z => I.ok.has _ (.inr z)
  have own1 : ∀ {G1 H1 : Hp} {ps1 : Array Value}, H1 c.tp = some (.tbl ps1) → TriplesOk ps1.toList → (∀ (pos : Pos) (cv : Value), codeAmong pos ps1.toList = some cv → ∃ a, cv = .ref a ∧ G1 a = some (CodeO a (c.tn pos.line pos.col))) → OwnOk c ρ G1 H1 p .tab :=
    fun {G1 H1 ps1} a b d => ⟨q1, q2, ps1, by rw [q2]; exact a, b, d⟩
  cases hc : codeAmong pos ps.toList with
  | none =>
    refine PySem.W.makeFunction_K (mg := X.mg) (c := cc) (P := c.tp) (ps := ps) (closure_ok has) I.ok.glob (I.mod.glob.keeps I.bk) hcode (TB.code.keeps I.bk) hP' ht hc TB.gP bP fun a' ctv doc h' tk hx hge hlt hrec htb => ?_
    obtain ⟨a2, oc, us, t, e2, hoc, hd, hv⟩ := hrec
    cases e2
    have nA : H a' = none := I.hok.fresh hge
    have neP : a' ≠ c.tp := fun z => by rw [z, hP] at nA; cases nA
    have I1 := inv_table (q := X.env.qual ++ s.name) (t' := tk) (more := #[rawInt pos.line, rawInt pos.col, .ref a']) (h' := h') I hP (fun b o hb z => hx b o hb z) htb hge ⟨oc, us, t, hoc, hd, hv⟩
    have I2 := inv_fn (F := ⟨s.name, X.env.qual ++ s.name, C8.fnArgs s.st, C8.fnBody s.st, C8.fnScope s.st, clOf X s, a'⟩) (t' := tk) (doc := doc) (pm := (X.mg "__name__").getD .none) (ctv := ctv) I1 rfl
    have nF := I1.hok.fresh (Nat.le_refl _)
    obtain ⟨S1, r1⟩ := new_frozen (o := CodeO a' (X.env.qual ++ s.name)) r nA
    have eL : (ps ++ #[rawInt pos.line, rawInt pos.col, .ref a']).toList = ps.toList ++ [rawInt pos.line, rawInt pos.col, .ref a'] := by simp
    obtain ⟨S2, r2⟩ := written (u := .tbl (ps ++ #[rawInt pos.line, rawInt pos.col, .ref a'])) r1 hp ho (o' := .tab) (own1 (by rw [q2]; exact upd_same) (by rw [eL]; exact PySem.TriplesOk_snoc _ _ _ _ ht) fun p' cv hcv => by
      rw [eL] at hcv
      rcases among_app2 _ ht hcv with z | ⟨z, z1, z2⟩
      · obtain ⟨a0, x1, x2⟩ := hk p' cv z
        exact ⟨a0, x1, by rw [upd_ne (fun y => by rw [y] at x2; have := r.sub _ _ x2; rw [nA] at this; cases this)]; exact x2⟩
      · refine ⟨a', z, ?_⟩
        rw [← z1, ← z2, tn, D.qn]
        exact upd_same)
    rw [q2, upd_comm neP, set_same ho] at S2 r2
    obtain ⟨S3, r3⟩ := new_frozen (o := FnO h'.objs.size ⟨s.name, X.env.qual ++ s.name, C8.fnArgs s.st, C8.fnBody s.st, C8.fnScope s.st, clOf X s, a'⟩) r2 nF
    refine store_ok I2 nd D.at_ (.inl D.loc) (v := .ref h'.objs.size) rfl (fun s'' J => h h'.objs.size a' _ _ s'' ((S1.trans r.len S2).trans r.len S3) r3 J ?_ ?_) (.inr D.loc)
    · rw [upd_same]
      unfold NFS.of NF.of
      rw [D.qn]
    · have : a' ≠ h'.objs.size := Nat.ne_of_lt hlt
      rw [upd_ne this, upd_same, D.qn]
  | some cv =>
    obtain ⟨a', e, hco⟩ := hk pos cv hc
    subst e
    rw [tn] at hco
    refine PySem.W.makeFunction_hit (mg := X.mg) (c := cc) (P := c.tp) (ps := ps) (closure_ok has) I.ok.glob (I.mod.glob.keeps I.bk) hcode (TB.code.keeps I.bk) hP' ht hc bP fun ctv doc h' tk hx hsz => ?_
    have I1 : Inv X pins σ H { sh with heap := h', toks := tk } := I.kept hx
    have nF : H h'.objs.size = none := I1.hok.fresh (Nat.le_refl _)
    have I2 := inv_fn (F := ⟨s.name, X.env.qual ++ s.name, C8.fnArgs s.st, C8.fnBody s.st, C8.fnScope s.st, clOf X s, a'⟩) (t' := tk) (doc := doc) (pm := (X.mg "__name__").getD .none) (ctv := ctv) I1 rfl
    obtain ⟨S3, r3⟩ := new_frozen (o := FnO h'.objs.size ⟨s.name, X.env.qual ++ s.name, C8.fnArgs s.st, C8.fnBody s.st, C8.fnScope s.st, clOf X s, a'⟩) r nF
    refine store_ok I2 nd D.at_ (.inl D.loc) (v := .ref h'.objs.size) rfl (fun s'' J => h h'.objs.size a' _ _ s'' S3 r3 J ?_ ?_) (.inr D.loc)
    · rw [upd_same]
      unfold NFS.of NF.of
      rw [D.qn]
    · exact S3.same _ _ hco
theorem add_cells : ∀ (L : List (Addr × Value)) (G H : Hp), (L.map (·.1)).Nodup → (∀ q ∈ L, H q.1 = none) → RS c ρ G H st → ∃ G' H', Stp ρ G H st ρ G' H' st ∧ RS c ρ G' H' st ∧ (∀ q ∈ L, G' q.1 = some (CellO q.1 q.2)) ∧ (∀ b, b ∉ L.map (·.1) → H' b = H b) ∧ ∀ q ∈ L, H' q.1 = some (CellO q.1 q.2)
  | [], G, H, _, _, r => ⟨G, H, Stp.refl, r, fun q hq => (by cases hq), fun _ _ => rfl, fun q hq => (by cases hq)⟩
  | q0 :: L, G, H, nd, hn, r => by
    have nd2 := List.nodup_cons.mp nd
    obtain ⟨S1, r1⟩ := new_frozen (o := CellO q0.1 q0.2) r (hn q0 (by simp))
    obtain ⟨G', H', S2, r2, h1, h2, h3⟩ := add_cells L _ _ nd2.2 (fun q hq => by
      rw [upd_ne (fun e => nd2.1 (List.mem_map.mpr ⟨q, hq, e⟩))]
      exact hn q (by simp [hq])) r1
    have g0 := S2.same _ _ (show upd G q0.1 (CellO q0.1 q0.2) q0.1 = some _ from upd_same)
    refine ⟨G', H', S1.trans r.len S2, r2, fun q hq => ?_, fun b hb => ?_, fun q hq => ?_⟩
    · rcases List.mem_cons.mp hq with e | hq
      · rw [e]; exact g0
      · exact h1 q hq
    · rw [h2 b (fun z => hb (by rw [List.map_cons]; exact List.mem_cons_of_mem _ z))]
      exact upd_ne (fun e => hb (by rw [e]; simp))
    · rcases List.mem_cons.mp hq with e | hq
      · rw [e]; exact r2.sub _ _ g0
      · exact h3 q hq
theorem cell_val (I : Inv X pins σ H sh) {y : Str} {i : Nat} {v : V} (hi : X.N[i]? = some y) (hv : σ[i]? = some (some v)) (hk : X.env.scope.names.lookup y = some .cell) : ∃ a u, X.env.cells.lookup y = some a ∧ RelV v u ∧ sh.heap.IsCell a (some u) := by
  obtain ⟨m, _, hl⟩ := I.loc
  obtain ⟨u, rv, l⟩ := hl i y v hi hv (.inr (.inl hk))
  rcases l with ⟨z, _⟩ | ⟨_, a, ha, hc⟩
  · have z : X.env.scope.names.lookup y = some .local := z
    rw [hk] at z
    cases z
  · exact ⟨a, u, ha, rv, hc⟩
theorem cell_list (I : Inv X pins σ H sh) : ∀ (js : List Nat) (ys : List Str) (vs : List V), js.map (fun j => X.N[j]?) = ys.map some → js.map (fun j => σ[j]?) = vs.map (fun v => some (some v)) → (∀ y ∈ ys, X.env.scope.names.lookup y = some .cell) → ys.Nodup →
    ∃ L : List (Addr × Value), L.length = ys.length ∧ (L.map (·.1)).Nodup ∧ (∀ (i : Nat) (y : Str), ys[i]? = some y → ∃ a u v, L[i]? = some (a, u) ∧ vs[i]? = some v ∧ RelV v u ∧ X.env.cells.lookup y = some a) ∧ (∀ q ∈ L, sh.heap.IsCell q.1 (some q.2) ∧ ∃ y ∈ ys, X.env.cells.lookup y = some q.1)
  | [], [], [], _, _, _, _ => ⟨[], rfl, List.nodup_nil, fun i y h => (by simp at h), fun q h => (by cases h)⟩
  | j :: js, y :: ys, v :: vs, h1, h2, hk, nd => by
    simp only [List.map_cons, List.cons.injEq] at h1 h2
    have nd2 := List.nodup_cons.mp nd
    obtain ⟨L, l1, l2, l3, l4⟩ := cell_list I js ys vs h1.2 h2.2 (fun y hy => hk y (by simp [hy])) nd2.2
    obtain ⟨a, u, ha, rv, hc⟩ := cell_val I h1.1 h2.1 (hk y (by simp))
    refine ⟨(a, u) :: L, by simp [l1], ?_, fun i z hz => ?_, fun q hq => ?_⟩
    · refine List.nodup_cons.mpr ⟨fun hm => ?_, l2⟩
      obtain ⟨q, hq, e⟩ := List.mem_map.mp hm
      obtain ⟨_, y', hy', e'⟩ := l4 q hq
      rw [e] at e'
      exact nd2.1 (by rw [I.ok.inj y y' a ha e']; exact hy')
    · cases i with
      | zero => simp at hz; subst hz; exact ⟨a, u, v, rfl, rfl, rv, ha⟩
      | succ i => simp at hz; obtain ⟨a', u', v', x1, x2, x3, x4⟩ := l3 i z hz; exact ⟨a', u', v', by simpa using x1, by simpa using x2, x3, x4⟩
    · rcases List.mem_cons.mp hq with e | hq
      · subst e; exact ⟨hc, y, by simp, ha⟩
      · obtain ⟨x1, y', hy', e'⟩ := l4 q hq; exact ⟨x1, y', by simp [hy'], e'⟩
  | [], [], _ :: _, _, h2, _, _ => by simp at h2
  | [], _ :: _, _, h1, _, _, _ => by simp at h1
  | _ :: _, [], _, h1, _, _, _ => by simp at h1
  | _ :: _, _ :: _, [], _, h2, _, _ => by simp at h2
end
def capsW (env : List (Option W)) : List Nat → Option (List W)
  | [] => some []
  | j :: js => match env[j]?, capsW env js with
    | some (some w), some ws => some (w :: ws)
    | _, _ => none
def bodyC (n : Nat) (m : EM Fl) (i1 : Nat) (js1 : List Nat) (i2 : Nat) (js2 : List Nat) (ws : List W) (st : Store) : Option (Out W × Store) := match m (initS n ws st) with
  | some (.ok .nx, s) => match capsW s.env js1, capsW s.env js2 with
    | some w1, some w2 => match fzL (fz 20) w1 s.st with
      | some (d1, st1) => match fzL (fz 20) w2 st1 with
        | some (d2, st2) => match st2[0]? with
          | some (some OO.tab) => some (.ok (.d (.tup [.clo i1 d1, .clo i2 d2])), st2)
          | _ => none
        | none => none
      | none => none
    | _, _ => none
  | _ => none
section
variable {c : Kx} {ρ : Rho} {G H : Hp} {σ : L2.St}
theorem capsW_ok {env : List (Option W)} (h : EnvOk c ρ G env σ) : ∀ {js : List Nat} {ws : List W}, capsW env js = some ws → ∃ vs, RepWs c ρ G ws vs ∧ js.map (fun j => σ[j]?) = vs.map (fun v => some (some v))
  | [], _, e => by cases e; exact ⟨[], rfl, rfl⟩
  | j :: js, ws, e => by
    unfold capsW at e
    split at e
    · rename_i w ws' e1 e2
      cases e
      obtain ⟨vs, r, q⟩ := capsW_ok h e2
      obtain ⟨v, h1, h2⟩ := h j w e1
      exact ⟨v :: vs, ⟨v, vs, rfl, h2, r⟩, by simp [h1, q]⟩
    · cases e
theorem start_R {N : List Str} {vs : List V} {st : Store} {ws : List W} (r : RS c ρ G H st) (rw' : RepWs c ρ G ws vs) : R c ρ G (L2.start N vs) H (initS N.length ws st) := by
  have hv : vs.length = ws.length := rw'.len
  refine ⟨r, fun i w e => ?_, by unfold initS L2.start; simp [hv]⟩
  unfold initS at e
  unfold L2.start
  simp only at e
  by_cases hi : i < ws.length
  · rw [List.getElem?_append_left (by simpa using hi), List.getElem?_map] at e
    cases q : ws[i]? with
    | none => rw [q] at e; cases e
    | some y =>
      rw [q] at e
      cases e
      obtain ⟨v, h1, h2⟩ := rw'.get q
      exact ⟨v, by rw [List.getElem?_append_left (by simp [hv]; exact hi), List.getElem?_map, h1]; rfl, h2⟩
  · rw [List.getElem?_append_right (by simpa using hi), List.getElem?_replicate] at e
    split at e <;> cases e
end
structure DefAtC (K : PySem.W.Frag) (x qual : Str) (st : Stmt) (f cc : Addr) (ps : List Str) : Prop where
  ex : ∃ (oc : Value) (od : Option Addr) (kV doc pm : Value) (an : Option Addr) (ct : Value) (osl : Array (Option Value)), K.lookup f = some ⟨oc, od, .func (PySem.W.fnOf x qual (defArgs st) (defBody st) (defScope st) .none kV doc pm an (.ref cc) ct), osl⟩ ∧
    PySem.W.codeIn K (.ref cc) qual = true ∧ Binds K (PySem.W.fnOf x qual (defArgs st) (defBody st) (defScope st) .none kV doc pm an (.ref cc) ct) ps []
  kp : PySem.W.keepIn K (.ref f) = true
structure Two (N : List Str) (sc : Scope) (j1 j2 : Nat) (js1 js2 : List Nat) (s1 s2 : NFS) : Prop where
  sl1 : js1.map (fun j => N[j]?) = s1.fr.map some
  sl2 : js2.map (fun j => N[j]?) = s2.fr.map some
  ck : ∀ y ∈ s1.fr ++ s2.fr, sc.names.lookup y = some .cell
  cn : (s1.fr ++ s2.fr).Nodup
  ne : j1 ≠ j2
  off : ∀ j ∈ js1 ++ js2, j ≠ j1 ∧ j ≠ j2
  f1 : ∀ y ∈ s1.fr, (y, NameKind.free) ∈ (C8.fnScope s1.st).names
  f2 : ∀ y ∈ s2.fr, (y, NameKind.free) ∈ (C8.fnScope s2.st).names
  db1 : (s1.name == ("__debug__" : Str)) = false
  dc1 : (s1.name == ("__classdict__" : Str)) = false
  db2 : (s2.name == ("__debug__" : Str)) = false
  dc2 : (s2.name == ("__classdict__" : Str)) = false
section
variable {X : Cx} {c : Kx} {pins : List (Addr × Obj)} {σ : L2.St} {H G : Hp} {sh : Shared}
theorem capt_of {s : NFS} {vs : List V} {j k : Nat} {d : Stmt} (D : DefSt X c j k d s) (I : Inv X pins σ H sh) (hl : vs.length = s.fr.length) (hf : ∀ y ∈ s.fr, (y, NameKind.free) ∈ (C8.fnScope s.st).names)
    (h : ∀ (i : Nat) (y : Str), s.fr[i]? = some y → ∃ a u v, G a = some (CellO a u) ∧ vs[i]? = some v ∧ RelV v u ∧ X.env.cells.lookup y = some a) : Capt G (clOf X s) s.fr vs := by
  have has : ∀ y ∈ (C8.fnScope s.st).names, y.2 = .free → ∃ a, X.env.cells.lookup y.1 = some a := fun y hy e => (D.free y hy e).2.elim (fun z => I.ok.has _ (.inl z)) fun z => I.ok.has _ (.inr z)
  refine ⟨hl, fun y a e => ?_, fun x y a e1 e2 => I.ok.inj x y a (clo_cm has e1) (clo_cm has e2), fun i y e => ?_⟩
  · rcases cloFrom_mem (PySem.mem_of_lookup e) with z | ⟨z, _⟩
    · cases z
    · obtain ⟨i, hi⟩ := List.mem_iff_getElem?.mp (D.free _ z rfl).1
      obtain ⟨a', u, v, h1, _, _, h4⟩ := h i y hi
      have e2 := clo_cm has e
      rw [h4] at e2
      cases e2
      exact ⟨u, h1⟩
  · obtain ⟨a, u, v, h1, h2, h3, h4⟩ := h i y e
    exact ⟨a, v, u, clo_has has (hf y (List.mem_of_getElem? e)) h4, h2, h3, h1⟩
end
section
variable {P : Program} {w : World} {mg : Str → Option Value} {base : Heap} {c : Kx}
theorem FnS.clo2 {x qual : Str} {sd : Stmt} {f cc : Addr} {N ps : List Str} {k j1 j2 i1 i2 : Nat} {js1 js2 : List Nat} {m : EM Fl} {init : List Stmt} {d1 d2 : Stmt} {s1 s2 : NFS} {p1 p2 p3 p4 : Pos} {k1 : Nat} (D : DefAtC c.K x qual sd f cc ps) (S : FnScope N ps (defScope sd)) (hn : ps.length ≤ N.length)
    (hbd : defBody sd = init ++ [d1, d2, .Return (some (.Tuple [.Name s1.name p1, .Name s2.name p2] k1 p3)) p4]) (T : Two N (defScope sd) j1 j2 js1 js2 s1 s2) (TB : TabB base mg cc c.tp)
    (hD : ∀ (A : Around) (outer : List Env) (s : Shared) (H : Hp) (E : XK), DefSt (cxE P w c mg base N qual sd f (.ref cc) A outer s H E) c j1 i1 d1 s1 ∧ DefSt (cxE P w c mg base N qual sd f (.ref cc) A outer s H E) c j2 i2 d2 s2)
    (hb : ∀ (A : Around) (outer : List Env) (s : Shared) (H : Hp) (E : XK), Room k (A.deeper (envOfC qual (defScope sd) s.heap.objs.size f (.ref cc))) → ESs c (cxE P w c mg base N qual sd f (.ref cc) A outer s H E) (wx E) init m) :
    FnS P w c.K mg base (k + 1) f (spF c ps.length (bodyC N.length m i1 js1 i2 js2)) [] := by
  obtain ⟨oc, od, kV, doc, pm, an, ct, osl, look, code, bi⟩ := D.ex
  refine ⟨⟨_, ps, [], ⟨fun vs H Q E h => h.len, fun A outer s H args us vs Q E room e0 bind rel asks => ?_⟩, D.kp, bi, .nil⟩⟩
  have many : vs.length = ps.length := asks.len
  have inK : c.K.In s.heap := e0.mod.kin.keeps fun b o z => (e0.bs b o z).1
  have noLim : s.heap.NoLimit := e0.mod.nolimit.keeps fun b o z => (e0.bs b o z).1
  have kinds : ∀ y ∈ ps.zip us, (defScope sd).names.lookup y.1 = some .local ∨ ((defScope sd).names.lookup y.1 = some .cell ∧ ((cellsFrom (s.heap.objs.size + 1) (defScope sd).names []).lookup y.1).isSome = true) := fun ⟨n, v⟩ hy =>
    (S.par n (List.of_mem_zip hy).1).elim .inl fun q => .inr ⟨q, PySem.W.cellsFrom_some _ _ _ (.inl q)⟩
  refine codeAny_call_function room.depth (inK _ _ look) rfl S.co S.gen rfl (PySem.W.codeRec_of inK code) (bind _ _ _ _ ?_)
  refine wpAny_newFunctionEnv_cells S.kind kinds fun env he sA x => ?_
  subst he
  refine ⟨noLim.keeps x.toInCall.keep, codeAny_func ?_⟩
  have J := inv_start (CX := L2.CX P w) (E := E) S room.hd e0 many rel x
  obtain ⟨D1, D2⟩ := hD A outer s H E
  have body := hb A outer s H E (room.deeper _)
  obtain ⟨ρ, G, st, ws, r, rw', hl, hh⟩ := asks
  have hR : R c ρ G (L2.start N vs) H (initS N.length ws st) := start_R r rw'
  unfold bodyC at hh
  cases em : m (initS N.length ws st) with
  | none => simp only [em] at hh
  | some q =>
  obtain ⟨o, s4⟩ := q
  cases o with
  | ex _ _ _ => simp only [em] at hh
  | ok fl =>
  cases fl with
  | ret _ => simp only [em] at hh
  | brk => simp only [em] at hh
  | cnt => simp only [em] at hh
  | nx =>
  simp only [em] at hh
  cases ec1 : capsW s4.env js1 with
  | none => simp only [ec1] at hh
  | some w1 =>
  cases ec2 : capsW s4.env js2 with
  | none => simp only [ec1, ec2] at hh
  | some w2 =>
  simp only [ec1, ec2] at hh
  cases ef1 : fzL (fz 20) w1 s4.st with
  | none => simp only [ef1] at hh
  | some q1 =>
  obtain ⟨x1, st1⟩ := q1
  simp only [ef1] at hh
  cases ef2 : fzL (fz 20) w2 st1 with
  | none => simp only [ef2] at hh
  | some q2 =>
  obtain ⟨x2, st2⟩ := q2
  simp only [ef2] at hh
  have h0 : st2[0]? = some (some OO.tab) := by
    cases e : st2[0]? with
    | none => simp only [e] at hh
    | some o =>
      cases o with
      | none => simp only [e] at hh
      | some o => cases o <;> first | rfl | simp only [e] at hh
  simp only [h0] at hh
  have run := body.ps.run [] sA (L2.start N vs) H { nx := fun σ' H' => ∃ ρ' G', Stp ρ G H st ρ' G' H' s4.st ∧ R c ρ' G' σ' H' s4, rt := fun _ _ => False } J ⟨ρ, G, initS N.length ws st, hR, by
    unfold Ws
    rw [em]
    exact fun ρ' G' σ' H' S' R' => ⟨ρ', G', S', R'⟩⟩
  rw [hbd]
  refine execs_app (thn run fun fl sB got => ?_)
  cases fl with
  | ret u => obtain ⟨_, _, _, _, _, z⟩ := got; exact z.elim
  | brk => obtain ⟨_, _, _, z⟩ := got; exact z.elim
  | cont => obtain ⟨_, _, _, z⟩ := got; exact z.elim
  | next =>
  obtain ⟨σ1, H1, J1, ρ1, G1, S1, R1⟩ := got
  obtain ⟨vs1, rp1, sg1⟩ := capsW_ok R1.env ec1
  obtain ⟨vs2, rp2, sg2⟩ := capsW_ok R1.env ec2
  obtain ⟨Ga, Sa, ra, rd1⟩ := fzL_ok (EV.fz_ok 20) w1 vs1 G1 _ _ x1 R1.rs rp1 ef1
  obtain ⟨Gb, Sb, rb, rd2⟩ := fzL_ok (EV.fz_ok 20) w2 vs2 Ga _ _ x2 ra (rp2.mono (Rle.refl _) Sa.same) ef2
  obtain ⟨p, hp⟩ : ∃ p, ρ1[0]? = some p := by
    have h1 := (List.getElem?_eq_some_iff.mp h0).1
    rw [← rb.len] at h1
    exact ⟨_, List.getElem?_eq_getElem h1⟩
  refine wpAny_execs_cons (def_run D1 S.nd J1 rb hp h0 TB rfl fun f1 a1 G2 H2 sC S2 r2 J2 e1 c1 => ?_)
  refine wpAny_execs_cons (def_run D2 S.nd J2 r2 hp h0 TB rfl fun f2 a2 G3 H3 sD S3 r3 J3 e2 c2 => ?_)
  have l1 : j1 < σ1.length := by rw [J1.len]; exact (List.getElem?_eq_some_iff.mp D1.at_).1
  have l2 : j2 < σ1.length := by rw [J1.len]; exact (List.getElem?_eq_some_iff.mp D2.at_).1
  have v1 : ((σ1.set j1 (some (V.ref f1))).set j2 (some (V.ref f2)))[j1]? = some (some (V.ref f1)) := by rw [List.getElem?_set_ne (Ne.symm T.ne), List.getElem?_set_self l1]
  have v2 : ((σ1.set j1 (some (V.ref f1))).set j2 (some (V.ref f2)))[j2]? = some (some (V.ref f2)) := by rw [List.getElem?_set_self (by rw [List.length_set]; exact l2)]
  have vj : ∀ j ∈ js1 ++ js2, ((σ1.set j1 (some (V.ref f1))).set j2 (some (V.ref f2)))[j]? = σ1[j]? := fun j hj => by
    obtain ⟨n1, n2⟩ := T.off j hj
    rw [List.getElem?_set_ne (Ne.symm n2), List.getElem?_set_ne (Ne.symm n1)]
  have pt : PE (cxE P w c mg base N qual sd f (.ref cc) A outer s H E) (.Tuple [.Name s1.name p1, .Name s2.name p2] k1 p3) (tTup (tCons (tVar j1) (tCons (tVar j2) tNil))) :=
    pe_tup (pa_cons (pe_var D1.at_ (.inl D1.loc) T.db1 T.dc1) (pa_cons (pe_var D2.at_ (.inl D2.loc) T.db2 T.dc2) pa_nil))
  refine wpAny_execs_cons (wpAny_Return_some (thn (pt.run [] sD _ H3 (fun v H5 => ∃ b, v = V.ref b ∧ H3 b = none ∧ H5 = upd H3 b (.tup [.ref f1, .ref f2])) J3 ⟨.ref f1, v1, .ref f2, v2, (by rw [sizeLine_eq]; show 2 ≤ 16777216; decide), fun b hn => ⟨b, rfl, hn, rfl⟩⟩) fun u sE got => ?_))
  obtain ⟨v, H5, J5, rv, b, rfl, nb, rfl⟩ := got
  obtain ⟨S4, r4⟩ := new_frozen (o := .tup [.ref f1, .ref f2]) r3 nb
  have len1 : vs1.length = s1.fr.length := by
    have a := congrArg List.length sg1
    have b := congrArg List.length T.sl1
    simp only [List.length_map] at a b
    omega
  have len2 : vs2.length = s2.fr.length := by
    have a := congrArg List.length sg2
    have b := congrArg List.length T.sl2
    simp only [List.length_map] at a b
    omega
  obtain ⟨L, q1, q2, q3, q4⟩ := cell_list J5 (js1 ++ js2) (s1.fr ++ s2.fr) (vs1 ++ vs2) (by rw [List.map_append, List.map_append]; exact congr (congrArg _ T.sl1) T.sl2) (by
    rw [List.map_congr_left vj, List.map_append, List.map_append, sg1, sg2]) T.ck T.cn
  obtain ⟨G6, H6, S5, r5, g6, o6, h6⟩ := add_cells L _ _ q2 (fun q hq => by
    obtain ⟨_, y, _, hy⟩ := q4 q hq
    exact J5.freeC y q.1 hy) r4
  have nL : ∀ {a u}, upd H3 b (.tup [.ref f1, .ref f2]) a = some u → a ∉ L.map (·.1) := fun {a u} e hm => by
    obtain ⟨q, hq, ea⟩ := List.mem_map.mp hm
    obtain ⟨_, y, _, hy⟩ := q4 q hq
    have := J5.freeC y q.1 hy
    rw [ea, e] at this
    cases this
  have hiL : ∀ {a o}, s.heap.get? a = some o → a ∉ L.map (·.1) := fun {a o} e hm => by
    obtain ⟨q, hq, ea⟩ := List.mem_map.mp hm
    obtain ⟨_, y, _, hy⟩ := q4 q hq
    have h1 : s.heap.objs.size ≤ q.1 := J5.ok.cab y q.1 rfl hy
    have h2 := Heap.lt_size e
    rw [ea] at h1
    exact absurd (Nat.lt_of_lt_of_le h2 h1) (Nat.lt_irrefl _)
  have up : Un (frs outer) [] H H6 s.heap sE.heap := by
    have B : Un (frs outer) [] H (upd H3 b (.tup [.ref f1, .ref f2])) s.heap sE.heap := J5.base
    refine ⟨B.keep, B.slot, fun a o h1 h2 h3 => ?_, B.there, fun a xs e => ?_, fun a o x e => ?_, fun a ps e => ?_⟩
    · rw [o6 a (hiL h1)]; exact B.free a o h1 h2 h3
    · have z := B.tups a xs e
      rw [o6 a (nL z)]; exact z
    · have z := B.frzs a o x e
      rw [o6 a (nL z)]; exact z
    · obtain ⟨more, z⟩ := B.tbls a ps e
      exact ⟨more, by rw [o6 a (nL z)]; exact z⟩
  have hok : HOk P w H6 sE.heap := fun a o e => by
    by_cases hm : a ∈ L.map (·.1)
    · obtain ⟨q, hq, ea⟩ := List.mem_map.mp hm
      have z := h6 q hq
      have ea : q.1 = a := ea
      rw [ea, e] at z
      cases z
      obtain ⟨c1, _⟩ := q4 q hq
      rw [ea] at c1
      obtain ⟨ob, hob, dob⟩ := id c1
      exact ⟨c1, ⟨ob, hob⟩, fun h1 h2 ⟨o1, x1, x2⟩ k => ⟨o1, k _ x1, x2⟩⟩
    · rw [o6 a hm] at e
      exact (J5.hok a o e).stay (fun _ _ _ q => q) (fun b' q => by rw [o6 b' (nL q)]; exact q) fun b' xs q => by rw [o6 b' (nL q)]; exact q
  have c1' : Capt G6 (clOf (cxE P w c mg base N qual sd f (.ref cc) A outer s H E) s1) s1.fr vs1 := capt_of D1 J5 len1 T.f1 fun i y hy => by
    have hi := (List.getElem?_eq_some_iff.mp hy).1
    obtain ⟨a, u, v, x1, x2, x3, x4⟩ := q3 i y (by rw [List.getElem?_append_left hi]; exact hy)
    rw [List.getElem?_append_left (by omega)] at x2
    exact ⟨a, u, v, g6 (a, u) (List.mem_of_getElem? x1), x2, x3, x4⟩
  have c2' : Capt G6 (clOf (cxE P w c mg base N qual sd f (.ref cc) A outer s H E) s2) s2.fr vs2 := capt_of D2 J5 len2 T.f2 fun i y hy => by
    obtain ⟨a, u, v, x1, x2, x3, x4⟩ := q3 (s1.fr.length + i) y (by rw [List.getElem?_append_right (by omega), Nat.add_sub_cancel_left]; exact hy)
    rw [List.getElem?_append_right (by omega), ← len1, Nat.add_sub_cancel_left] at x2
    exact ⟨a, u, v, g6 (a, u) (List.mem_of_getElem? x1), x2, x3, x4⟩
  have t3 := S3.same.trans (S4.same.trans S5.same)
  have tb := S2.same.trans t3
  refine ⟨V.ref b, H6, J5.os, J5.bare, up, hok, rv, hh (V.ref b) ρ1 G6 H6 (S1.trans r.len (Sa.trans R1.rs.len (Sb.trans ra.len (S2.trans rb.len (S3.trans r2.len (S4.trans r3.len S5)))))) r5 ?_⟩
  refine RepD.tup (vs := [.ref f1, .ref f2]) (SqT.of (S5.same _ _ upd_same)) (.cons (.clo D1.hi (t3 _ _ e1) (t3 _ _ c1) c1' (rd1.mono (Sb.same.trans tb))) (.cons (.clo D2.hi ((S4.same.trans S5.same) _ _ e2) ((S4.same.trans S5.same) _ _ c2) c2' (rd2.mono tb)) .nil))
end
end EV
namespace EV
open PySem PySem.Spec PyProof.Rows L2
def catO (st : Store) (x y : W) : Option (W × Store) := match x, y with
  | .d (.tup a), .loc n => match st[n]? with
    | some (some (.tup ws)) => if a.length + ws.length ≤ 16777216 ∧ a ≠ [] ∧ ws ≠ [] then some (.loc st.length, st ++ [some (.tup (a.map .d ++ ws))]) else none
    | _ => none
  | _, _ => none
theorem s2_catO {c : Kx} : S2 c (rCatA c.K) catO := fun ρ G H st x y w st' vx vy Q r rx ry e q => by
  unfold catO at e
  split at e
  · rename_i a n
    split at e
    · rename_i ws ho
      split at e
      · rename_i hc
        obtain ⟨hl, h1, h2⟩ := hc
        cases e
        cases rx with
        | @tup p1 _ v1 t1 r1 =>
        obtain ⟨p, hp, rfl⟩ := ry
        obtain ⟨_, _, _, vs, hH, hr⟩ := r.own n p _ hp ho
        refine ⟨p1, p.1, v1, vs, rfl, rfl, SqT.same r.sub t1, SqT.of hH, by rw [r1.len, hr.len, sizeLine_eq]; exact hl, fun e => ?_, fun _ e => ?_, fun _ _ b hb => ?_⟩
        · subst e
          exact absurd (List.length_eq_zero_iff.mp r1.len.symm) h1
        · subst e
          exact absurd (List.length_eq_zero_iff.mp hr.len.symm) h2
        · obtain ⟨S, r'⟩ := new_own (p := (b, b)) (o := .tup (a.map .d ++ ws)) (H' := upd H b (.tup (v1 ++ vs))) r hb hb (fun a u e => by rw [upd_ne (ne_of_none e hb)]; exact e) ⟨rfl, v1 ++ vs, upd_same, (RepWs.ofD r1).app hr⟩
          exact q _ _ G _ S r' ⟨(b, b), by rw [← r.len, List.getElem?_append_right (Nat.le_refl _)]; simp, rfl⟩
      · cases e
    · cases e
  · cases e
theorem op_catO {X : Cx} : OpR X (binaryOp .Add) (rCatA X.K) := op_catA
section
variable {β : Type} {env : List (Option W)} {st st' : Store} {Q : Out β → SS → Prop} {k : W → EM β}
theorem rl_catO {a : List D} {ws : List W} {n m : Nat} (e : st[n]? = some (some (.tup ws))) (hl : a.length + ws.length ≤ 16777216 ∧ a ≠ [] ∧ ws ≠ []) (em : st.length = m) (e2 : st ++ [some (.tup (a.map .d ++ ws))] = st') (h : Run (k (.loc m)) ⟨env, st'⟩ Q) : Run (bnd (lft fun st => catO st (.d (.tup a)) (.loc n)) k) ⟨env, st⟩ Q := by
  subst em e2
  refine rb_lft ?_ h
  unfold catO
  simp only [e, hl, and_self, if_true, ne_eq, not_false_eq_true]
end
def lawT (F : FF) : FP := fun ds => match F (ds.map .d) [some .tab] with
  | some (.ok (.d d), _) => some (.ok d)
  | _ => none
def spLawT (K : PySem.W.Frag) (tp : Addr) : Sp := fun vs H Q _ => ∃ a, ∃ ns : List Int, vs = [V.ref a] ∧ SqL K H a (ns.map V.int) ∧ ns.length ≤ 63 ∧ H tp = some (.tbl #[]) ∧ ∀ H', Q (V.bl true) H'
theorem law_spT {c : Kx} {F : FF} (hF : ∀ ns : List Int, ns.length ≤ 63 → lawT F [.fls (ns.map .int)] = some (.ok (.bl true))) {vs : List V} {H : Hp} {Q : VK} {E : XK} (h : spLawT c.K c.tp vs H Q E) : spF c 1 F vs H Q E := by
  obtain ⟨a, ns, rfl, hS, hl, ht, hQ⟩ := h
  have sub : Same (fun b => if b = c.tp then none else H b) H := fun b o e => by
    by_cases z : b = c.tp
    · simp only [z, if_true] at e; cases e
    · simp only [z, if_false] at e; exact e
  have gP : (fun b => if b = c.tp then none else H b) c.tp = none := by simp only [if_true]
  have rd : ∀ {b u}, Rd H b u → (∀ ps, u ≠ .tbl ps) → Rd (fun b => if b = c.tp then none else H b) b u := fun {b u} r n => by
    have ne : ∀ o, H b = some o → (∀ ps, o ≠ .tbl ps) → b ≠ c.tp := fun o e n z => by rw [z, ht] at e; exact n _ (Option.some.inj e).symm
    rcases r with r | ⟨o, r⟩
    · exact .inl ((if_neg (ne _ r n)).trans r)
    · exact .inr ⟨o, (if_neg (ne _ r fun ps z => by cases z)).trans r⟩
  have hS' : SqL c.K (fun b => if b = c.tp then none else H b) a (ns.map V.int) := by
    rcases hS with hS | hS
    · exact .inl (rd hS fun ps z => by cases z)
    · exact .inr hS
  refine ⟨[(c.tp, c.tp)], fun b => if b = c.tp then none else H b, [some .tab], [.d (.fls (ns.map .int))], ⟨sub, rfl, fun n p o hp ho => ?_, fun n m p q o o' hp hq _ _ _ => ?_⟩, ⟨_, [], rfl, RepD.fls hS' (RepDs.ints ns), rfl⟩, rfl, ?_⟩
  · match n, hp, ho with
    | 0, hp, ho =>
      cases hp
      cases ho
      exact ⟨gP, gP, rfl, rfl, #[], ht, True.intro, fun pos cv hc => by
        have z : codeAmong pos [] = some cv := hc
        simp [codeAmong] at z⟩
    | n + 1, hp, _ => simp at hp
  · match n, m, hp, hq with
    | 0, 0, _, _ => rfl
    | n + 1, _, hp, _ => simp at hp
    | 0, m + 1, _, hq => simp at hq
  · have e := hF ns hl
    unfold lawT at e
    cases q : F [.d (.fls (ns.map .int))] [some .tab] with
    | none =>
      have q' : F (([.fls (ns.map .int)] : List D).map .d) [some .tab] = none := q
      simp only [q'] at e
      cases e
    | some r =>
      have q' : F (([.fls (ns.map .int)] : List D).map .d) [some .tab] = some r := q
      simp only [q'] at e
      obtain ⟨o, st⟩ := r
      cases o with
      | ex _ _ _ => cases e
      | ok w =>
        cases w with
        | loc _ => cases e
        | d x =>
          cases e
          intro v ρ' G' H' _ _ r
          cases r
          exact hQ _
theorem walk_tab {l : PySem.W.OpenLaw} {k : Nat} {q : Program} {loose : List Str} {XP : (Str → Option Value) → Heap → Prop} {YP : World → Heap → Prop} {d : DefRec} {K : Params → PySem.W.Frag} {x : Str} {cc pp : Addr}
    (hn : l.most = some 63) (hdf : d.params.defaults = []) (hr : Room k callerA) (hY : ∀ (w : World) (h : Heap), YP w h → (K w.params).In h)
    (hP : ∀ (w : World) (h : Heap), YP w h → h.get? pp = some { cls := .none, data := .fields #[] }) (nP : ∀ p : Params, (K p).lookup pp = none) (hC : ∀ p : Params, PySem.W.codeHdIn (K p) cc pp = true)
    (F : ∀ (w : World) (mg : Str → Option Value) (fa : Addr) (h : Heap), (K w.params).In h → h.Ns mainGlobals mg → mg d.name = some (.ref fa) →
      ∃ fd : FuncData, (∀ (s : Shared) (u : Value), BindsTo s fd ⟨[u], []⟩ [(x, u)]) ∧ ∀ base : Heap, (K w.params).In base → base.Ns mainGlobals mg → LamX.TabB base mg cc pp → FnOk l.prog w (K w.params) mg base (L2.CX l.prog w) k fa fd [x] (spLawT (K w.params) pp)) :
    PySem.W.WalkO q loose XP YP l.row.toRowW d [] (fun f vs => PySem.call f vs) :=
  LamX.walk_ofTs (n := 63) (k := k) (x := x) (CX := fun w => L2.CX l.prog w) hn (by decide) hdf hr hY (fun w mg fa h Y KX hns hm => by
    obtain ⟨fd, hb, hF⟩ := F w mg fa h KX hns hm
    exact ⟨fd, [(cc, pp)], spLawT (K w.params) pp, fun p hp => by rw [List.mem_singleton.mp hp]; exact hP w h Y, fun p hp => by rw [List.mem_singleton.mp hp]; exact nP _, fun p hp => by rw [List.mem_singleton.mp hp]; exact PySem.W.codeHd_of_K KX (hC _), hb,
      fun H a ns hl _ hT hS => ⟨a, ns, rfl, hS, hl, hT (cc, pp) (List.mem_singleton.mpr rfl), fun _ => rfl⟩, fun base h1 h2 h3 => hF base h1 h2 (h3 (cc, pp) (List.mem_singleton.mpr rfl))⟩) fun _ _ _ _ _ z => cx_none z
theorem in_tail {K : PySem.W.Frag} {pp : Addr} {o : Obj} {h : Heap} (n : K.lookup pp = none) (X : PySem.W.Frag.In ((pp, o) :: K) h) : K.In h := fun a u e => X a u (by
  have ne : a ≠ pp := fun z => by rw [z, n] at e; cases e
  have b : (a == pp) = false := beq_eq_false_iff_ne.mpr ne
  rw [List.lookup_cons, b]
  exact e)
theorem in_head {K : PySem.W.Frag} {pp : Addr} {o : Obj} {h : Heap} (X : PySem.W.Frag.In ((pp, o) :: K) h) : h.get? pp = some o := X pp o (by rw [List.lookup_cons, beq_self_eq_true])
end EV
namespace Sem
open PySem EV
def q_bool : List (Ty × Bool) := [(.bi "NoneType", false), (.bi "bool", true), (.bi "int", false), (.bi "str", false), (.bi "list", false), (.bi "tuple", false), (.bi "dict", false)]
def q_int : List (Ty × Bool) := [(.bi "NoneType", false), (.bi "bool", true), (.bi "int", true), (.bi "str", false), (.bi "list", false), (.bi "tuple", false), (.bi "dict", false)]
def q_tuple : List (Ty × Bool) := [(.bi "NoneType", false), (.bi "bool", false), (.bi "int", false), (.bi "str", false), (.bi "list", false), (.bi "tuple", true), (.bi "dict", false)]
def b_watcher_count : EM Fl := (sq (ifE (orB (toB (op2 eqA (var 0) (cst (.int 0)))) (anB (toB (op2 eqA (var 1) (var 4))) (anB (toB (op2 eqA (var 2) (var 5))) (toB (var 3))))) (retS (tupE (acons (cst (.int 0)) (acons (cst (.bl false)) anil)))) (pur .nx)) (sq (ifE (toB (op2 neA (var 1) (var 4))) (retS (tupE (acons (var 0) (acons (cst (.bl false)) anil)))) (pur .nx)) (retS (tupE (acons (op2 subA (var 0) (cst (.int 1))) (acons (op2 eqA (var 0) (cst (.int 1))) anil))))))
def F_watcher_count : FP := pureP (bodyF 6 b_watcher_count)
def b_watcher_opens : EM Fl := (sq (ifE (anB (toB (op2 eqA (var 0) (cst (.int 0)))) (anB (toB (op2 inA (var 2) (var 4))) (toB (op2 ninA (var 1) (var 4))))) (retS (var 3)) (pur .nx)) (retS (var 0)))
def F_watcher_opens : FP := pureP (bodyF 5 b_watcher_opens)
def tblC : List (Nat × Nat × FP) := [(0, 4, F_watcher_count), (1, 3, F_watcher_opens)]
def b_law_count : EM Fl := (sq (ifE (toB (op2 eqA (var 1) (cst (.int 0)))) (retS (tupE (acons (cst (.int 0)) (acons (cst (.bl false)) anil)))) (pur .nx)) (sq (ifE (toB (op2 neA (var 2) (op2 ixA (var 0) (cst (.int 2))))) (retS (tupE (acons (var 1) (acons (cst (.bl false)) anil)))) (pur .nx)) (sq (ifE (anB (toB (op2 eqA (var 3) (op2 ixA (var 0) (cst (.int 3))))) (toB (var 4))) (retS (tupE (acons (cst (.int 0)) (acons (cst (.bl false)) anil)))) (pur .nx)) (retS (tupE (acons (op2 subA (var 1) (cst (.int 1))) (acons (op2 eqA (var 1) (cst (.int 1))) anil)))))))
def F_law_count : FP := pureP (bodyF 5 b_law_count)
def O_law_count : FO := pureO (bodyF 5 b_law_count)
def b_law_whole : EM Fl := (retS (anV (bnd (var 0) fun w => lft fun st => isiW q_int st [w, .d .non]) (ntV (bnd (var 0) fun w => lft fun st => isiW q_bool st [w, .d .non]))))
def F_law_whole : FP := pureP (bodyF 1 b_law_whole)
def O_law_whole : FO := pureO (bodyF 1 b_law_whole)
def b_law_stream : EM Fl := (sq (asgS (.name 2) (lstE true anil)) (sq (asgS (.name 3) (op2 (intF modI) (var 0) (cst (.int 2147483647)))) (sq (forS (range1E (acons (var 1) anil)) (.name 4) (sq (asgS (.name 3) (op2 (intF modI) (op2 (addA false) (op2 (addA false) (op2 (mulA false) (var 3) (cst (.int 48271))) (op2 (mulA false) (op2 (mulA false) (cst (.int 7919)) (var 4)) (var 4))) (cst (.int 11))) (cst (.int 2147483647)))) (exprS (bmE "list" appendW (var 2) (acons (op2 (intF divI) (var 3) (cst (.int 5))) anil))))) (retS (var 2)))))
def F_law_stream : FP := pureP (bodyF 5 b_law_stream)
def O_law_stream : FO := pureO (bodyF 5 b_law_stream)
def b_law_turns : EM Fl := (sq (asgS (.name 4) (callE (gP 2 F_law_stream) [] (acons (var 3) (acons (cst (.int 2)) anil)))) (sq (asgS (.name 5) (lstE false (acons (cst (.int 0)) (acons (cst (.int 1)) (acons (op2 ixA (var 1) (cst (.int 4))) (acons (op2 (intF modI) (op2 (addA false) (op2 (mulA false) (op2 (mulA false) (op2 ixA (var 4) (cst (.int 1))) (op2 ixA (var 4) (cst (.int 1)))) (op2 ixA (var 4) (cst (.int 1)))) (op2 ixA (var 4) (cst (.int 0)))) (op2 (addA false) (op2 ixA (var 1) (cst (.int 4))) (cst (.int 1)))) anil)))))) (sq (forS (range1E (acons (cst (.int 24)) anil)) (.name 6) (sq (asgS (.name 7) (op2 (intF modI) (op2 (addA false) (op2 ixA (var 4) (cst (.int 0))) (op2 (mulA false) (cst (.int 5)) (var 6))) (cst (.int 48)))) (sq (asgS (.name 8) (op2 ixA (var 5) (op2 (intF modI) (var 7) (cst (.int 4))))) (sq (asgS (.name 9) (op2 ixA (var 2) (op2 (addA false) (cst (.int 1)) (op2 (mulA false) (cst (.int 8)) (op2 (intF modI) (op2 (intF divI) (var 7) (cst (.int 4))) (cst (.int 2))))))) (sq (asgS (.name 10) (op2 ixA (lstE false (acons (op2 ixA (var 1) (cst (.int 3))) (acons (op2 ixA (var 2) (cst (.int 10))) (acons (cst (.str "rest")) anil)))) (op2 (intF modI) (op2 (intF divI) (var 7) (cst (.int 8))) (cst (.int 3))))) (sq (asgS (.name 11) (callC tblC (var 0) (acons (var 8) (acons (var 9) (acons (var 10) (acons (op2 eqA (op2 (intF divI) (var 7) (cst (.int 24))) (cst (.int 0))) anil)))))) (sq (ifE (orB (ntB (toB (bnd (var 11) fun w => lft fun st => isiW q_tuple st [w, .d .non]))) (orB (toB (op2 neA (callB lenW (acons (var 11) anil)) (cst (.int 2)))) (ntB (toB (callE (gP 1 F_law_whole) [] (acons (op2 ixA (var 11) (cst (.int 0))) anil)))))) (retS (cst (.bl false))) (pur .nx)) (ifE (orB (ntB (toB (bnd (op2 ixA (var 11) (cst (.int 1))) fun w => lft fun st => isiW q_bool st [w, .d .non]))) (toB (op2 neA (var 11) (callE (gP 5 F_law_count) [] (acons (var 1) (acons (var 8) (acons (var 9) (acons (var 10) (acons (op2 eqA (op2 (intF divI) (var 7) (cst (.int 24))) (cst (.int 0))) anil))))))))) (retS (cst (.bl false))) (pur .nx))))))))) (retS (cst (.bl true))))))
def F_law_turns : FP := pureP (bodyF 12 b_law_turns)
def O_law_turns : FO := pureO (bodyF 12 b_law_turns)
def b_law_opens : EM Fl := (sq (ifE (anB (toB (op2 eqA (var 1) (cst (.int 0)))) (anB (toB (op2 inA (var 3) (op2 ixA (var 0) (cst (.int 6))))) (toB (op2 ninA (var 2) (op2 ixA (var 0) (cst (.int 6))))))) (retS (op2 ixA (var 0) (cst (.int 4)))) (pur .nx)) (retS (var 1)))
def F_law_opens : FP := pureP (bodyF 4 b_law_opens)
def O_law_opens : FO := pureO (bodyF 4 b_law_opens)
def b_law_moves : EM Fl := (sq (asgS (.name 4) (callE (gP 2 F_law_stream) [] (acons (var 3) (acons (cst (.int 3)) anil)))) (sq (asgS (.name 5) (lstE false (acons (cst (.int 0)) (acons (op2 (addA false) (cst (.int 1)) (op2 (intF modI) (op2 (addA false) (op2 (mulA false) (op2 (mulA false) (op2 ixA (var 4) (cst (.int 1))) (op2 ixA (var 4) (cst (.int 1)))) (op2 ixA (var 4) (cst (.int 1)))) (op2 ixA (var 4) (cst (.int 0)))) (op2 ixA (var 1) (cst (.int 4))))) anil)))) (sq (asgS (.name 6) (slE false (var 2) (partE (some (cst (.int 4)))) (partE (some (cst (.int 8)))))) (sq (forS (range1E (acons (cst (.int 20)) anil)) (.name 7) (sq (asgS (.name 8) (op2 (intF modI) (op2 (addA false) (op2 ixA (var 4) (cst (.int 2))) (op2 (mulA false) (cst (.int 7)) (var 7))) (cst (.int 40)))) (sq (asgS (.name 9) (op2 ixA (var 5) (op2 (intF modI) (var 8) (cst (.int 2))))) (sq (asgS (.name 10) (op2 ixA (op2 (addA false) (var 6) (lstE false (acons (cst .non) anil))) (op2 (intF modI) (op2 (intF divI) (var 8) (cst (.int 2))) (cst (.int 5))))) (sq (asgS (.name 11) (op2 ixA (var 6) (op2 (intF divI) (var 8) (cst (.int 10))))) (sq (asgS (.name 12) (callC tblC (var 0) (acons (var 9) (acons (var 10) (acons (var 11) anil))))) (ifE (orB (ntB (toB (callE (gP 1 F_law_whole) [] (acons (var 12) anil)))) (toB (op2 neA (var 12) (callE (gP 4 F_law_opens) [] (acons (var 1) (acons (var 9) (acons (var 10) (acons (var 11) anil)))))))) (retS (cst (.bl false))) (pur .nx)))))))) (retS (cst (.bl true)))))))
def F_law_moves : FP := pureP (bodyF 13 b_law_moves)
def O_law_moves : FO := pureO (bodyF 13 b_law_moves)
def b_law_asked : EM Fl := (sq (asgS (.tup [4, 5]) (var 0)) (sq (ifE (toB (op2 eqA (op2 (intF modI) (var 3) (cst (.int 2))) (cst (.int 0)))) (retS (anV (callE (gP 4 F_law_turns) [] (acons (var 4) (acons (var 1) (acons (var 2) (acons (op2 (intF divI) (var 3) (cst (.int 3))) anil))))) (callE (gP 4 F_law_moves) [] (acons (var 5) (acons (var 1) (acons (var 2) (acons (op2 (intF divI) (var 3) (cst (.int 5))) anil))))))) (pur .nx)) (retS (anV (callE (gP 4 F_law_moves) [] (acons (var 5) (acons (var 1) (acons (var 2) (acons (op2 (intF divI) (var 3) (cst (.int 5))) anil))))) (callE (gP 4 F_law_turns) [] (acons (var 4) (acons (var 1) (acons (var 2) (acons (op2 (intF divI) (var 3) (cst (.int 3))) anil)))))))))
def F_law_asked : FP := pureP (bodyF 6 b_law_asked)
def O_law_asked : FO := pureO (bodyF 6 b_law_asked)
def b_watcher : EM Fl := (sq (asgS (.name 1) (op2 ixA (var 0) (cst (.int 2)))) (sq (asgS (.name 2) (op2 ixA (var 0) (cst (.int 3)))) (sq (asgS (.name 3) (op2 ixA (var 0) (cst (.int 4)))) (asgS (.name 4) (callB (listC false) (acons (op2 ixA (var 0) (cst (.int 6))) anil))))))
def B_watcher : FF := bodyC 7 b_watcher 0 [1, 2] 1 [3, 4]
def b_law_duty : EM Fl := (sq (asgS (.name 2) (callE (gP 2 F_law_stream) [] (acons (var 0) (acons (cst (.int 8)) anil)))) (sq (asgS (.name 3) (op2 (addA false) (cst (.int 1)) (op2 (intF modI) (op2 ixA (var 2) (cst (.int 1))) (cst (.int 4))))) (sq (ifE (toB (op2 eqA (op2 (intF modI) (op2 ixA (var 2) (cst (.int 2))) (cst (.int 3))) (cst (.int 1)))) (asgS (.name 3) (op2 (addA false) (cst (.int 1)) (op2 (intF modI) (op2 (mulA false) (op2 (mulA false) (op2 ixA (var 2) (cst (.int 1))) (op2 ixA (var 2) (cst (.int 2)))) (op2 ixA (var 2) (cst (.int 3)))) (op2 subA (op2 (intF powI) (cst (.int 10)) (cst (.int 20))) (cst (.int 1)))))) (pur .nx)) (sq (asgS (.name 4) (compE [5] (range1E (acons (cst (.int 4)) anil)) (.name 5) (toB (op2 eqA (op2 andA (op2 (intF shrI) (op2 ixA (var 2) (cst (.int 4))) (var 5)) (cst (.int 1))) (cst (.int 1)))) (op2 ixA (var 1) (op2 (addA false) (cst (.int 4)) (var 5))) false)) (retS (tupE (acons (op2 ixA (var 1) (cst (.int 0))) (acons (cst (.str "must")) (acons (op2 ixA (var 1) (cst (.int 1))) (acons (op2 ixA (var 1) (cst (.int 2))) (acons (var 3) (acons (op2 ixA (var 1) (cst (.int 8))) (acons (var 4) (acons (op2 (intF modI) (op2 ixA (var 2) (cst (.int 5))) (cst (.int 7))) anil))))))))))))))
def F_law_duty : FP := pureP (bodyF 6 b_law_duty)
def O_law_duty : FO := pureO (bodyF 6 b_law_duty)
def b_law_names : EM Fl := (sq (asgS (.name 2) (cst (.str "abcdefghijklmnopqrstuvwxyz"))) (sq (asgS (.name 3) (op2 (intF modI) (var 0) (cst (.int 3)))) (sq (asgS (.name 4) (op2 (intF modI) (op2 (addA false) (op2 (addA false) (var 3) (cst (.int 1))) (op2 (intF modI) (op2 (intF divI) (var 0) (cst (.int 3))) (cst (.int 2)))) (cst (.int 3)))) (sq (asgS (.name 5) (lstE true anil)) (sq (forS (range1E (acons (var 1) anil)) (.name 6) (sq (asgS (.name 7) (op2 subA (var 6) (op2 (mulA false) (op2 (intF modI) (var 6) (cst (.int 2))) (op2 (intF modI) (op2 (intF divI) (var 0) (cst (.int 6))) (cst (.int 2)))))) (sq (asgS (.name 8) (compE [10] (range1E (acons (cst (.int 8)) anil)) (.name 10) (pur true) (op2 ixA (var 2) (op2 (intF modI) (op2 (addA false) (op2 (intF divI) (op2 (intF divI) (var 0) (cst (.int 7))) (op2 (addA false) (var 10) (cst (.int 1)))) (op2 (mulA false) (var 10) (var 10))) (cst (.int 26)))) true)) (sq (setL (var 8) (var 3) (op2 ixA (cst (.str "fgjkqvxz")) (op2 (intF modI) (op2 (addA false) (op2 (mulA false) (var 7) (cst (.int 3))) (op2 (intF divI) (var 0) (cst (.int 17)))) (cst (.int 8))))) (sq (setL (var 8) (var 4) (op2 ixA (var 2) (op2 (intF modI) (op2 (addA false) (op2 (intF divI) (var 0) (cst (.int 11))) (op2 (intF divI) (var 7) (cst (.int 8)))) (cst (.int 26))))) (sq (asgS (.name 9) (op2 subA (op2 (addA false) (op2 (addA false) (cst (.int 3)) (op2 (intF modI) (op2 (intF divI) (var 0) (op2 (addA false) (var 7) (cst (.int 13)))) (cst (.int 5)))) (var 6)) (var 7))) (exprS (bmE "list" appendW (var 5) (acons (bmE "str" joinW (cst (.str "")) (acons (slE false (var 8) (partE none) (partE (some (var 9)))) anil)) anil))))))))) (retS (var 5)))))))
def F_law_names : FP := pureP (bodyF 11 b_law_names)
def O_law_names : FO := pureO (bodyF 11 b_law_names)
def b_law_cell : EM Fl := (sq (asgS (.name 2) (op2 (addA false) (op2 (mulA false) (var 1) (cst (.int 7919))) (cst (.int 5)))) (sq (ifE (toB (op2 ltA (var 1) (callB lenW (acons (var 0) anil)))) (asgS (.name 2) (op2 (intF modI) (op2 ixA (var 0) (var 1)) (cst (.int 2147483647)))) (ifE (toB (op2 gtA (callB lenW (acons (var 0) anil)) (cst (.int 0)))) (asgS (.name 2) (op2 (addA false) (op2 (mulA false) (op2 (intF modI) (op2 ixA (var 0) (op2 (intF modI) (op2 (mulA false) (var 1) (cst (.int 7))) (callB lenW (acons (var 0) anil)))) (cst (.int 2147483647))) (cst (.int 48271))) (op2 (mulA false) (var 1) (cst (.int 7919))))) (pur .nx))) (retS (op2 (intF modI) (op2 (mulA false) (op2 (intF modI) (op2 (mulA false) (var 2) (cst (.int 48271))) (cst (.int 2147483647))) (cst (.int 69621))) (cst (.int 2147483647))))))
def F_law_cell : FP := pureP (bodyF 3 b_law_cell)
def O_law_cell : FO := pureO (bodyF 3 b_law_cell)
def b_law : EM Fl := (sq (asgS (.name 1) (lstE true anil)) (sq (forS (range1E (acons (callB max2W (acons (cst (.int 2)) (acons (callB min2W (acons (callB lenW (acons (var 0) anil)) (acons (cst (.int 10)) anil))) anil))) anil)) (.name 2) (sq (asgS (.name 6) (callE (gP 2 F_law_cell) [] (acons (var 0) (acons (var 2) anil)))) (sq (asgS (.name 5) (callE (gP 2 F_law_names) [] (acons (op2 ixA (callE (gP 2 F_law_stream) [] (acons (var 6) (acons (cst (.int 1)) anil))) (cst (.int 0))) (acons (cst (.int 12)) anil)))) (sq (asgS (.name 4) (callE (gP 2 F_law_duty) [] (acons (var 6) (acons (var 5) anil)))) (sq (asgS (.name 7) (callB (listC true) (acons (op2 ixA (var 4) (cst (.int 6))) anil))) (sq (asgS (.name 3) (callE (gF 1 B_watcher) [] (acons (op2 catO (slE false (var 4) (partE none) (partE (some (cst (.int 6))))) (tupO (acons (var 7) (acons (op2 ixA (var 4) (cst (.int 7))) anil)))) anil))) (sq (ifE (orB (ntB (toB (bnd (var 3) fun w => lft fun st => isiW q_tuple st [w, .d .non]))) (orB (toB (op2 neA (callB lenW (acons (var 3) anil)) (cst (.int 2)))) (toB (op2 neA (var 7) (op2 ixA (var 4) (cst (.int 6))))))) (retS (cst (.bl false))) (pur .nx)) (sq (exprS (bmE "list" clearW (var 7) anil)) (exprS (bmE "list" appendW (var 1) (acons (tupE (acons (var 3) (acons (var 4) (acons (var 5) (acons (var 6) anil))))) anil))))))))))) (sq (forS (itemsE (frz (var 1))) (.tup [3, 4, 5, 6]) (ifE (ntB (toB (callE (gP 4 F_law_asked) [] (acons (var 3) (acons (var 4) (acons (var 5) (acons (var 6) anil))))))) (retS (cst (.bl false))) (pur .nx))) (sq (forS (revE (acons (frz (var 1)) anil)) (.tup [3, 4, 5, 6]) (ifE (ntB (toB (callE (gP 4 F_law_asked) [] (acons (var 3) (acons (var 4) (acons (var 5) (acons (op2 (addA false) (op2 (mulA false) (var 6) (cst (.int 3))) (cst (.int 1))) anil))))))) (retS (cst (.bl false))) (pur .nx))) (retS (cst (.bl true)))))))
def F_law : FP := lawT (bodyF 8 b_law)
end Sem
namespace Walk
open PySem PySem.Spec PyProof.Rows L2 EV Sem
def topS (i : Nat) : Stmt := PySem.Challenge.pw_pactway_k41_watchers.main.body.getD i (.Pass ⟨0, 0, 0, 0⟩)
abbrev s_watcher : Stmt := (topS 1)
abbrev n_watcher : List Str := ["duty", "bearer", "due", "many", "rooms", "count", "opens"]
theorem sc_watcher : FnScope n_watcher ["duty"] (defScope s_watcher) := ⟨rfl, rfl, rfl, by decide +kernel, rfl, by decide +kernel, by decide +kernel⟩
abbrev s_law_cell : Stmt := (topS 3)
abbrev n_law_cell : List Str := ["_law_script", "_law_k", "_law_number"]
theorem sc_law_cell : FnScope n_law_cell ["_law_script", "_law_k"] (defScope s_law_cell) := ⟨rfl, rfl, rfl, by decide +kernel, rfl, by decide +kernel, by decide +kernel⟩
abbrev s_law_stream : Stmt := (topS 4)
abbrev n_law_stream : List Str := ["_law_cell_here", "_law_many", "_law_found", "_law_number", "_law_k"]
theorem sc_law_stream : FnScope n_law_stream ["_law_cell_here", "_law_many"] (defScope s_law_stream) := ⟨rfl, rfl, rfl, by decide +kernel, rfl, by decide +kernel, by decide +kernel⟩
abbrev s_law_names : Stmt := (topS 5)
abbrev n_law_names : List Str := ["_law_cell_here", "_law_many", "_law_letters", "_law_one", "_law_two", "_law_names_here", "_law_n", "_law_base", "_law_word", "_law_size", "_law_k"]
theorem sc_law_names : FnScope n_law_names ["_law_cell_here", "_law_many"] (defScope s_law_names) := ⟨rfl, rfl, rfl, by decide +kernel, rfl, by decide +kernel, by decide +kernel⟩
abbrev s_law_whole : Stmt := (topS 6)
abbrev n_law_whole : List Str := ["_law_found"]
theorem sc_law_whole : FnScope n_law_whole ["_law_found"] (defScope s_law_whole) := ⟨rfl, rfl, rfl, by decide +kernel, rfl, by decide +kernel, by decide +kernel⟩
abbrev s_law_duty : Stmt := (topS 7)
abbrev n_law_duty : List Str := ["_law_cell_here", "_law_names_here", "_law_xs", "_law_many", "_law_rooms", "_law_k"]
theorem sc_law_duty : FnScope n_law_duty ["_law_cell_here", "_law_names_here"] (defScope s_law_duty) := ⟨rfl, rfl, rfl, by decide +kernel, rfl, by decide +kernel, by decide +kernel⟩
abbrev s_law_count : Stmt := (topS 8)
abbrev n_law_count : List Str := ["_law_duty_here", "_law_left", "_law_who", "_law_act", "_law_free"]
theorem sc_law_count : FnScope n_law_count ["_law_duty_here", "_law_left", "_law_who", "_law_act", "_law_free"] (defScope s_law_count) := ⟨rfl, rfl, rfl, by decide +kernel, rfl, by decide +kernel, by decide +kernel⟩
abbrev s_law_opens : Stmt := (topS 9)
abbrev n_law_opens : List Str := ["_law_duty_here", "_law_left", "_law_was", "_law_now"]
theorem sc_law_opens : FnScope n_law_opens ["_law_duty_here", "_law_left", "_law_was", "_law_now"] (defScope s_law_opens) := ⟨rfl, rfl, rfl, by decide +kernel, rfl, by decide +kernel, by decide +kernel⟩
abbrev s_law_turns : Stmt := (topS 10)
abbrev n_law_turns : List Str := ["_law_count_here", "_law_duty_here", "_law_names_here", "_law_cell_here", "_law_xs", "_law_lefts", "_law_k", "_law_at", "_law_left", "_law_who", "_law_act", "_law_found"]
theorem sc_law_turns : FnScope n_law_turns ["_law_count_here", "_law_duty_here", "_law_names_here", "_law_cell_here"] (defScope s_law_turns) := ⟨rfl, rfl, rfl, by decide +kernel, rfl, by decide +kernel, by decide +kernel⟩
abbrev s_law_moves : Stmt := (topS 11)
abbrev n_law_moves : List Str := ["_law_opens_here", "_law_duty_here", "_law_names_here", "_law_cell_here", "_law_xs", "_law_lefts", "_law_rooms", "_law_k", "_law_at", "_law_left", "_law_was", "_law_now", "_law_found"]
theorem sc_law_moves : FnScope n_law_moves ["_law_opens_here", "_law_duty_here", "_law_names_here", "_law_cell_here"] (defScope s_law_moves) := ⟨rfl, rfl, rfl, by decide +kernel, rfl, by decide +kernel, by decide +kernel⟩
abbrev s_law_asked : Stmt := (topS 12)
abbrev n_law_asked : List Str := ["_law_made", "_law_duty_here", "_law_names_here", "_law_cell_here", "_law_count_here", "_law_opens_here"]
theorem sc_law_asked : FnScope n_law_asked ["_law_made", "_law_duty_here", "_law_names_here", "_law_cell_here"] (defScope s_law_asked) := ⟨rfl, rfl, rfl, by decide +kernel, rfl, by decide +kernel, by decide +kernel⟩
abbrev s_law : Stmt := (topS 13)
abbrev n_law : List Str := ["_law_script", "_law_held", "_law_k", "_law_made", "_law_duty_here", "_law_names_here", "_law_cell_here", "_law_rooms"]
theorem sc_law : FnScope n_law ["_law_script"] (defScope s_law) := ⟨rfl, rfl, rfl, by decide +kernel, rfl, by decide +kernel, by decide +kernel⟩
abbrev nfs_0 : NFS := ⟨((defBody s_watcher).getD 4 (.Pass ⟨0, 0, 0, 0⟩)), "count", "watcher.<locals>.count", ["bearer", "due"]⟩
abbrev n_watcher_count : List Str := ["left", "who", "act", "free", "bearer", "due"]
theorem fr_0 : ∀ y ∈ (C8.fnScope nfs_0.st).names, y.2 = .free → y.1 ∈ nfs_0.fr ∧ ((defScope s_watcher).names.lookup y.1 = some .cell ∨ (defScope s_watcher).names.lookup y.1 = some .free) := by decide +kernel
abbrev nfs_1 : NFS := ⟨((defBody s_watcher).getD 5 (.Pass ⟨0, 0, 0, 0⟩)), "opens", "watcher.<locals>.opens", ["many", "rooms"]⟩
abbrev n_watcher_opens : List Str := ["left", "was", "now", "many", "rooms"]
theorem fr_1 : ∀ y ∈ (C8.fnScope nfs_1.st).names, y.2 = .free → y.1 ∈ nfs_1.fr ∧ ((defScope s_watcher).names.lookup y.1 = some .cell ∨ (defScope s_watcher).names.lookup y.1 = some .free) := by decide +kernel
structure Txt (c : Kx) (mg : Str → Option Value) (base : Heap) (a_watcher a_law_cell a_law_stream a_law_names a_law_whole a_law_duty a_law_count a_law_opens a_law_turns a_law_moves a_law_asked a_law cc_watcher : Addr) : Prop where
  tb : LamX.TabB base mg cc_watcher c.tp
  nf0 : c.nf[0]? = some nfs_0
  tn0 : c.tn 8 4 = "watcher.<locals>.count"
  nf1 : c.nf[1]? = some nfs_1
  tn1 : c.tn 15 4 = "watcher.<locals>.opens"
  d_watcher : DefAtC c.K "watcher" "watcher" s_watcher a_watcher cc_watcher ["duty"]
  m_watcher : mg "watcher" = some (.ref a_watcher)
  d_law_cell : DefAt c.K "_law_cell" "_law_cell" s_law_cell a_law_cell ["_law_script", "_law_k"]
  m_law_cell : mg "_law_cell" = some (.ref a_law_cell)
  d_law_stream : DefAt c.K "_law_stream" "_law_stream" s_law_stream a_law_stream ["_law_cell_here", "_law_many"]
  m_law_stream : mg "_law_stream" = some (.ref a_law_stream)
  d_law_names : DefAt c.K "_law_names" "_law_names" s_law_names a_law_names ["_law_cell_here", "_law_many"]
  m_law_names : mg "_law_names" = some (.ref a_law_names)
  d_law_whole : DefAt c.K "_law_whole" "_law_whole" s_law_whole a_law_whole ["_law_found"]
  m_law_whole : mg "_law_whole" = some (.ref a_law_whole)
  d_law_duty : DefAt c.K "_law_duty" "_law_duty" s_law_duty a_law_duty ["_law_cell_here", "_law_names_here"]
  m_law_duty : mg "_law_duty" = some (.ref a_law_duty)
  d_law_count : DefAt c.K "_law_count" "_law_count" s_law_count a_law_count ["_law_duty_here", "_law_left", "_law_who", "_law_act", "_law_free"]
  m_law_count : mg "_law_count" = some (.ref a_law_count)
  d_law_opens : DefAt c.K "_law_opens" "_law_opens" s_law_opens a_law_opens ["_law_duty_here", "_law_left", "_law_was", "_law_now"]
  m_law_opens : mg "_law_opens" = some (.ref a_law_opens)
  d_law_turns : DefAt c.K "_law_turns" "_law_turns" s_law_turns a_law_turns ["_law_count_here", "_law_duty_here", "_law_names_here", "_law_cell_here"]
  m_law_turns : mg "_law_turns" = some (.ref a_law_turns)
  d_law_moves : DefAt c.K "_law_moves" "_law_moves" s_law_moves a_law_moves ["_law_opens_here", "_law_duty_here", "_law_names_here", "_law_cell_here"]
  m_law_moves : mg "_law_moves" = some (.ref a_law_moves)
  d_law_asked : DefAt c.K "_law_asked" "_law_asked" s_law_asked a_law_asked ["_law_made", "_law_duty_here", "_law_names_here", "_law_cell_here"]
  m_law_asked : mg "_law_asked" = some (.ref a_law_asked)
  d_law : DefAt c.K "law" "law" s_law a_law ["_law_script"]
  m_law : mg "law" = some (.ref a_law)
  b_bool : mg "bool" = none
  b_int : mg "int" = none
  b_isinstance : mg "isinstance" = none
  b_len : mg "len" = none
  b_list : mg "list" = none
  b_max : mg "max" = none
  b_min : mg "min" = none
  b_range : mg "range" = none
  b_reversed : mg "reversed" = none
  b_tuple : mg "tuple" = none
  q_bool : ∀ t b, q_bool.lookup t = some b → TyFact c (.type "bool") t b
  q_int : ∀ t b, q_int.lookup t = some b → TyFact c (.type "int") t b
  q_tuple : ∀ t b, q_tuple.lookup t = some b → TyFact c (.type "tuple") t b
theorem tw_watcher : Two n_watcher (defScope s_watcher) 5 6 [1, 2] [3, 4] nfs_0 nfs_1 := ⟨rfl, rfl, by decide +kernel, by decide +kernel, by decide, by decide, by decide +kernel, by decide +kernel, by decide, by decide, by decide, by decide⟩
section
variable {P : Program} {w : World} {mg : Str → Option Value} {base : Heap} {c : Kx} {a_watcher a_law_cell a_law_stream a_law_names a_law_whole a_law_duty a_law_count a_law_opens a_law_turns a_law_moves a_law_asked a_law cc_watcher : Addr}
variable (T : Txt c mg base a_watcher a_law_cell a_law_stream a_law_names a_law_whole a_law_duty a_law_count a_law_opens a_law_turns a_law_moves a_law_asked a_law cc_watcher)
include T
theorem fk_0 : CloOk P w c mg base 1 0 4 F_watcher_count :=
  CloOk.of (s := nfs_0) (N := n_watcher_count) (ps := ["left", "who", "act", "free"]) T.nf0 (NdefX.nscope_by (by decide +kernel)) (fun _ _ _ _ _ us hl => match us, hl with | [_, _, _, _], _ => rfl) fun f cl a A outer s0 H E hr => (ess_cons (es_if ((ew_or (et_cmp (op_eqA hr.units) (nomark _) s2_eqA (ee_var 0 rfl (pv 0)) (ee_int rfl)) (ew_or1 ((ew_and (et_cmp (op_eqA hr.units) (nomark _) s2_eqA (ee_var 1 rfl (pv 1)) (ee_var 4 rfl (pv 4))) (ew_and (et_cmp (op_eqA hr.units) (nomark _) s2_eqA (ee_var 2 rfl (pv 2)) (ee_var 5 rfl (pv 5))) (ew_and1 (et_val (ee_var 3 rfl (pv 3))))))).et))).et (ess_one (es_ret (ee_tup (ea_cons (ee_int rfl) (ea_cons (ee_bl rfl) (ea_nil rfl)))))) (ess_nil rfl)) (ess_cons (es_if (et_cmp (op_neA hr.units) (nomark _) s2_neA (ee_var 1 rfl (pv 1)) (ee_var 4 rfl (pv 4))) (ess_one (es_ret (ee_tup (ea_cons (ee_var 0 rfl (pv 0)) (ea_cons (ee_bl rfl) (ea_nil rfl)))))) (ess_nil rfl)) (ess_one (es_ret (ee_tup (ea_cons (ee_op op_sub s2_sub (ee_var 0 rfl (pv 0)) (ee_int rfl)) (ea_cons (ee_cmp (op_eqA hr.units) (nomark _) s2_eqA (ee_var 0 rfl (pv 0)) (ee_int rfl)) (ea_nil rfl))))))))
theorem fk_1 : CloOk P w c mg base 1 1 3 F_watcher_opens :=
  CloOk.of (s := nfs_1) (N := n_watcher_opens) (ps := ["left", "was", "now"]) T.nf1 (NdefX.nscope_by (by decide +kernel)) (fun _ _ _ _ _ us hl => match us, hl with | [_, _, _], _ => rfl) fun f cl a A outer s0 H E hr => (ess_cons (es_if ((ew_and (et_cmp (op_eqA hr.units) (nomark _) s2_eqA (ee_var 0 rfl (pv 0)) (ee_int rfl)) (ew_and (et_cmp (op_inA (room65 hr)) rfl s2_inA (ee_var 2 rfl (pv 2)) (ee_var 4 rfl (pv 4))) (ew_and1 (et_cmp (op_ninA (room65 hr)) rfl s2_ninA (ee_var 1 rfl (pv 1)) (ee_var 4 rfl (pv 4))))))).et (ess_one (es_ret (ee_var 3 rfl (pv 3)))) (ess_nil rfl)) (ess_one (es_ret (ee_var 0 rfl (pv 0)))))
theorem ct_all : ∀ i np F, tblC.lookup i = some (np, F) → CloOk P w c mg base 1 i np F
  | 0, _, _, h => by cases h; exact fk_0 T
  | 1, _, _, h => by cases h; exact fk_1 T
  | i + 2, _, _, h => by cases h
theorem fs_law_count : FnS P w c.K mg base 1 a_law_count (spF c 5 (bodyF 5 b_law_count)) [] :=
  FnS.of T.d_law_count sc_law_count (by decide) fun cdv A outer s H E hr => (ess_cons (es_if (et_cmp (op_eqA hr.units) (nomark _) s2_eqA (ee_var 1 rfl (pv 1)) (ee_int rfl)) (ess_one (es_ret (ee_tup (ea_cons (ee_int rfl) (ea_cons (ee_bl rfl) (ea_nil rfl)))))) (ess_nil rfl)) (ess_cons (es_if (et_cmp (op_neA hr.units) (nomark _) s2_neA (ee_var 2 rfl (pv 2)) (ee_ix (ee_var 0 rfl (pv 0)) (ee_int rfl) (fun _ _ => rfl))) (ess_one (es_ret (ee_tup (ea_cons (ee_var 1 rfl (pv 1)) (ea_cons (ee_bl rfl) (ea_nil rfl)))))) (ess_nil rfl)) (ess_cons (es_if ((ew_and (et_cmp (op_eqA hr.units) (nomark _) s2_eqA (ee_var 3 rfl (pv 3)) (ee_ix (ee_var 0 rfl (pv 0)) (ee_int rfl) (fun _ _ => rfl))) (ew_and1 (et_val (ee_var 4 rfl (pv 4)))))).et (ess_one (es_ret (ee_tup (ea_cons (ee_int rfl) (ea_cons (ee_bl rfl) (ea_nil rfl)))))) (ess_nil rfl)) (ess_one (es_ret (ee_tup (ea_cons (ee_op op_sub s2_sub (ee_var 1 rfl (pv 1)) (ee_int rfl)) (ea_cons (ee_cmp (op_eqA hr.units) (nomark _) s2_eqA (ee_var 1 rfl (pv 1)) (ee_int rfl)) (ea_nil rfl)))))))))
theorem fs_law_whole : FnS P w c.K mg base 1 a_law_whole (spF c 1 (bodyF 1 b_law_whole)) [] :=
  FnS.of T.d_law_whole sc_law_whole (by decide) fun cdv A outer s H E hr => (ess_one (es_ret (ee_and (ee_isi (d2 := .ty "int") (.ty "int") T.q_int ty_only (by rfl) T.b_isinstance (ee_var 0 rfl (pv 0)) (ee_bltn rfl (by rfl) T.b_int (by decide +kernel) (v := .ty "int") rfl (fun _ => .ty "int"))) (ee_one (ee_not (ee_isi (d2 := .ty "bool") (.ty "bool") T.q_bool ty_only (by rfl) T.b_isinstance (ee_var 0 rfl (pv 0)) (ee_bltn rfl (by rfl) T.b_bool (by decide +kernel) (v := .ty "bool") rfl (fun _ => .ty "bool"))))))))
theorem fs_law_stream : FnS P w c.K mg base 1 a_law_stream (spF c 2 (bodyF 5 b_law_stream)) [] :=
  FnS.of T.d_law_stream sc_law_stream (by decide) fun cdv A outer s H E hr => (ess_cons (es_asg (ee_lst (own := true) (ea_nil rfl)) (eg_name (pg_name (i := 2) sc_law_stream.nd rfl (by first | exact Or.inl rfl | exact Or.inr rfl)))) (ess_cons (es_asg (ee_op op_mod s2_mod (ee_var 0 rfl (pv 0)) (ee_int rfl)) (eg_name (pg_name (i := 3) sc_law_stream.nd rfl (by first | exact Or.inl rfl | exact Or.inr rfl)))) (ess_cons (es_for (passes_of rfl) rfl (ei_range1 (by rfl) T.b_range (ea_cons (ee_var 1 rfl (pv 1)) (ea_nil rfl))) (eg_name (pg_name (i := 4) sc_law_stream.nd rfl (by first | exact Or.inl rfl | exact Or.inr rfl))) (ess_cons (es_asg (ee_op op_mod s2_mod (ee_op op_addA (s2_addA false) (ee_op op_addA (s2_addA false) (ee_op op_mulA (s2_mulA false) (ee_var 3 rfl (pv 3)) (ee_int rfl)) (ee_op op_mulA (s2_mulA false) (ee_op op_mulA (s2_mulA false) (ee_int rfl) (ee_var 4 rfl (pv 4))) (ee_var 4 rfl (pv 4)))) (ee_int rfl)) (ee_int rfl)) (eg_name (pg_name (i := 3) sc_law_stream.nd rfl (by first | exact Or.inl rfl | exact Or.inr rfl)))) (ess_one (es_expr (ee_bm sm_append PySem.F.plainAttrs_list PySem.F.slot_list_append PySem.F.type_list_append mt_append (ee_var 2 rfl (pv 2)) (ea_cons (ee_op op_fdivW s2_div (ee_var 3 rfl (pv 3)) (ee_int rfl)) (ea_nil rfl))))))) (ess_one (es_ret (ee_var 2 rfl (pv 2)))))))
theorem fs_law_turns : FnS P w c.K mg base 2 a_law_turns (spF c 4 (bodyF 12 b_law_turns)) [] :=
  FnS.of T.d_law_turns sc_law_turns (by decide) fun cdv A outer s H E hr => (ess_cons (es_asg (ee_call spA_P DefOk.nil ((fs_law_stream T).P.mono (Nat.le_refl _)) (hr.mono (by decide)) (takes_of rfl rfl rfl rfl) (by rfl) T.m_law_stream (ea_cons (ee_var 3 rfl (pv 3)) (ea_cons (ee_int rfl) (ea_nil rfl)))) (eg_name (pg_name (i := 4) sc_law_turns.nd rfl (by first | exact Or.inl rfl | exact Or.inr rfl)))) (ess_cons (es_asg (ee_lst (own := false) (ea_cons (ee_int rfl) (ea_cons (ee_int rfl) (ea_cons (ee_ix (ee_var 1 rfl (pv 1)) (ee_int rfl) (fun _ _ => rfl)) (ea_cons (ee_op op_mod s2_mod (ee_op op_addA (s2_addA false) (ee_op op_mulA (s2_mulA false) (ee_op op_mulA (s2_mulA false) (ee_ix (ee_var 4 rfl (pv 4)) (ee_int rfl) (fun _ _ => rfl)) (ee_ix (ee_var 4 rfl (pv 4)) (ee_int rfl) (fun _ _ => rfl))) (ee_ix (ee_var 4 rfl (pv 4)) (ee_int rfl) (fun _ _ => rfl))) (ee_ix (ee_var 4 rfl (pv 4)) (ee_int rfl) (fun _ _ => rfl))) (ee_op op_addA (s2_addA false) (ee_ix (ee_var 1 rfl (pv 1)) (ee_int rfl) (fun _ _ => rfl)) (ee_int rfl))) (ea_nil rfl)))))) (eg_name (pg_name (i := 5) sc_law_turns.nd rfl (by first | exact Or.inl rfl | exact Or.inr rfl)))) (ess_cons (es_for (passes_of rfl) rfl (ei_range1 (by rfl) T.b_range (ea_cons (ee_int rfl) (ea_nil rfl))) (eg_name (pg_name (i := 6) sc_law_turns.nd rfl (by first | exact Or.inl rfl | exact Or.inr rfl))) (ess_cons (es_asg (ee_op op_mod s2_mod (ee_op op_addA (s2_addA false) (ee_ix (ee_var 4 rfl (pv 4)) (ee_int rfl) (fun _ _ => rfl)) (ee_op op_mulA (s2_mulA false) (ee_int rfl) (ee_var 6 rfl (pv 6)))) (ee_int rfl)) (eg_name (pg_name (i := 7) sc_law_turns.nd rfl (by first | exact Or.inl rfl | exact Or.inr rfl)))) (ess_cons (es_asg (ee_ix (ee_var 5 rfl (pv 5)) (ee_op op_mod s2_mod (ee_var 7 rfl (pv 7)) (ee_int rfl)) (fun _ _ => rfl)) (eg_name (pg_name (i := 8) sc_law_turns.nd rfl (by first | exact Or.inl rfl | exact Or.inr rfl)))) (ess_cons (es_asg (ee_ix (ee_var 2 rfl (pv 2)) (ee_op op_addA (s2_addA false) (ee_int rfl) (ee_op op_mulA (s2_mulA false) (ee_int rfl) (ee_op op_mod s2_mod (ee_op op_fdivW s2_div (ee_var 7 rfl (pv 7)) (ee_int rfl)) (ee_int rfl)))) (fun _ _ => rfl)) (eg_name (pg_name (i := 9) sc_law_turns.nd rfl (by first | exact Or.inl rfl | exact Or.inr rfl)))) (ess_cons (es_asg (ee_ix (ee_lst (own := false) (ea_cons (ee_ix (ee_var 1 rfl (pv 1)) (ee_int rfl) (fun _ _ => rfl)) (ea_cons (ee_ix (ee_var 2 rfl (pv 2)) (ee_int rfl) (fun _ _ => rfl)) (ea_cons (ee_str rfl) (ea_nil rfl))))) (ee_op op_mod s2_mod (ee_op op_fdivW s2_div (ee_var 7 rfl (pv 7)) (ee_int rfl)) (ee_int rfl)) (fun _ _ => rfl)) (eg_name (pg_name (i := 10) sc_law_turns.nd rfl (by first | exact Or.inl rfl | exact Or.inr rfl)))) (ess_cons (es_asg (ee_callC (ct_all T) (hr.mono (by decide)) (ee_var 0 rfl (pv 0)) (ea_cons (ee_var 8 rfl (pv 8)) (ea_cons (ee_var 9 rfl (pv 9)) (ea_cons (ee_var 10 rfl (pv 10)) (ea_cons (ee_cmp (op_eqA hr.units) (nomark _) s2_eqA (ee_op op_fdivW s2_div (ee_var 7 rfl (pv 7)) (ee_int rfl)) (ee_int rfl)) (ea_nil rfl)))))) (eg_name (pg_name (i := 11) sc_law_turns.nd rfl (by first | exact Or.inl rfl | exact Or.inr rfl)))) (ess_cons (es_if ((ew_or (et_not (et_val (ee_isi (d2 := .ty "tuple") (.ty "tuple") T.q_tuple ty_only (by rfl) T.b_isinstance (ee_var 11 rfl (pv 11)) (ee_bltn rfl (by rfl) T.b_tuple (by decide +kernel) (v := .ty "tuple") rfl (fun _ => .ty "tuple"))))) (ew_or (et_cmp (op_neA hr.units) (nomark _) s2_neA (ee_cb call_len sn_len (by rfl) T.b_len (by decide +kernel) (ea_cons (ee_var 11 rfl (pv 11)) (ea_nil rfl))) (ee_int rfl)) (ew_or1 (et_not (et_val (ee_call spA_P DefOk.nil ((fs_law_whole T).P.mono (Nat.le_refl _)) (hr.mono (by decide)) (takes_of rfl rfl rfl rfl) (by rfl) T.m_law_whole (ea_cons (ee_ix (ee_var 11 rfl (pv 11)) (ee_int rfl) (fun _ _ => rfl)) (ea_nil rfl))))))))).et (ess_one (es_ret (ee_bl rfl))) (ess_nil rfl)) (ess_one (es_if ((ew_or (et_not (et_val (ee_isi (d2 := .ty "bool") (.ty "bool") T.q_bool ty_only (by rfl) T.b_isinstance (ee_ix (ee_var 11 rfl (pv 11)) (ee_int rfl) (fun _ _ => rfl)) (ee_bltn rfl (by rfl) T.b_bool (by decide +kernel) (v := .ty "bool") rfl (fun _ => .ty "bool"))))) (ew_or1 (et_cmp (op_neA hr.units) (nomark _) s2_neA (ee_var 11 rfl (pv 11)) (ee_call spA_P DefOk.nil ((fs_law_count T).P.mono (Nat.le_refl _)) (hr.mono (by decide)) (takes_of rfl rfl rfl rfl) (by rfl) T.m_law_count (ea_cons (ee_var 1 rfl (pv 1)) (ea_cons (ee_var 8 rfl (pv 8)) (ea_cons (ee_var 9 rfl (pv 9)) (ea_cons (ee_var 10 rfl (pv 10)) (ea_cons (ee_cmp (op_eqA hr.units) (nomark _) s2_eqA (ee_op op_fdivW s2_div (ee_var 7 rfl (pv 7)) (ee_int rfl)) (ee_int rfl)) (ea_nil rfl))))))))))).et (ess_one (es_ret (ee_bl rfl))) (ess_nil rfl)))))))))) (ess_one (es_ret (ee_bl rfl))))))
theorem fs_law_opens : FnS P w c.K mg base 1 a_law_opens (spF c 4 (bodyF 4 b_law_opens)) [] :=
  FnS.of T.d_law_opens sc_law_opens (by decide) fun cdv A outer s H E hr => (ess_cons (es_if ((ew_and (et_cmp (op_eqA hr.units) (nomark _) s2_eqA (ee_var 1 rfl (pv 1)) (ee_int rfl)) (ew_and (et_cmp (op_inA (room65 hr)) rfl s2_inA (ee_var 3 rfl (pv 3)) (ee_ix (ee_var 0 rfl (pv 0)) (ee_int rfl) (fun _ _ => rfl))) (ew_and1 (et_cmp (op_ninA (room65 hr)) rfl s2_ninA (ee_var 2 rfl (pv 2)) (ee_ix (ee_var 0 rfl (pv 0)) (ee_int rfl) (fun _ _ => rfl))))))).et (ess_one (es_ret (ee_ix (ee_var 0 rfl (pv 0)) (ee_int rfl) (fun _ _ => rfl)))) (ess_nil rfl)) (ess_one (es_ret (ee_var 1 rfl (pv 1)))))
theorem fs_law_moves : FnS P w c.K mg base 2 a_law_moves (spF c 4 (bodyF 13 b_law_moves)) [] :=
  FnS.of T.d_law_moves sc_law_moves (by decide) fun cdv A outer s H E hr => (ess_cons (es_asg (ee_call spA_P DefOk.nil ((fs_law_stream T).P.mono (Nat.le_refl _)) (hr.mono (by decide)) (takes_of rfl rfl rfl rfl) (by rfl) T.m_law_stream (ea_cons (ee_var 3 rfl (pv 3)) (ea_cons (ee_int rfl) (ea_nil rfl)))) (eg_name (pg_name (i := 4) sc_law_moves.nd rfl (by first | exact Or.inl rfl | exact Or.inr rfl)))) (ess_cons (es_asg (ee_lst (own := false) (ea_cons (ee_int rfl) (ea_cons (ee_op op_addA (s2_addA false) (ee_int rfl) (ee_op op_mod s2_mod (ee_op op_addA (s2_addA false) (ee_op op_mulA (s2_mulA false) (ee_op op_mulA (s2_mulA false) (ee_ix (ee_var 4 rfl (pv 4)) (ee_int rfl) (fun _ _ => rfl)) (ee_ix (ee_var 4 rfl (pv 4)) (ee_int rfl) (fun _ _ => rfl))) (ee_ix (ee_var 4 rfl (pv 4)) (ee_int rfl) (fun _ _ => rfl))) (ee_ix (ee_var 4 rfl (pv 4)) (ee_int rfl) (fun _ _ => rfl))) (ee_ix (ee_var 1 rfl (pv 1)) (ee_int rfl) (fun _ _ => rfl)))) (ea_nil rfl)))) (eg_name (pg_name (i := 5) sc_law_moves.nd rfl (by first | exact Or.inl rfl | exact Or.inr rfl)))) (ess_cons (es_asg (ee_slice (own := false) (ee_var 2 rfl (pv 2)) (eo_some (ee_int rfl)) (eo_some (ee_int rfl))) (eg_name (pg_name (i := 6) sc_law_moves.nd rfl (by first | exact Or.inl rfl | exact Or.inr rfl)))) (ess_cons (es_for (passes_of rfl) rfl (ei_range1 (by rfl) T.b_range (ea_cons (ee_int rfl) (ea_nil rfl))) (eg_name (pg_name (i := 7) sc_law_moves.nd rfl (by first | exact Or.inl rfl | exact Or.inr rfl))) (ess_cons (es_asg (ee_op op_mod s2_mod (ee_op op_addA (s2_addA false) (ee_ix (ee_var 4 rfl (pv 4)) (ee_int rfl) (fun _ _ => rfl)) (ee_op op_mulA (s2_mulA false) (ee_int rfl) (ee_var 7 rfl (pv 7)))) (ee_int rfl)) (eg_name (pg_name (i := 8) sc_law_moves.nd rfl (by first | exact Or.inl rfl | exact Or.inr rfl)))) (ess_cons (es_asg (ee_ix (ee_var 5 rfl (pv 5)) (ee_op op_mod s2_mod (ee_var 8 rfl (pv 8)) (ee_int rfl)) (fun _ _ => rfl)) (eg_name (pg_name (i := 9) sc_law_moves.nd rfl (by first | exact Or.inl rfl | exact Or.inr rfl)))) (ess_cons (es_asg (ee_ix (ee_op op_addA (s2_addA false) (ee_var 6 rfl (pv 6)) (ee_lst (own := false) (ea_cons (ee_non rfl) (ea_nil rfl)))) (ee_op op_mod s2_mod (ee_op op_fdivW s2_div (ee_var 8 rfl (pv 8)) (ee_int rfl)) (ee_int rfl)) (fun _ _ => rfl)) (eg_name (pg_name (i := 10) sc_law_moves.nd rfl (by first | exact Or.inl rfl | exact Or.inr rfl)))) (ess_cons (es_asg (ee_ix (ee_var 6 rfl (pv 6)) (ee_op op_fdivW s2_div (ee_var 8 rfl (pv 8)) (ee_int rfl)) (fun _ _ => rfl)) (eg_name (pg_name (i := 11) sc_law_moves.nd rfl (by first | exact Or.inl rfl | exact Or.inr rfl)))) (ess_cons (es_asg (ee_callC (ct_all T) (hr.mono (by decide)) (ee_var 0 rfl (pv 0)) (ea_cons (ee_var 9 rfl (pv 9)) (ea_cons (ee_var 10 rfl (pv 10)) (ea_cons (ee_var 11 rfl (pv 11)) (ea_nil rfl))))) (eg_name (pg_name (i := 12) sc_law_moves.nd rfl (by first | exact Or.inl rfl | exact Or.inr rfl)))) (ess_one (es_if ((ew_or (et_not (et_val (ee_call spA_P DefOk.nil ((fs_law_whole T).P.mono (Nat.le_refl _)) (hr.mono (by decide)) (takes_of rfl rfl rfl rfl) (by rfl) T.m_law_whole (ea_cons (ee_var 12 rfl (pv 12)) (ea_nil rfl))))) (ew_or1 (et_cmp (op_neA hr.units) (nomark _) s2_neA (ee_var 12 rfl (pv 12)) (ee_call spA_P DefOk.nil ((fs_law_opens T).P.mono (Nat.le_refl _)) (hr.mono (by decide)) (takes_of rfl rfl rfl rfl) (by rfl) T.m_law_opens (ea_cons (ee_var 1 rfl (pv 1)) (ea_cons (ee_var 9 rfl (pv 9)) (ea_cons (ee_var 10 rfl (pv 10)) (ea_cons (ee_var 11 rfl (pv 11)) (ea_nil rfl)))))))))).et (ess_one (es_ret (ee_bl rfl))) (ess_nil rfl))))))))) (ess_one (es_ret (ee_bl rfl)))))))
theorem fs_law_asked : FnS P w c.K mg base 3 a_law_asked (spF c 4 (bodyF 6 b_law_asked)) [] :=
  FnS.of T.d_law_asked sc_law_asked (by decide) fun cdv A outer s H E hr => (ess_cons (es_asg (ee_var 0 rfl (pv 0)) (eg_tup (is := [4, 5]) rfl rfl (pgs_cons (pg_name (i := 4) sc_law_asked.nd rfl (by first | exact Or.inl rfl | exact Or.inr rfl)) (pgs_cons (pg_name (i := 5) sc_law_asked.nd rfl (by first | exact Or.inl rfl | exact Or.inr rfl)) pgs_nil)))) (ess_cons (es_if (et_cmp (op_eqA hr.units) (nomark _) s2_eqA (ee_op op_mod s2_mod (ee_var 3 rfl (pv 3)) (ee_int rfl)) (ee_int rfl)) (ess_one (es_ret (ee_and (ee_call spA_P DefOk.nil ((fs_law_turns T).P.mono (Nat.le_refl _)) (hr.mono (by decide)) (takes_of rfl rfl rfl rfl) (by rfl) T.m_law_turns (ea_cons (ee_var 4 rfl (pv 4)) (ea_cons (ee_var 1 rfl (pv 1)) (ea_cons (ee_var 2 rfl (pv 2)) (ea_cons (ee_op op_fdivW s2_div (ee_var 3 rfl (pv 3)) (ee_int rfl)) (ea_nil rfl)))))) (ee_one (ee_call spA_P DefOk.nil ((fs_law_moves T).P.mono (Nat.le_refl _)) (hr.mono (by decide)) (takes_of rfl rfl rfl rfl) (by rfl) T.m_law_moves (ea_cons (ee_var 5 rfl (pv 5)) (ea_cons (ee_var 1 rfl (pv 1)) (ea_cons (ee_var 2 rfl (pv 2)) (ea_cons (ee_op op_fdivW s2_div (ee_var 3 rfl (pv 3)) (ee_int rfl)) (ea_nil rfl)))))))))) (ess_nil rfl)) (ess_one (es_ret (ee_and (ee_call spA_P DefOk.nil ((fs_law_moves T).P.mono (Nat.le_refl _)) (hr.mono (by decide)) (takes_of rfl rfl rfl rfl) (by rfl) T.m_law_moves (ea_cons (ee_var 5 rfl (pv 5)) (ea_cons (ee_var 1 rfl (pv 1)) (ea_cons (ee_var 2 rfl (pv 2)) (ea_cons (ee_op op_fdivW s2_div (ee_var 3 rfl (pv 3)) (ee_int rfl)) (ea_nil rfl)))))) (ee_one (ee_call spA_P DefOk.nil ((fs_law_turns T).P.mono (Nat.le_refl _)) (hr.mono (by decide)) (takes_of rfl rfl rfl rfl) (by rfl) T.m_law_turns (ea_cons (ee_var 4 rfl (pv 4)) (ea_cons (ee_var 1 rfl (pv 1)) (ea_cons (ee_var 2 rfl (pv 2)) (ea_cons (ee_op op_fdivW s2_div (ee_var 3 rfl (pv 3)) (ee_int rfl)) (ea_nil rfl))))))))))))
theorem fs_watcher : FnS P w c.K mg base 2 a_watcher (spF c 1 B_watcher) [] :=
  FnS.clo2 (k := 1) (init := (defBody s_watcher).take 4) (d1 := nfs_0.st) (d2 := nfs_1.st) T.d_watcher sc_watcher (by decide) rfl tw_watcher T.tb (fun A outer s H E => ⟨⟨T.nf0, ⟨_, rfl, T.tn0⟩, rfl, fr_0, rfl, rfl, rfl, rfl, rfl⟩, ⟨T.nf1, ⟨_, rfl, T.tn1⟩, rfl, fr_1, rfl, rfl, rfl, rfl, rfl⟩⟩) fun A outer s H E hr => (ess_cons (es_asg (ee_ix (ee_var 0 rfl (pv 0)) (ee_int rfl) (fun _ _ => rfl)) (eg_name (pg_name (i := 1) sc_watcher.nd rfl (by first | exact Or.inl rfl | exact Or.inr rfl)))) (ess_cons (es_asg (ee_ix (ee_var 0 rfl (pv 0)) (ee_int rfl) (fun _ _ => rfl)) (eg_name (pg_name (i := 2) sc_watcher.nd rfl (by first | exact Or.inl rfl | exact Or.inr rfl)))) (ess_cons (es_asg (ee_ix (ee_var 0 rfl (pv 0)) (ee_int rfl) (fun _ _ => rfl)) (eg_name (pg_name (i := 3) sc_watcher.nd rfl (by first | exact Or.inl rfl | exact Or.inr rfl)))) (ess_one (es_asg (ee_cty call_list_of (sn_list false) (by rfl) T.b_list (by decide +kernel) (ea_cons (ee_ix (ee_var 0 rfl (pv 0)) (ee_int rfl) (fun _ _ => rfl)) (ea_nil rfl))) (eg_name (pg_name (i := 4) sc_watcher.nd rfl (by first | exact Or.inl rfl | exact Or.inr rfl))))))))
theorem fs_law_duty : FnS P w c.K mg base 2 a_law_duty (spF c 2 (bodyF 6 b_law_duty)) [] :=
  FnS.of T.d_law_duty sc_law_duty (by decide) fun cdv A outer s H E hr => (ess_cons (es_asg (ee_call spA_P DefOk.nil ((fs_law_stream T).P.mono (Nat.le_refl _)) (hr.mono (by decide)) (takes_of rfl rfl rfl rfl) (by rfl) T.m_law_stream (ea_cons (ee_var 0 rfl (pv 0)) (ea_cons (ee_int rfl) (ea_nil rfl)))) (eg_name (pg_name (i := 2) sc_law_duty.nd rfl (by first | exact Or.inl rfl | exact Or.inr rfl)))) (ess_cons (es_asg (ee_op op_addA (s2_addA false) (ee_int rfl) (ee_op op_mod s2_mod (ee_ix (ee_var 2 rfl (pv 2)) (ee_int rfl) (fun _ _ => rfl)) (ee_int rfl))) (eg_name (pg_name (i := 3) sc_law_duty.nd rfl (by first | exact Or.inl rfl | exact Or.inr rfl)))) (ess_cons (es_if (et_cmp (op_eqA hr.units) (nomark _) s2_eqA (ee_op op_mod s2_mod (ee_ix (ee_var 2 rfl (pv 2)) (ee_int rfl) (fun _ _ => rfl)) (ee_int rfl)) (ee_int rfl)) (ess_one (es_asg (ee_op op_addA (s2_addA false) (ee_int rfl) (ee_op op_mod s2_mod (ee_op op_mulA (s2_mulA false) (ee_op op_mulA (s2_mulA false) (ee_ix (ee_var 2 rfl (pv 2)) (ee_int rfl) (fun _ _ => rfl)) (ee_ix (ee_var 2 rfl (pv 2)) (ee_int rfl) (fun _ _ => rfl))) (ee_ix (ee_var 2 rfl (pv 2)) (ee_int rfl) (fun _ _ => rfl))) (ee_op op_sub s2_sub (ee_op op_pow s2_pow (ee_int rfl) (ee_int rfl)) (ee_int rfl)))) (eg_name (pg_name (i := 3) sc_law_duty.nd rfl (by first | exact Or.inl rfl | exact Or.inr rfl))))) (ess_nil rfl)) (ess_cons (es_lc (i := 4) (ownr := false) (own := [("_law_k", 5)]) rfl sc_law_duty.nd (ei_range1 (by rfl) T.b_range (ea_cons (ee_int rfl) (ea_nil rfl))) (blkOk_by (own := [("_law_k", 5)]) (N := n_law_duty) (sc := defScope s_law_duty) (by decide +kernel)) (by decide) (fun _ _ _ _ _ => (eg_name (pg_name (i := 5) sc_law_duty.nd rfl (by first | exact Or.inl rfl | exact Or.inr rfl)))) (fun _ _ _ _ _ => (ets_one (et_cmp (op_eqA hr.units) (nomark _) s2_eqA (ee_op op_and s2_and (ee_op op_shr s2_shr (ee_ix (ee_var 2 rfl (pv 2)) (ee_int rfl) (fun _ _ => rfl)) (ee_var 5 rfl (pv 5))) (ee_int rfl)) (ee_int rfl)))) (fun _ _ _ _ _ => (ee_ix (ee_var 1 rfl (pv 1)) (ee_op op_addA (s2_addA false) (ee_int rfl) (ee_var 5 rfl (pv 5))) (fun _ _ => rfl))) rfl rfl (sw_true rfl rfl rfl (by decide +kernel))) (ess_one (es_ret (ee_tup (ea_cons (ee_ix (ee_var 1 rfl (pv 1)) (ee_int rfl) (fun _ _ => rfl)) (ea_cons (ee_str rfl) (ea_cons (ee_ix (ee_var 1 rfl (pv 1)) (ee_int rfl) (fun _ _ => rfl)) (ea_cons (ee_ix (ee_var 1 rfl (pv 1)) (ee_int rfl) (fun _ _ => rfl)) (ea_cons (ee_var 3 rfl (pv 3)) (ea_cons (ee_ix (ee_var 1 rfl (pv 1)) (ee_int rfl) (fun _ _ => rfl)) (ea_cons (ee_var 4 rfl (pv 4)) (ea_cons (ee_op op_mod s2_mod (ee_ix (ee_var 2 rfl (pv 2)) (ee_int rfl) (fun _ _ => rfl)) (ee_int rfl)) (ea_nil rfl))))))))))))))))
theorem fs_law_names : FnS P w c.K mg base 1 a_law_names (spF c 2 (bodyF 11 b_law_names)) [] :=
  FnS.of T.d_law_names sc_law_names (by decide) fun cdv A outer s H E hr => (ess_cons (es_asg (ee_str rfl) (eg_name (pg_name (i := 2) sc_law_names.nd rfl (by first | exact Or.inl rfl | exact Or.inr rfl)))) (ess_cons (es_asg (ee_op op_mod s2_mod (ee_var 0 rfl (pv 0)) (ee_int rfl)) (eg_name (pg_name (i := 3) sc_law_names.nd rfl (by first | exact Or.inl rfl | exact Or.inr rfl)))) (ess_cons (es_asg (ee_op op_mod s2_mod (ee_op op_addA (s2_addA false) (ee_op op_addA (s2_addA false) (ee_var 3 rfl (pv 3)) (ee_int rfl)) (ee_op op_mod s2_mod (ee_op op_fdivW s2_div (ee_var 0 rfl (pv 0)) (ee_int rfl)) (ee_int rfl))) (ee_int rfl)) (eg_name (pg_name (i := 4) sc_law_names.nd rfl (by first | exact Or.inl rfl | exact Or.inr rfl)))) (ess_cons (es_asg (ee_lst (own := true) (ea_nil rfl)) (eg_name (pg_name (i := 5) sc_law_names.nd rfl (by first | exact Or.inl rfl | exact Or.inr rfl)))) (ess_cons (es_for (passes_of rfl) rfl (ei_range1 (by rfl) T.b_range (ea_cons (ee_var 1 rfl (pv 1)) (ea_nil rfl))) (eg_name (pg_name (i := 6) sc_law_names.nd rfl (by first | exact Or.inl rfl | exact Or.inr rfl))) (ess_cons (es_asg (ee_op op_sub s2_sub (ee_var 6 rfl (pv 6)) (ee_op op_mulA (s2_mulA false) (ee_op op_mod s2_mod (ee_var 6 rfl (pv 6)) (ee_int rfl)) (ee_op op_mod s2_mod (ee_op op_fdivW s2_div (ee_var 0 rfl (pv 0)) (ee_int rfl)) (ee_int rfl)))) (eg_name (pg_name (i := 7) sc_law_names.nd rfl (by first | exact Or.inl rfl | exact Or.inr rfl)))) (ess_cons (es_lc (i := 8) (ownr := true) (own := [("_law_k", 10)]) rfl sc_law_names.nd (ei_range1 (by rfl) T.b_range (ea_cons (ee_int rfl) (ea_nil rfl))) (blkOk_by (own := [("_law_k", 10)]) (N := n_law_names) (sc := defScope s_law_names) (by decide +kernel)) (by decide) (fun _ _ _ _ _ => (eg_name (pg_name (i := 10) sc_law_names.nd rfl (by first | exact Or.inl rfl | exact Or.inr rfl)))) (fun _ _ _ _ _ => ets_nil) (fun _ _ _ _ _ => (ee_ix (ee_var 2 rfl (pv 2)) (ee_op op_mod s2_mod (ee_op op_addA (s2_addA false) (ee_op op_fdivW s2_div (ee_op op_fdivW s2_div (ee_var 0 rfl (pv 0)) (ee_int rfl)) (ee_op op_addA (s2_addA false) (ee_var 10 rfl (pv 10)) (ee_int rfl))) (ee_op op_mulA (s2_mulA false) (ee_var 10 rfl (pv 10)) (ee_var 10 rfl (pv 10)))) (ee_int rfl)) (fun _ _ => rfl))) rfl rfl (sw_true rfl rfl rfl (by decide +kernel))) (ess_cons (es_setL (ee_ix (ee_str rfl) (ee_op op_mod s2_mod (ee_op op_addA (s2_addA false) (ee_op op_mulA (s2_mulA false) (ee_var 7 rfl (pv 7)) (ee_int rfl)) (ee_op op_fdivW s2_div (ee_var 0 rfl (pv 0)) (ee_int rfl))) (ee_int rfl)) (fun _ _ => rfl)) (ee_var 8 rfl (pv 8)) (ee_var 3 rfl (pv 3))) (ess_cons (es_setL (ee_ix (ee_var 2 rfl (pv 2)) (ee_op op_mod s2_mod (ee_op op_addA (s2_addA false) (ee_op op_fdivW s2_div (ee_var 0 rfl (pv 0)) (ee_int rfl)) (ee_op op_fdivW s2_div (ee_var 7 rfl (pv 7)) (ee_int rfl))) (ee_int rfl)) (fun _ _ => rfl)) (ee_var 8 rfl (pv 8)) (ee_var 4 rfl (pv 4))) (ess_cons (es_asg (ee_op op_sub s2_sub (ee_op op_addA (s2_addA false) (ee_op op_addA (s2_addA false) (ee_int rfl) (ee_op op_mod s2_mod (ee_op op_fdivW s2_div (ee_var 0 rfl (pv 0)) (ee_op op_addA (s2_addA false) (ee_var 7 rfl (pv 7)) (ee_int rfl))) (ee_int rfl))) (ee_var 6 rfl (pv 6))) (ee_var 7 rfl (pv 7))) (eg_name (pg_name (i := 9) sc_law_names.nd rfl (by first | exact Or.inl rfl | exact Or.inr rfl)))) (ess_one (es_expr (ee_bm sm_append PySem.F.plainAttrs_list PySem.F.slot_list_append PySem.F.type_list_append mt_append (ee_var 5 rfl (pv 5)) (ea_cons (ee_bm sm_join PySem.F.plainAttrs_str PySem.F.slot_str_join PySem.F.type_str_join mt_join (ee_str rfl) (ea_cons (ee_slice (own := false) (ee_var 8 rfl (pv 8)) eo_none (eo_some (ee_var 9 rfl (pv 9)))) (ea_nil rfl))) (ea_nil rfl))))))))))) (ess_one (es_ret (ee_var 5 rfl (pv 5)))))))))
theorem fs_law_cell : FnS P w c.K mg base 1 a_law_cell (spF c 2 (bodyF 3 b_law_cell)) [] :=
  FnS.of T.d_law_cell sc_law_cell (by decide) fun cdv A outer s H E hr => (ess_cons (es_asg (ee_op op_addA (s2_addA false) (ee_op op_mulA (s2_mulA false) (ee_var 1 rfl (pv 1)) (ee_int rfl)) (ee_int rfl)) (eg_name (pg_name (i := 2) sc_law_cell.nd rfl (by first | exact Or.inl rfl | exact Or.inr rfl)))) (ess_cons (es_if (et_cmp op_lt (nomark _) s2_lt (ee_var 1 rfl (pv 1)) (ee_cb call_len sn_len (by rfl) T.b_len (by decide +kernel) (ea_cons (ee_var 0 rfl (pv 0)) (ea_nil rfl)))) (ess_one (es_asg (ee_op op_mod s2_mod (ee_ix (ee_var 0 rfl (pv 0)) (ee_var 1 rfl (pv 1)) (fun _ _ => rfl)) (ee_int rfl)) (eg_name (pg_name (i := 2) sc_law_cell.nd rfl (by first | exact Or.inl rfl | exact Or.inr rfl))))) (ess_one (es_if (et_cmp op_gt (nomark _) s2_gt (ee_cb call_len sn_len (by rfl) T.b_len (by decide +kernel) (ea_cons (ee_var 0 rfl (pv 0)) (ea_nil rfl))) (ee_int rfl)) (ess_one (es_asg (ee_op op_addA (s2_addA false) (ee_op op_mulA (s2_mulA false) (ee_op op_mod s2_mod (ee_ix (ee_var 0 rfl (pv 0)) (ee_op op_mod s2_mod (ee_op op_mulA (s2_mulA false) (ee_var 1 rfl (pv 1)) (ee_int rfl)) (ee_cb call_len sn_len (by rfl) T.b_len (by decide +kernel) (ea_cons (ee_var 0 rfl (pv 0)) (ea_nil rfl)))) (fun _ _ => rfl)) (ee_int rfl)) (ee_int rfl)) (ee_op op_mulA (s2_mulA false) (ee_var 1 rfl (pv 1)) (ee_int rfl))) (eg_name (pg_name (i := 2) sc_law_cell.nd rfl (by first | exact Or.inl rfl | exact Or.inr rfl))))) (ess_nil rfl)))) (ess_one (es_ret (ee_op op_mod s2_mod (ee_op op_mulA (s2_mulA false) (ee_op op_mod s2_mod (ee_op op_mulA (s2_mulA false) (ee_var 2 rfl (pv 2)) (ee_int rfl)) (ee_int rfl)) (ee_int rfl)) (ee_int rfl))))))
theorem fs_law : FnS P w c.K mg base 4 a_law (spF c 1 (bodyF 8 b_law)) [] :=
  FnS.of T.d_law sc_law (by decide) fun cdv A outer s H E hr => (ess_cons (es_asg (ee_lst (own := true) (ea_nil rfl)) (eg_name (pg_name (i := 1) sc_law.nd rfl (by first | exact Or.inl rfl | exact Or.inr rfl)))) (ess_cons (es_for (passes_of rfl) rfl (ei_range1 (by rfl) T.b_range (ea_cons (ee_cb (call_max2 rfl) sn_max2 (by rfl) T.b_max (by decide +kernel) (ea_cons (ee_int rfl) (ea_cons (ee_cb (call_min2 rfl) sn_min2 (by rfl) T.b_min (by decide +kernel) (ea_cons (ee_cb call_len sn_len (by rfl) T.b_len (by decide +kernel) (ea_cons (ee_var 0 rfl (pv 0)) (ea_nil rfl))) (ea_cons (ee_int rfl) (ea_nil rfl)))) (ea_nil rfl)))) (ea_nil rfl))) (eg_name (pg_name (i := 2) sc_law.nd rfl (by first | exact Or.inl rfl | exact Or.inr rfl))) (ess_cons (es_asg (ee_call spA_P DefOk.nil ((fs_law_cell T).P.mono (Nat.le_refl _)) (hr.mono (by decide)) (takes_of rfl rfl rfl rfl) (by rfl) T.m_law_cell (ea_cons (ee_var 0 rfl (pv 0)) (ea_cons (ee_var 2 rfl (pv 2)) (ea_nil rfl)))) (eg_name (pg_name (i := 6) sc_law.nd rfl (by first | exact Or.inl rfl | exact Or.inr rfl)))) (ess_cons (es_asg (ee_call spA_P DefOk.nil ((fs_law_names T).P.mono (Nat.le_refl _)) (hr.mono (by decide)) (takes_of rfl rfl rfl rfl) (by rfl) T.m_law_names (ea_cons (ee_ix (ee_call spA_P DefOk.nil ((fs_law_stream T).P.mono (Nat.le_refl _)) (hr.mono (by decide)) (takes_of rfl rfl rfl rfl) (by rfl) T.m_law_stream (ea_cons (ee_var 6 rfl (pv 6)) (ea_cons (ee_int rfl) (ea_nil rfl)))) (ee_int rfl) (fun _ _ => rfl)) (ea_cons (ee_int rfl) (ea_nil rfl)))) (eg_name (pg_name (i := 5) sc_law.nd rfl (by first | exact Or.inl rfl | exact Or.inr rfl)))) (ess_cons (es_asg (ee_call spA_P DefOk.nil ((fs_law_duty T).P.mono (Nat.le_refl _)) (hr.mono (by decide)) (takes_of rfl rfl rfl rfl) (by rfl) T.m_law_duty (ea_cons (ee_var 6 rfl (pv 6)) (ea_cons (ee_var 5 rfl (pv 5)) (ea_nil rfl)))) (eg_name (pg_name (i := 4) sc_law.nd rfl (by first | exact Or.inl rfl | exact Or.inr rfl)))) (ess_cons (es_asg (ee_cty call_list_of (sn_list true) (by rfl) T.b_list (by decide +kernel) (ea_cons (ee_ix (ee_var 4 rfl (pv 4)) (ee_int rfl) (fun _ _ => rfl)) (ea_nil rfl))) (eg_name (pg_name (i := 7) sc_law.nd rfl (by first | exact Or.inl rfl | exact Or.inr rfl)))) (ess_cons (es_asg (ee_call spA_F DefOk.nil ((fs_watcher T).mono (Nat.le_refl _)) (hr.mono (by decide)) (takes_of rfl rfl rfl rfl) (by rfl) T.m_watcher (ea_cons (ee_op op_catO s2_catO (ee_slice (own := false) (ee_var 4 rfl (pv 4)) eo_none (eo_some (ee_int rfl))) (ee_tupO (ea_cons (ee_var 7 rfl (pv 7)) (ea_cons (ee_ix (ee_var 4 rfl (pv 4)) (ee_int rfl) (fun _ _ => rfl)) (ea_nil rfl))))) (ea_nil rfl))) (eg_name (pg_name (i := 3) sc_law.nd rfl (by first | exact Or.inl rfl | exact Or.inr rfl)))) (ess_cons (es_if ((ew_or (et_not (et_val (ee_isi (d2 := .ty "tuple") (.ty "tuple") T.q_tuple ty_only (by rfl) T.b_isinstance (ee_var 3 rfl (pv 3)) (ee_bltn rfl (by rfl) T.b_tuple (by decide +kernel) (v := .ty "tuple") rfl (fun _ => .ty "tuple"))))) (ew_or (et_cmp (op_neA hr.units) (nomark _) s2_neA (ee_cb call_len sn_len (by rfl) T.b_len (by decide +kernel) (ea_cons (ee_var 3 rfl (pv 3)) (ea_nil rfl))) (ee_int rfl)) (ew_or1 (et_cmp (op_neA hr.units) (nomark _) s2_neA (ee_var 7 rfl (pv 7)) (ee_ix (ee_var 4 rfl (pv 4)) (ee_int rfl) (fun _ _ => rfl))))))).et (ess_one (es_ret (ee_bl rfl))) (ess_nil rfl)) (ess_cons (es_expr (ee_bm0 sm_clear PySem.F.plainAttrs_list PySem.F.slot_list_clear PySem.F.type_list_clear mt_clear (ee_var 7 rfl (pv 7)))) (ess_one (es_expr (ee_bm sm_append PySem.F.plainAttrs_list PySem.F.slot_list_append PySem.F.type_list_append mt_append (ee_var 1 rfl (pv 1)) (ea_cons (ee_tup (ea_cons (ee_var 3 rfl (pv 3)) (ea_cons (ee_var 4 rfl (pv 4)) (ea_cons (ee_var 5 rfl (pv 5)) (ea_cons (ee_var 6 rfl (pv 6)) (ea_nil rfl)))))) (ea_nil rfl))))))))))))) (ess_cons (es_for (passes_of rfl) rfl (ei_seq (ee_frz (ee_var 1 rfl (pv 1)))) (eg_tup (is := [3, 4, 5, 6]) rfl rfl (pgs_cons (pg_name (i := 3) sc_law.nd rfl (by first | exact Or.inl rfl | exact Or.inr rfl)) (pgs_cons (pg_name (i := 4) sc_law.nd rfl (by first | exact Or.inl rfl | exact Or.inr rfl)) (pgs_cons (pg_name (i := 5) sc_law.nd rfl (by first | exact Or.inl rfl | exact Or.inr rfl)) (pgs_cons (pg_name (i := 6) sc_law.nd rfl (by first | exact Or.inl rfl | exact Or.inr rfl)) pgs_nil))))) (ess_one (es_if (et_not (et_val (ee_call spA_P DefOk.nil ((fs_law_asked T).P.mono (Nat.le_refl _)) (hr.mono (by decide)) (takes_of rfl rfl rfl rfl) (by rfl) T.m_law_asked (ea_cons (ee_var 3 rfl (pv 3)) (ea_cons (ee_var 4 rfl (pv 4)) (ea_cons (ee_var 5 rfl (pv 5)) (ea_cons (ee_var 6 rfl (pv 6)) (ea_nil rfl)))))))) (ess_one (es_ret (ee_bl rfl))) (ess_nil rfl)))) (ess_cons (es_for (passes_of rfl) rfl (ei_rev (by rfl) T.b_reversed (ea_cons (ee_frz (ee_var 1 rfl (pv 1))) (ea_nil rfl))) (eg_tup (is := [3, 4, 5, 6]) rfl rfl (pgs_cons (pg_name (i := 3) sc_law.nd rfl (by first | exact Or.inl rfl | exact Or.inr rfl)) (pgs_cons (pg_name (i := 4) sc_law.nd rfl (by first | exact Or.inl rfl | exact Or.inr rfl)) (pgs_cons (pg_name (i := 5) sc_law.nd rfl (by first | exact Or.inl rfl | exact Or.inr rfl)) (pgs_cons (pg_name (i := 6) sc_law.nd rfl (by first | exact Or.inl rfl | exact Or.inr rfl)) pgs_nil))))) (ess_one (es_if (et_not (et_val (ee_call spA_P DefOk.nil ((fs_law_asked T).P.mono (Nat.le_refl _)) (hr.mono (by decide)) (takes_of rfl rfl rfl rfl) (by rfl) T.m_law_asked (ea_cons (ee_var 3 rfl (pv 3)) (ea_cons (ee_var 4 rfl (pv 4)) (ea_cons (ee_var 5 rfl (pv 5)) (ea_cons (ee_op op_addA (s2_addA false) (ee_op op_mulA (s2_mulA false) (ee_var 6 rfl (pv 6)) (ee_int rfl)) (ee_int rfl)) (ea_nil rfl)))))))) (ess_one (es_ret (ee_bl rfl))) (ess_nil rfl)))) (ess_one (es_ret (ee_bl rfl)))))))
end
theorem all_mk {l : PySem.W.OpenLaw} {w : World} {K : PySem.W.Frag} {h : Heap} {mg : Str → Option Value} {fa : Addr} {a_watcher a_law_cell a_law_stream a_law_names a_law_whole a_law_duty a_law_count a_law_opens a_law_turns a_law_moves a_law_asked a_law cc_watcher : Addr} {fo_watcher fkV_watcher fdc_watcher fpm_watcher fct_watcher : Value} {fod_watcher fan_watcher : Option Addr} {fsl_watcher : Array (Option Value)} {fo_law_cell fkV_law_cell fdc_law_cell fpm_law_cell fcd_law_cell fct_law_cell : Value} {fod_law_cell fan_law_cell : Option Addr} {fsl_law_cell : Array (Option Value)} {fo_law_stream fkV_law_stream fdc_law_stream fpm_law_stream fcd_law_stream fct_law_stream : Value} {fod_law_stream fan_law_stream : Option Addr} {fsl_law_stream : Array (Option Value)} {fo_law_names fkV_law_names fdc_law_names fpm_law_names fcd_law_names fct_law_names : Value} {fod_law_names fan_law_names : Option Addr} {fsl_law_names : Array (Option Value)} {fo_law_whole fkV_law_whole fdc_law_whole fpm_law_whole fcd_law_whole fct_law_whole : Value} {fod_law_whole fan_law_whole : Option Addr} {fsl_law_whole : Array (Option Value)} {fo_law_duty fkV_law_duty fdc_law_duty fpm_law_duty fcd_law_duty fct_law_duty : Value} {fod_law_duty fan_law_duty : Option Addr} {fsl_law_duty : Array (Option Value)} {fo_law_count fkV_law_count fdc_law_count fpm_law_count fcd_law_count fct_law_count : Value} {fod_law_count fan_law_count : Option Addr} {fsl_law_count : Array (Option Value)} {fo_law_opens fkV_law_opens fdc_law_opens fpm_law_opens fcd_law_opens fct_law_opens : Value} {fod_law_opens fan_law_opens : Option Addr} {fsl_law_opens : Array (Option Value)} {fo_law_turns fkV_law_turns fdc_law_turns fpm_law_turns fcd_law_turns fct_law_turns : Value} {fod_law_turns fan_law_turns : Option Addr} {fsl_law_turns : Array (Option Value)} {fo_law_moves fkV_law_moves fdc_law_moves fpm_law_moves fcd_law_moves fct_law_moves : Value} {fod_law_moves fan_law_moves : Option Addr} {fsl_law_moves : Array (Option Value)} {fo_law_asked fkV_law_asked fdc_law_asked fpm_law_asked fcd_law_asked fct_law_asked : Value} {fod_law_asked fan_law_asked : Option Addr} {fsl_law_asked : Array (Option Value)} {fo_law fkV_law fdc_law fpm_law fcd_law fct_law : Value} {fod_law fan_law : Option Addr} {fsl_law : Array (Option Value)} (hgood : ∀ ns : List Int, ns.length ≤ 63 → F_law [.fls (ns.map .int)] = some (.ok (.bl true))) (X : K.In h) (G : h.Ns mainGlobals mg) (hfa : mg "law" = some (.ref fa))
    (f_watcher : PySem.W.nsIn K mainGlobals "watcher" = some (some (.ref a_watcher)))
    (l_watcher : K.lookup a_watcher = some ⟨fo_watcher, fod_watcher, .func (PySem.W.fnOf "watcher" "watcher" (defArgs s_watcher) (defBody s_watcher) (defScope s_watcher) .none fkV_watcher fdc_watcher fpm_watcher fan_watcher (.ref cc_watcher) fct_watcher), fsl_watcher⟩)
    (k_watcher : PySem.W.codeIn K (.ref cc_watcher) "watcher" = true)
    (p_watcher : PySem.W.keepIn K (.ref a_watcher) = true)
    (f_law_cell : PySem.W.nsIn K mainGlobals "_law_cell" = some (some (.ref a_law_cell)))
    (l_law_cell : K.lookup a_law_cell = some ⟨fo_law_cell, fod_law_cell, .func (PySem.W.fnOf "_law_cell" "_law_cell" (defArgs s_law_cell) (defBody s_law_cell) (defScope s_law_cell) .none fkV_law_cell fdc_law_cell fpm_law_cell fan_law_cell fcd_law_cell fct_law_cell), fsl_law_cell⟩)
    (k_law_cell : PySem.W.codeIn K fcd_law_cell "_law_cell" = true)
    (p_law_cell : PySem.W.keepIn K (.ref a_law_cell) = true)
    (f_law_stream : PySem.W.nsIn K mainGlobals "_law_stream" = some (some (.ref a_law_stream)))
    (l_law_stream : K.lookup a_law_stream = some ⟨fo_law_stream, fod_law_stream, .func (PySem.W.fnOf "_law_stream" "_law_stream" (defArgs s_law_stream) (defBody s_law_stream) (defScope s_law_stream) .none fkV_law_stream fdc_law_stream fpm_law_stream fan_law_stream fcd_law_stream fct_law_stream), fsl_law_stream⟩)
    (k_law_stream : PySem.W.codeIn K fcd_law_stream "_law_stream" = true)
    (p_law_stream : PySem.W.keepIn K (.ref a_law_stream) = true)
    (f_law_names : PySem.W.nsIn K mainGlobals "_law_names" = some (some (.ref a_law_names)))
    (l_law_names : K.lookup a_law_names = some ⟨fo_law_names, fod_law_names, .func (PySem.W.fnOf "_law_names" "_law_names" (defArgs s_law_names) (defBody s_law_names) (defScope s_law_names) .none fkV_law_names fdc_law_names fpm_law_names fan_law_names fcd_law_names fct_law_names), fsl_law_names⟩)
    (k_law_names : PySem.W.codeIn K fcd_law_names "_law_names" = true)
    (p_law_names : PySem.W.keepIn K (.ref a_law_names) = true)
    (f_law_whole : PySem.W.nsIn K mainGlobals "_law_whole" = some (some (.ref a_law_whole)))
    (l_law_whole : K.lookup a_law_whole = some ⟨fo_law_whole, fod_law_whole, .func (PySem.W.fnOf "_law_whole" "_law_whole" (defArgs s_law_whole) (defBody s_law_whole) (defScope s_law_whole) .none fkV_law_whole fdc_law_whole fpm_law_whole fan_law_whole fcd_law_whole fct_law_whole), fsl_law_whole⟩)
    (k_law_whole : PySem.W.codeIn K fcd_law_whole "_law_whole" = true)
    (p_law_whole : PySem.W.keepIn K (.ref a_law_whole) = true)
    (f_law_duty : PySem.W.nsIn K mainGlobals "_law_duty" = some (some (.ref a_law_duty)))
    (l_law_duty : K.lookup a_law_duty = some ⟨fo_law_duty, fod_law_duty, .func (PySem.W.fnOf "_law_duty" "_law_duty" (defArgs s_law_duty) (defBody s_law_duty) (defScope s_law_duty) .none fkV_law_duty fdc_law_duty fpm_law_duty fan_law_duty fcd_law_duty fct_law_duty), fsl_law_duty⟩)
    (k_law_duty : PySem.W.codeIn K fcd_law_duty "_law_duty" = true)
    (p_law_duty : PySem.W.keepIn K (.ref a_law_duty) = true)
    (f_law_count : PySem.W.nsIn K mainGlobals "_law_count" = some (some (.ref a_law_count)))
    (l_law_count : K.lookup a_law_count = some ⟨fo_law_count, fod_law_count, .func (PySem.W.fnOf "_law_count" "_law_count" (defArgs s_law_count) (defBody s_law_count) (defScope s_law_count) .none fkV_law_count fdc_law_count fpm_law_count fan_law_count fcd_law_count fct_law_count), fsl_law_count⟩)
    (k_law_count : PySem.W.codeIn K fcd_law_count "_law_count" = true)
    (p_law_count : PySem.W.keepIn K (.ref a_law_count) = true)
    (f_law_opens : PySem.W.nsIn K mainGlobals "_law_opens" = some (some (.ref a_law_opens)))
    (l_law_opens : K.lookup a_law_opens = some ⟨fo_law_opens, fod_law_opens, .func (PySem.W.fnOf "_law_opens" "_law_opens" (defArgs s_law_opens) (defBody s_law_opens) (defScope s_law_opens) .none fkV_law_opens fdc_law_opens fpm_law_opens fan_law_opens fcd_law_opens fct_law_opens), fsl_law_opens⟩)
    (k_law_opens : PySem.W.codeIn K fcd_law_opens "_law_opens" = true)
    (p_law_opens : PySem.W.keepIn K (.ref a_law_opens) = true)
    (f_law_turns : PySem.W.nsIn K mainGlobals "_law_turns" = some (some (.ref a_law_turns)))
    (l_law_turns : K.lookup a_law_turns = some ⟨fo_law_turns, fod_law_turns, .func (PySem.W.fnOf "_law_turns" "_law_turns" (defArgs s_law_turns) (defBody s_law_turns) (defScope s_law_turns) .none fkV_law_turns fdc_law_turns fpm_law_turns fan_law_turns fcd_law_turns fct_law_turns), fsl_law_turns⟩)
    (k_law_turns : PySem.W.codeIn K fcd_law_turns "_law_turns" = true)
    (p_law_turns : PySem.W.keepIn K (.ref a_law_turns) = true)
    (f_law_moves : PySem.W.nsIn K mainGlobals "_law_moves" = some (some (.ref a_law_moves)))
    (l_law_moves : K.lookup a_law_moves = some ⟨fo_law_moves, fod_law_moves, .func (PySem.W.fnOf "_law_moves" "_law_moves" (defArgs s_law_moves) (defBody s_law_moves) (defScope s_law_moves) .none fkV_law_moves fdc_law_moves fpm_law_moves fan_law_moves fcd_law_moves fct_law_moves), fsl_law_moves⟩)
    (k_law_moves : PySem.W.codeIn K fcd_law_moves "_law_moves" = true)
    (p_law_moves : PySem.W.keepIn K (.ref a_law_moves) = true)
    (f_law_asked : PySem.W.nsIn K mainGlobals "_law_asked" = some (some (.ref a_law_asked)))
    (l_law_asked : K.lookup a_law_asked = some ⟨fo_law_asked, fod_law_asked, .func (PySem.W.fnOf "_law_asked" "_law_asked" (defArgs s_law_asked) (defBody s_law_asked) (defScope s_law_asked) .none fkV_law_asked fdc_law_asked fpm_law_asked fan_law_asked fcd_law_asked fct_law_asked), fsl_law_asked⟩)
    (k_law_asked : PySem.W.codeIn K fcd_law_asked "_law_asked" = true)
    (p_law_asked : PySem.W.keepIn K (.ref a_law_asked) = true)
    (f_law : PySem.W.nsIn K mainGlobals "law" = some (some (.ref a_law)))
    (l_law : K.lookup a_law = some ⟨fo_law, fod_law, .func (PySem.W.fnOf "law" "law" (defArgs s_law) (defBody s_law) (defScope s_law) .none fkV_law fdc_law fpm_law fan_law fcd_law fct_law), fsl_law⟩)
    (k_law : PySem.W.codeIn K fcd_law "law" = true)
    (p_law : PySem.W.keepIn K (.ref a_law) = true)
    (b_bool : PySem.W.nsIn K mainGlobals "bool" = some none)
    (b_int : PySem.W.nsIn K mainGlobals "int" = some none)
    (b_isinstance : PySem.W.nsIn K mainGlobals "isinstance" = some none)
    (b_len : PySem.W.nsIn K mainGlobals "len" = some none)
    (b_list : PySem.W.nsIn K mainGlobals "list" = some none)
    (b_max : PySem.W.nsIn K mainGlobals "max" = some none)
    (b_min : PySem.W.nsIn K mainGlobals "min" = some none)
    (b_range : PySem.W.nsIn K mainGlobals "range" = some none)
    (b_reversed : PySem.W.nsIn K mainGlobals "reversed" = some none)
    (b_tuple : PySem.W.nsIn K mainGlobals "tuple" = some none)
    : ∃ fd : FuncData, (∀ (s : Shared) (v : Value), BindsTo s fd ⟨[v], []⟩ [("_law_script", v)]) ∧ ∀ base : Heap, K.In base → base.Ns mainGlobals mg → LamX.TabB base mg cc_watcher pp → FnOk l.prog w K mg base (L2.CX l.prog w) 4 fa fd ["_law_script"] (spLawT K pp) := by
  have e := hfa.symm.trans (PySem.W.mg_of X G f_law)
  cases e
  have D_law_cell := fun_mk (st := s_law_cell) l_law_cell k_law_cell p_law_cell
  have B_law_cell := D_law_cell.binds (ps := ["_law_script", "_law_k"]) fun _ _ _ _ _ _ us hl => match us, hl with | [_, _], _ => rfl
  have D_law_stream := fun_mk (st := s_law_stream) l_law_stream k_law_stream p_law_stream
  have B_law_stream := D_law_stream.binds (ps := ["_law_cell_here", "_law_many"]) fun _ _ _ _ _ _ us hl => match us, hl with | [_, _], _ => rfl
  have D_law_names := fun_mk (st := s_law_names) l_law_names k_law_names p_law_names
  have B_law_names := D_law_names.binds (ps := ["_law_cell_here", "_law_many"]) fun _ _ _ _ _ _ us hl => match us, hl with | [_, _], _ => rfl
  have D_law_whole := fun_mk (st := s_law_whole) l_law_whole k_law_whole p_law_whole
  have B_law_whole := D_law_whole.binds (ps := ["_law_found"]) fun _ _ _ _ _ _ us hl => match us, hl with | [_], _ => rfl
  have D_law_duty := fun_mk (st := s_law_duty) l_law_duty k_law_duty p_law_duty
  have B_law_duty := D_law_duty.binds (ps := ["_law_cell_here", "_law_names_here"]) fun _ _ _ _ _ _ us hl => match us, hl with | [_, _], _ => rfl
  have D_law_count := fun_mk (st := s_law_count) l_law_count k_law_count p_law_count
  have B_law_count := D_law_count.binds (ps := ["_law_duty_here", "_law_left", "_law_who", "_law_act", "_law_free"]) fun _ _ _ _ _ _ us hl => match us, hl with | [_, _, _, _, _], _ => rfl
  have D_law_opens := fun_mk (st := s_law_opens) l_law_opens k_law_opens p_law_opens
  have B_law_opens := D_law_opens.binds (ps := ["_law_duty_here", "_law_left", "_law_was", "_law_now"]) fun _ _ _ _ _ _ us hl => match us, hl with | [_, _, _, _], _ => rfl
  have D_law_turns := fun_mk (st := s_law_turns) l_law_turns k_law_turns p_law_turns
  have B_law_turns := D_law_turns.binds (ps := ["_law_count_here", "_law_duty_here", "_law_names_here", "_law_cell_here"]) fun _ _ _ _ _ _ us hl => match us, hl with | [_, _, _, _], _ => rfl
  have D_law_moves := fun_mk (st := s_law_moves) l_law_moves k_law_moves p_law_moves
  have B_law_moves := D_law_moves.binds (ps := ["_law_opens_here", "_law_duty_here", "_law_names_here", "_law_cell_here"]) fun _ _ _ _ _ _ us hl => match us, hl with | [_, _, _, _], _ => rfl
  have D_law_asked := fun_mk (st := s_law_asked) l_law_asked k_law_asked p_law_asked
  have B_law_asked := D_law_asked.binds (ps := ["_law_made", "_law_duty_here", "_law_names_here", "_law_cell_here"]) fun _ _ _ _ _ _ us hl => match us, hl with | [_, _, _, _], _ => rfl
  have D_law := fun_mk (st := s_law) l_law k_law p_law
  have B_law := D_law.binds (ps := ["_law_script"]) fun _ _ _ _ _ _ us hl => match us, hl with | [_], _ => rfl
  have T : ∀ base : Heap, LamX.TabB base mg cc_watcher pp → Txt (⟨K, [], [], by decide +kernel, [nfs_0, nfs_1], pp, fun l _ => if l = 8 then ("watcher.<locals>.count" : Str) else ("watcher.<locals>.opens" : Str)⟩ : Kx) mg base a_watcher a_law_cell a_law_stream a_law_names a_law_whole a_law_duty a_law_count a_law_opens a_law_turns a_law_moves a_law_asked fa cc_watcher := fun base TB => {
    tb := TB
    nf0 := rfl
    tn0 := rfl
    nf1 := rfl
    tn1 := rfl
    d_watcher := ⟨⟨_, _, _, _, _, _, _, _, l_watcher, k_watcher, .all fun us hl => match us, hl with | [_], _ => rfl⟩, p_watcher⟩
    m_watcher := PySem.W.mg_of X G f_watcher
    d_law_cell := ⟨_, D_law_cell, B_law_cell⟩
    m_law_cell := PySem.W.mg_of X G f_law_cell
    d_law_stream := ⟨_, D_law_stream, B_law_stream⟩
    m_law_stream := PySem.W.mg_of X G f_law_stream
    d_law_names := ⟨_, D_law_names, B_law_names⟩
    m_law_names := PySem.W.mg_of X G f_law_names
    d_law_whole := ⟨_, D_law_whole, B_law_whole⟩
    m_law_whole := PySem.W.mg_of X G f_law_whole
    d_law_duty := ⟨_, D_law_duty, B_law_duty⟩
    m_law_duty := PySem.W.mg_of X G f_law_duty
    d_law_count := ⟨_, D_law_count, B_law_count⟩
    m_law_count := PySem.W.mg_of X G f_law_count
    d_law_opens := ⟨_, D_law_opens, B_law_opens⟩
    m_law_opens := PySem.W.mg_of X G f_law_opens
    d_law_turns := ⟨_, D_law_turns, B_law_turns⟩
    m_law_turns := PySem.W.mg_of X G f_law_turns
    d_law_moves := ⟨_, D_law_moves, B_law_moves⟩
    m_law_moves := PySem.W.mg_of X G f_law_moves
    d_law_asked := ⟨_, D_law_asked, B_law_asked⟩
    m_law_asked := PySem.W.mg_of X G f_law_asked
    d_law := ⟨_, D_law, B_law⟩
    m_law := PySem.W.mg_of X G f_law
    b_bool := PySem.W.mg_none_of X G b_bool
    b_int := PySem.W.mg_none_of X G b_int
    b_isinstance := PySem.W.mg_none_of X G b_isinstance
    b_len := PySem.W.mg_none_of X G b_len
    b_list := PySem.W.mg_none_of X G b_list
    b_max := PySem.W.mg_none_of X G b_max
    b_min := PySem.W.mg_none_of X G b_min
    b_range := PySem.W.mg_none_of X G b_range
    b_reversed := PySem.W.mg_none_of X G b_reversed
    b_tuple := PySem.W.mg_none_of X G b_tuple
    q_bool := tyq (by decide +kernel)
    q_int := tyq (by decide +kernel)
    q_tuple := tyq (by decide +kernel)
  }
  refine ⟨PySem.W.fnOf "law" "law" (defArgs s_law) (defBody s_law) (defScope s_law) .none fkV_law fdc_law fpm_law fan_law fcd_law fct_law, fun s v => .of_eq rfl, fun base _ _ TB => ?_⟩
  have T := T base TB
  have F := fn_full (c := (⟨K, [], [], by decide +kernel, [nfs_0, nfs_1], pp, fun l _ => if l = 8 then ("watcher.<locals>.count" : Str) else ("watcher.<locals>.opens" : Str)⟩ : Kx)) (P := l.prog) (w := w) (mg := mg) (base := base) D_law sc_law (by decide) (k := 3) fun cdv A outer s H E hr => (ess_cons (es_asg (ee_lst (own := true) (ea_nil rfl)) (eg_name (pg_name (i := 1) sc_law.nd rfl (by first | exact Or.inl rfl | exact Or.inr rfl)))) (ess_cons (es_for (passes_of rfl) rfl (ei_range1 (by rfl) T.b_range (ea_cons (ee_cb (call_max2 rfl) sn_max2 (by rfl) T.b_max (by decide +kernel) (ea_cons (ee_int rfl) (ea_cons (ee_cb (call_min2 rfl) sn_min2 (by rfl) T.b_min (by decide +kernel) (ea_cons (ee_cb call_len sn_len (by rfl) T.b_len (by decide +kernel) (ea_cons (ee_var 0 rfl (pv 0)) (ea_nil rfl))) (ea_cons (ee_int rfl) (ea_nil rfl)))) (ea_nil rfl)))) (ea_nil rfl))) (eg_name (pg_name (i := 2) sc_law.nd rfl (by first | exact Or.inl rfl | exact Or.inr rfl))) (ess_cons (es_asg (ee_call spA_P DefOk.nil ((fs_law_cell T).P.mono (Nat.le_refl _)) (hr.mono (by decide)) (takes_of rfl rfl rfl rfl) (by rfl) T.m_law_cell (ea_cons (ee_var 0 rfl (pv 0)) (ea_cons (ee_var 2 rfl (pv 2)) (ea_nil rfl)))) (eg_name (pg_name (i := 6) sc_law.nd rfl (by first | exact Or.inl rfl | exact Or.inr rfl)))) (ess_cons (es_asg (ee_call spA_P DefOk.nil ((fs_law_names T).P.mono (Nat.le_refl _)) (hr.mono (by decide)) (takes_of rfl rfl rfl rfl) (by rfl) T.m_law_names (ea_cons (ee_ix (ee_call spA_P DefOk.nil ((fs_law_stream T).P.mono (Nat.le_refl _)) (hr.mono (by decide)) (takes_of rfl rfl rfl rfl) (by rfl) T.m_law_stream (ea_cons (ee_var 6 rfl (pv 6)) (ea_cons (ee_int rfl) (ea_nil rfl)))) (ee_int rfl) (fun _ _ => rfl)) (ea_cons (ee_int rfl) (ea_nil rfl)))) (eg_name (pg_name (i := 5) sc_law.nd rfl (by first | exact Or.inl rfl | exact Or.inr rfl)))) (ess_cons (es_asg (ee_call spA_P DefOk.nil ((fs_law_duty T).P.mono (Nat.le_refl _)) (hr.mono (by decide)) (takes_of rfl rfl rfl rfl) (by rfl) T.m_law_duty (ea_cons (ee_var 6 rfl (pv 6)) (ea_cons (ee_var 5 rfl (pv 5)) (ea_nil rfl)))) (eg_name (pg_name (i := 4) sc_law.nd rfl (by first | exact Or.inl rfl | exact Or.inr rfl)))) (ess_cons (es_asg (ee_cty call_list_of (sn_list true) (by rfl) T.b_list (by decide +kernel) (ea_cons (ee_ix (ee_var 4 rfl (pv 4)) (ee_int rfl) (fun _ _ => rfl)) (ea_nil rfl))) (eg_name (pg_name (i := 7) sc_law.nd rfl (by first | exact Or.inl rfl | exact Or.inr rfl)))) (ess_cons (es_asg (ee_call spA_F DefOk.nil ((fs_watcher T).mono (Nat.le_refl _)) (hr.mono (by decide)) (takes_of rfl rfl rfl rfl) (by rfl) T.m_watcher (ea_cons (ee_op op_catO s2_catO (ee_slice (own := false) (ee_var 4 rfl (pv 4)) eo_none (eo_some (ee_int rfl))) (ee_tupO (ea_cons (ee_var 7 rfl (pv 7)) (ea_cons (ee_ix (ee_var 4 rfl (pv 4)) (ee_int rfl) (fun _ _ => rfl)) (ea_nil rfl))))) (ea_nil rfl))) (eg_name (pg_name (i := 3) sc_law.nd rfl (by first | exact Or.inl rfl | exact Or.inr rfl)))) (ess_cons (es_if ((ew_or (et_not (et_val (ee_isi (d2 := .ty "tuple") (.ty "tuple") T.q_tuple ty_only (by rfl) T.b_isinstance (ee_var 3 rfl (pv 3)) (ee_bltn rfl (by rfl) T.b_tuple (by decide +kernel) (v := .ty "tuple") rfl (fun _ => .ty "tuple"))))) (ew_or (et_cmp (op_neA hr.units) (nomark _) s2_neA (ee_cb call_len sn_len (by rfl) T.b_len (by decide +kernel) (ea_cons (ee_var 3 rfl (pv 3)) (ea_nil rfl))) (ee_int rfl)) (ew_or1 (et_cmp (op_neA hr.units) (nomark _) s2_neA (ee_var 7 rfl (pv 7)) (ee_ix (ee_var 4 rfl (pv 4)) (ee_int rfl) (fun _ _ => rfl))))))).et (ess_one (es_ret (ee_bl rfl))) (ess_nil rfl)) (ess_cons (es_expr (ee_bm0 sm_clear PySem.F.plainAttrs_list PySem.F.slot_list_clear PySem.F.type_list_clear mt_clear (ee_var 7 rfl (pv 7)))) (ess_one (es_expr (ee_bm sm_append PySem.F.plainAttrs_list PySem.F.slot_list_append PySem.F.type_list_append mt_append (ee_var 1 rfl (pv 1)) (ea_cons (ee_tup (ea_cons (ee_var 3 rfl (pv 3)) (ea_cons (ee_var 4 rfl (pv 4)) (ea_cons (ee_var 5 rfl (pv 5)) (ea_cons (ee_var 6 rfl (pv 6)) (ea_nil rfl)))))) (ea_nil rfl))))))))))))) (ess_cons (es_for (passes_of rfl) rfl (ei_seq (ee_frz (ee_var 1 rfl (pv 1)))) (eg_tup (is := [3, 4, 5, 6]) rfl rfl (pgs_cons (pg_name (i := 3) sc_law.nd rfl (by first | exact Or.inl rfl | exact Or.inr rfl)) (pgs_cons (pg_name (i := 4) sc_law.nd rfl (by first | exact Or.inl rfl | exact Or.inr rfl)) (pgs_cons (pg_name (i := 5) sc_law.nd rfl (by first | exact Or.inl rfl | exact Or.inr rfl)) (pgs_cons (pg_name (i := 6) sc_law.nd rfl (by first | exact Or.inl rfl | exact Or.inr rfl)) pgs_nil))))) (ess_one (es_if (et_not (et_val (ee_call spA_P DefOk.nil ((fs_law_asked T).P.mono (Nat.le_refl _)) (hr.mono (by decide)) (takes_of rfl rfl rfl rfl) (by rfl) T.m_law_asked (ea_cons (ee_var 3 rfl (pv 3)) (ea_cons (ee_var 4 rfl (pv 4)) (ea_cons (ee_var 5 rfl (pv 5)) (ea_cons (ee_var 6 rfl (pv 6)) (ea_nil rfl)))))))) (ess_one (es_ret (ee_bl rfl))) (ess_nil rfl)))) (ess_cons (es_for (passes_of rfl) rfl (ei_rev (by rfl) T.b_reversed (ea_cons (ee_frz (ee_var 1 rfl (pv 1))) (ea_nil rfl))) (eg_tup (is := [3, 4, 5, 6]) rfl rfl (pgs_cons (pg_name (i := 3) sc_law.nd rfl (by first | exact Or.inl rfl | exact Or.inr rfl)) (pgs_cons (pg_name (i := 4) sc_law.nd rfl (by first | exact Or.inl rfl | exact Or.inr rfl)) (pgs_cons (pg_name (i := 5) sc_law.nd rfl (by first | exact Or.inl rfl | exact Or.inr rfl)) (pgs_cons (pg_name (i := 6) sc_law.nd rfl (by first | exact Or.inl rfl | exact Or.inr rfl)) pgs_nil))))) (ess_one (es_if (et_not (et_val (ee_call spA_P DefOk.nil ((fs_law_asked T).P.mono (Nat.le_refl _)) (hr.mono (by decide)) (takes_of rfl rfl rfl rfl) (by rfl) T.m_law_asked (ea_cons (ee_var 3 rfl (pv 3)) (ea_cons (ee_var 4 rfl (pv 4)) (ea_cons (ee_var 5 rfl (pv 5)) (ea_cons (ee_op op_addA (s2_addA false) (ee_op op_mulA (s2_mulA false) (ee_var 6 rfl (pv 6)) (ee_int rfl)) (ee_int rfl)) (ea_nil rfl)))))))) (ess_one (es_ret (ee_bl rfl))) (ess_nil rfl)))) (ess_one (es_ret (ee_bl rfl)))))))
  exact F.imp fun vs H Q E q => law_spT (c := (⟨K, [], [], by decide +kernel, [nfs_0, nfs_1], pp, fun l _ => if l = 8 then ("watcher.<locals>.count" : Str) else ("watcher.<locals>.opens" : Str)⟩ : Kx)) hgood q
end Walk
open PySem PySem.W PyProof.Rows in
set_option maxRecDepth 100000 in
set_option maxHeartbeats 0 in
theorem Walk.cw_end (hgood : ∀ ns : List Int, ns.length ≤ 63 → Sem.F_law [EV.D.fls (ns.map EV.D.int)] = some (EV.Out.ok (EV.D.bl true))) : PySem.Challenge.rw_pactway_k41_watchers.Holds := by
  w_on; o_law
  refine HandSHeadRun.head_any (r := OpenLaw.row PySem.Challenge.rw_pactway_k41_watchers) (q := HeadK.q) (H := kHook HeadK.K HeadK.as HeadK.as_eq) (ob := HeadK.ob) (loose := HeadK.lo) (kwd := []) HeadK.ob_eq (by kernel_rfl) (fun s => by kernel_rfl) HeadK.run (by rfl) (by rfl) (by rfl) (by rfl) (by first | assumption | decide +kernel) (by decide +kernel) ⟨rfl, rfl, rfl, rfl, rfl, by decide +kernel⟩ ?hw ?hc
  (case hw => w_witness2)
  refine EV.walk_tab (l := PySem.Challenge.rw_pactway_k41_watchers) (K := HeadK.K0) (k := 4) (x := "_law_script") (cc := 20) (pp := 16) rfl rfl ⟨rfl, by decide, by decide⟩ (fun w h Y => EV.in_tail (by rfl) (PySem.W.kIn_of Y)) (fun w h Y => EV.in_head (PySem.W.kIn_of Y)) (fun _ => by rfl) (fun _ => by rfl) ?F
  case F =>
    intro w mg fa h KX G hmg
    k_fill
    refine' Walk.all_mk hgood KX G hmg ?f_watcher ?l_watcher ?k_watcher ?p_watcher ?f_law_cell ?l_law_cell ?k_law_cell ?p_law_cell ?f_law_stream ?l_law_stream ?k_law_stream ?p_law_stream ?f_law_names ?l_law_names ?k_law_names ?p_law_names ?f_law_whole ?l_law_whole ?k_law_whole ?p_law_whole ?f_law_duty ?l_law_duty ?k_law_duty ?p_law_duty ?f_law_count ?l_law_count ?k_law_count ?p_law_count ?f_law_opens ?l_law_opens ?k_law_opens ?p_law_opens ?f_law_turns ?l_law_turns ?k_law_turns ?p_law_turns ?f_law_moves ?l_law_moves ?k_law_moves ?p_law_moves ?f_law_asked ?l_law_asked ?k_law_asked ?p_law_asked ?f_law ?l_law ?k_law ?p_law ?b_bool ?b_int ?b_isinstance ?b_len ?b_list ?b_max ?b_min ?b_range ?b_reversed ?b_tuple
    (case f_watcher => k_is)
    (case l_watcher => k_is)
    (case k_watcher => k_is)
    (case p_watcher => k_is)
    (case f_law_cell => k_is)
    (case l_law_cell => k_is)
    (case k_law_cell => k_is)
    (case p_law_cell => k_is)
    (case f_law_stream => k_is)
    (case l_law_stream => k_is)
    (case k_law_stream => k_is)
    (case p_law_stream => k_is)
    (case f_law_names => k_is)
    (case l_law_names => k_is)
    (case k_law_names => k_is)
    (case p_law_names => k_is)
    (case f_law_whole => k_is)
    (case l_law_whole => k_is)
    (case k_law_whole => k_is)
    (case p_law_whole => k_is)
    (case f_law_duty => k_is)
    (case l_law_duty => k_is)
    (case k_law_duty => k_is)
    (case p_law_duty => k_is)
    (case f_law_count => k_is)
    (case l_law_count => k_is)
    (case k_law_count => k_is)
    (case p_law_count => k_is)
    (case f_law_opens => k_is)
    (case l_law_opens => k_is)
    (case k_law_opens => k_is)
    (case p_law_opens => k_is)
    (case f_law_turns => k_is)
    (case l_law_turns => k_is)
    (case k_law_turns => k_is)
    (case p_law_turns => k_is)
    (case f_law_moves => k_is)
    (case l_law_moves => k_is)
    (case k_law_moves => k_is)
    (case p_law_moves => k_is)
    (case f_law_asked => k_is)
    (case l_law_asked => k_is)
    (case k_law_asked => k_is)
    (case p_law_asked => k_is)
    (case f_law => k_is)
    (case l_law => k_is)
    (case k_law => k_is)
    (case p_law => k_is)
    (case b_bool => k_is)
    (case b_int => k_is)
    (case b_isinstance => k_is)
    (case b_len => k_is)
    (case b_list => k_is)
    (case b_max => k_is)
    (case b_min => k_is)
    (case b_range => k_is)
    (case b_reversed => k_is)
    (case b_tuple => k_is)
namespace Math
open PySem EV Sem
local macro_rules | `(tactic| walk_at "go") => `(tactic| repeat (first
  | with_reducible refine St.run ?_
  | with_reducible refine Se.run ?_
  | (with_reducible refine gd_lft ?_; first 
        | (with_reducible refine gd_ix ?_; first 
        | with_reducible refine rl_ixI (by first | omega | (decide +kernel)) ?_ 
        | with_reducible refine rl_ixI' ?_ ?_ 
        | with_reducible refine rl_ixSk (by with_unfolding_all rfl) ?_ 
        | with_reducible refine rl_ixSs (by first | omega | (decide +kernel)) ?_ 
        | with_reducible refine rl_ixSs' ?_ ?_ 
        | with_reducible refine rl_ixZ (by omega) ?_ 
        | with_reducible refine rl_ixZ' ?_ ?_ 
        | with_reducible refine rl_ixT (by with_unfolding_all rfl) ?_ 
        | with_reducible refine rl_ixL (by with_unfolding_all rfl) ?_ 
        | with_reducible refine rl_ixO (by with_unfolding_all rfl) (by with_unfolding_all rfl) ?_) 
        | (with_reducible refine gd_add ?_; first 
        | with_reducible refine rl_addL (by decide) ?_ 
        | with_reducible refine rl_addS (by first | omega | (decide +kernel)) ?_ 
        | with_reducible refine rl_addS' ?_ ?_ 
        | with_reducible refine rl_addL' ?_ ?_) 
        | (with_reducible refine gd_int ?_; first 
        | with_reducible refine rl_mod (by decide) ?_ 
        | with_reducible refine rl_div (by decide) ?_ 
        | with_reducible refine rl_pow (by decide) ?_ 
        | with_reducible refine rl_mod (by first | omega | (decide +kernel)) ?_ 
        | with_reducible refine rl_div (by first | omega | (decide +kernel)) ?_ 
        | with_reducible refine rl_mod' ?_ ?_ 
        | with_reducible refine rl_div' ?_ ?_) 
        | (with_reducible refine gd_mul ?_; first 
        | with_reducible refine rl_mulI (Or.inr (by decide)) ?_ 
        | with_reducible refine rl_mulI (Or.inl (by decide)) ?_ 
        | with_reducible refine rl_mulI (by first | omega | (decide +kernel)) ?_ 
        | with_reducible refine rl_mulI' ?_ ?_ 
        | with_reducible refine rl_mulS' ?_ ?_) 
        | with_reducible refine rl_newF (by dsimp only [allD, Option.map] <;> exact rfl) ?_ 
        | with_reducible refine rl_append (by with_unfolding_all rfl) (by exact lt_len (by with_unfolding_all rfl)) (by dsimp only [List.set] <;> exact rfl) ?_ 
        | with_reducible refine rl_append' (by with_unfolding_all rfl) (by dsimp only [List.set] <;> exact rfl) ?_ ?_ 
        | with_reducible refine rl_splitR (by assumption) ?_ 
        | with_reducible refine rl_lenS (by first | omega | (decide +kernel)) ?_ 
        | with_reducible refine rl_lenS' ?_ ?_ 
        | with_reducible refine rl_slS (by first | omega | (decide +kernel)) ?_ 
        | with_reducible refine rl_slS' ?_ ?_ 
        | with_reducible refine rl_isi (by with_unfolding_all rfl) ?_ 
        | with_reducible refine rl_clear (by with_unfolding_all rfl) (by dsimp only [List.set] <;> exact rfl) ?_ 
        | with_reducible refine rl_inT ?_ 
        | with_reducible refine rl_inL ?_ 
        | with_reducible refine rl_ninT ?_ 
        | with_reducible refine rl_ninL ?_ 
        | with_reducible refine rl_newKO (by dsimp only [List.length_cons, List.length_nil, Nat.reduceAdd] <;> exact rfl) (by dsimp only [List.cons_append, List.nil_append] <;> exact rfl) ?_ 
        | with_reducible refine rl_dclear (by with_unfolding_all rfl) (by dsimp only [List.set] <;> exact rfl) ?_ 
        | with_reducible refine rl_newO (by dsimp only [List.length_cons, List.length_nil, Nat.reduceAdd] <;> exact rfl) (by dsimp only [List.cons_append, List.nil_append] <;> exact rfl) ?_)
  | (with_reducible refine gd_ite ?_; first 
        | with_reducible refine rb_iteDT rfl ?_ 
        | with_reducible refine rb_iteDnT rfl ?_ 
        | with_reducible refine rb_iteP (by decide) ?_ 
        | with_reducible refine rb_iteN (by decide) ?_)
  | with_reducible refine rb_asgT rfl (by dsimp only [setAll, List.map, List.set] <;> exact rfl) ?_
  | with_reducible refine rb_lstK (by exact Nat.le_of_ble_eq_true (by with_unfolding_all rfl)) ?_
  | with_reducible refine rb_bmK (by with_unfolding_all rfl) ?_
  | with_reducible refine rb_wip (by dsimp only [wipeO, List.set] <;> exact rfl) ?_
  | with_reducible refine rb_fldD (by with_unfolding_all rfl) ?_
  | with_reducible refine rb_fldK (by with_unfolding_all rfl) (by with_unfolding_all rfl) ?_
  | with_reducible refine rb_methK (by with_unfolding_all rfl) (by with_unfolding_all rfl) ?_
  | with_reducible refine rl_sfld (by with_unfolding_all rfl) (by with_unfolding_all rfl) (by dsimp [List.set, fput] <;> exact rfl) ?_
  | with_reducible refine rb_isD (by first | assumption | with_unfolding_all rfl) ?_
  | with_reducible refine rb_ren (by assumption) ?_
  | with_reducible refine rb_ren dct_sw ?_
  | with_reducible refine rb_treesK (by dsimp only [allD, Option.map] <;> exact rfl) ?_
  | with_reducible refine rb_tupK (by exact Nat.le_of_ble_eq_true (by with_unfolding_all rfl)) ?_
  | with_reducible refine rb_rg1 (by first | omega | (decide +kernel)) ?_
  | with_reducible refine rb_rg2 (by first | omega | (decide +kernel)) ?_
  | with_reducible refine rb_gPe (by dsimp only [allD, Option.map] <;> exact rfl) rfl (by assumption) ?_
  | with_reducible refine rb_gO (by dsimp only [allD, Option.map] <;> exact rfl) rfl (by assumption) (by dsimp only [List.length_cons, List.length_nil, Nat.reduceAdd] <;> exact rfl) (by dsimp only [List.cons_append, List.nil_append] <;> exact rfl) ?_))
local macro_rules | `(tactic| walk_at "len") => `(tactic| first
  | omega
  | (decide +kernel)
  | grind [L2.cutS_length, Str.length_append, chr1_len])
local macro_rules | `(tactic| walk_at "ok") => `(tactic| first
  | with_reducible assumption
  | ((with_reducible refine okS_app ?_ ?_) <;> walk_at "ok")
  | ((with_reducible refine okS_cut ?_) <;> walk_at "ok")
  | ((with_reducible refine okS_num ?_) <;> omega)
  | ((with_reducible refine okS_chr ?_) <;> omega)
  | (decide +kernel))
local macro_rules | `(tactic| walk_at "br") => `(tactic| first
  | with_reducible refine rb_iteDn (fun h1 => ?_) fun h1 => ?_
  | with_reducible refine rb_iteD (fun h1 => ?_) fun h1 => ?_
  | with_reducible refine rb_ite (fun h1 => ?_) fun h1 => ?_
  | refine rb_mkK rfl ?_)
local macro_rules | `(tactic| walk_at "known") => `(tactic| repeat' (first | (with_reducible refine rb_iteP rfl ?_; walk_at "go") | (with_reducible refine rb_iteN rfl ?_; walk_at "go")))
def spc : List Nat := (Str.ofString "fgjkqvxz").cps.toList
def abcL : List Nat := (Str.ofString "abcdefghijklmnopqrstuvwxyz").cps.toList
theorem drop_range {n m a : Nat} {l : List Nat} (h : a :: l = (List.range n).drop m) : a = m ∧ m < n ∧ l = (List.range n).drop (m + 1) := by
  have hm : m < n := by
    have := congrArg List.length h
    rw [List.length_drop, List.length_range, List.length_cons] at this
    omega
  rw [List.drop_eq_getElem_cons (by rw [List.length_range]; exact hm)] at h
  obtain ⟨h1, h2⟩ := List.cons.inj h
  exact ⟨by rw [h1]; simp, hm, h2⟩
theorem str_ext {a b : Str} (h : a.cps.toList = b.cps.toList) : a = b := by
  cases a
  cases b
  simp at h
  simp [h]
theorem cut_mid {α : Type} {xs : List α} {a b : Nat} (h : a ≤ b ∧ b ≤ xs.length) : cutW xs (some (a : Int)) (some (b : Int)) = (xs.drop a).take (b - a) := by
  unfold cutW HT.sIx
  simp only
  rw [if_neg (by omega), if_neg (by omega)]
  have e1 : min ((a : Int)).toNat xs.length = a := by omega
  have e2 : min ((b : Int)).toNat xs.length = b := by omega
  rw [e1, e2]
theorem lst_is {st : Store} {n : Nat} {ws : List W} (e : st[n]? = some (some (.lst ws))) : tyIs "list" st (.loc n) = true := by
  unfold tyIs
  simp only [e]
  rfl
theorem cell_ok31 (ns : List Int) (k : Int) (hk : 0 ≤ k ∧ k ≤ 1000) : ∃ c : Int, F_law_cell [.fls (ns.map .int), .int k] = some (.ok (.int c)) ∧ 0 ≤ c ∧ c < 2147483647 := by
  suffices h : ∃ d, F_law_cell [.fls (ns.map .int), .int k] = some (.ok d) ∧ ∃ c : Int, d = .int c ∧ 0 ≤ c ∧ c < 2147483647 by
    obtain ⟨d, h1, c, rfl, h2⟩ := h
    exact ⟨c, h1, h2⟩
  unfold F_law_cell
  refine fp_run [some (.d (.fls (ns.map .int))), some (.d (.int k)), none] rfl ?_
  unfold b_law_cell
  walk_at "go"
  refine rb_join (fun s => ∃ n : Int, s = ⟨[some (.d (.fls (ns.map .int))), some (.d (.int k)), some (.d (.int n))], []⟩) ?_ ?_
  · refine rb_iteD (fun h => ?_) fun h => ?_
    · walk_at "go"
      rw [List.length_map] at h
      refine rl_ixF (d := .int (ns.getD k.toNat 0)) (by rw [atI_map, atI_get (d := 0) ⟨hk.1, by omega⟩]; rfl) ?_
      walk_at "go"
      exact ⟨_, rfl⟩
    · walk_at "go"
      refine rb_iteD (fun h => ?_) fun h => ?_
      · rw [List.length_map] at h
        have h0 : 0 < ((ns.map D.int).length : Int) := by rw [List.length_map]; omega
        walk_at "go"
        have h1 := Int.emod_nonneg (k * 7) (b := ((ns.map D.int).length : Int)) (by omega)
        have h2 := Int.emod_lt_of_pos (k * 7) (b := ((ns.map D.int).length : Int)) h0
        rw [List.length_map] at h1 h2 ⊢
        refine rl_ixF (d := .int (ns.getD (k * 7 % (ns.length : Int)).toNat 0)) (by rw [atI_map, atI_get (d := 0) ⟨h1, h2⟩]; rfl) ?_
        walk_at "go"
        exact ⟨_, rfl⟩
      · walk_at "go"
        exact ⟨_, rfl⟩
  rintro s ⟨n, rfl⟩
  walk_at "go"
  exact ⟨_, rfl, by omega⟩
abbrev nats (xs : List Int) : Prop := ∀ x ∈ xs, 0 ≤ x ∧ x < 429496730
theorem stream_ok (c m : Int) (hm : 0 ≤ m ∧ m < 1000) : ∃ d, F_law_stream [.int c, .int m] = some (.ok d) ∧ ∃ xs : List Int, d = ints' xs ∧ xs.length = m.toNat ∧ nats xs := by
  unfold F_law_stream
  refine fp_run [some (.d (.int c)), some (.d (.int m)), none, none, none] rfl ?_
  unfold b_law_stream
  walk_at "go"
  unfold rngL
  refine rb_loop (f := fun (i : Nat) => D.int (0 + (i : Int))) (fun l s => ∃ (n : Int) (z : Option W) (ws : List W) (xs : List Int), s = ⟨[some (.d (.int c)), some (.d (.int m)), some (.loc 0), some (.d (.int n)), z], [some (.lst ws)]⟩ ∧ ws = iw xs ∧
    0 ≤ n ∧ nats xs ∧ xs.length + l.length = m.toNat ∧ (∀ b ∈ l, b < 1000)) ?_ ?_ _ _ ⟨_, _, _, [], rfl, rfl, by omega, (fun _ h => nomatch h), by simp, (fun b h => by have := List.mem_range.mp h; omega)⟩
  · rintro a l s ⟨n, z, ws, xs, rfl, rfl, hn, hx, hl, hb⟩
    have hl : xs.length + (l.length + 1) = m.toNat := hl
    have ha := hb a List.mem_cons_self
    walk_at "go"
    · refine ⟨_, _, _, _, rfl, iw_snoc, by omega, ?_, by simp; omega, fun b h => hb b (List.mem_cons_of_mem _ h)⟩
      intro x h
      rcases List.mem_append.mp h with h | h
      · exact hx x h
      · rw [List.mem_singleton.mp h]
        omega
    · rw [iw_len]; omega
  · rintro s ⟨n, z, ws, xs, rfl, rfl, hn, hx, hl, hb⟩
    walk_at "go"
    exact rp_lst rfl (allD_iw xs) ⟨xs, rfl, by simpa using hl, hx⟩
def heads31 : List Str := ["any", "part", "done", "let", "may", "end", "not", "else"]
def baseN (cell n : Int) : Int := n - n % 2 * (cell / 6 % 2)
def cdN (cell : Int) (k : Nat) : Nat := abcL.getD ((cell / 7 / (0 + (k : Int) + 1) + (0 + (k : Int)) * (0 + (k : Int))) % 26).toNat 0
def wlN (cell n : Int) : List Nat := (((List.range 8).map (cdN cell)).set (cell % 3).toNat (spc.getD ((baseN cell n * 3 + cell / 17) % 8).toNat 0)).set ((cell % 3 + 1 + cell / 3 % 2) % 3).toNat (abcL.getD ((cell / 11 + baseN cell n / 8) % 26).toNat 0)
def szN (cell n : Int) : Int := if False ∧ 1 < n % 4 then 3 + n - baseN cell n else 3 + cell / (baseN cell n + 13) % 5 + n - baseN cell n
def hdN31 (cell n : Int) : Str := if False ∧ 1 < n % 4 then heads31.getD (cell / 72 % 8).toNat (Str.ofString "") else Str.ofString ""
def nmF (cell n : Int) : Str := hdN31 cell n ++ Txt.join "" (((wlN cell n).map chr1).take (szN cell n).toNat)
theorem base_ok {cell n : Int} (h : 0 ≤ cell) (hn : 0 ≤ n ∧ n < 12) : 0 ≤ baseN cell n ∧ baseN cell n ≤ n ∧ n - baseN cell n ≤ 1 := by
  unfold baseN
  have h1 : n % 2 = 0 ∨ n % 2 = 1 := by omega
  have h2 : cell / 6 % 2 = 0 ∨ cell / 6 % 2 = 1 := by omega
  rcases h1 with h1 | h1 <;> rcases h2 with h2 | h2 <;> rw [h1, h2] <;> omega
theorem wl_st {cell : Int} {i j x y : Nat} : (((List.map W.d (List.map (fun i => D.str (chr1 (cdN cell i))) (List.range 8))).set i (W.d (.str (chr1 x)))).set j (W.d (.str (chr1 y)))) = sw (((((List.range 8).map (cdN cell)).set i x).set j y).map chr1) := by
  unfold sw
  rw [List.map_set, List.map_set, List.map_set, List.map_set, List.map_map, List.map_map, List.map_map]
  rfl
theorem wl_len (cell n : Int) : (wlN cell n).length = 8 := by
  unfold wlN
  simp
theorem sz_ok {cell n : Int} (h : 0 ≤ cell) (hn : 0 ≤ n ∧ n < 12) : 3 ≤ szN cell n ∧ szN cell n ≤ 8 := by
  have hb := base_ok h hn
  unfold szN
  split
  · omega
  · have : 0 ≤ cell / (baseN cell n + 13) := Int.ediv_nonneg h (by omega)
    omega
theorem join1_len (zs : List Nat) : ((zs.map chr1).map fun x => x.length).sum = zs.length := by
  induction zs with
  | nil => rfl
  | cons z r ih =>
    simp only [List.map_cons, List.sum_cons, ih, chr1_len, List.length_cons]
    omega
theorem heads_len : ∀ i < 8, (heads31.getD i (Str.ofString "")).length ≤ 4 := by decide +kernel
theorem hd_len31 (cell n : Int) : (hdN31 cell n).length ≤ 4 := by
  unfold hdN31
  split
  · exact heads_len _ (by omega)
  · decide +kernel
theorem rl_slOF {β : Type} {env : List (Option W)} {st : Store} {k : W → EM β} {Q : Out β → SS → Prop} {n : Nat} {zs : List Str} {lo hi : Option Int} (e : st[n]? = some (some (.lst (sw zs)))) (h : Run (k (.d (strs' (cutW zs lo hi)))) ⟨env, st⟩ Q) : Run (bnd (lft fun st => sliceA false st (.loc n) lo hi) k) ⟨env, st⟩ Q := by
  refine rb_lft ?_ h
  unfold sliceA listW
  simp only [e]
  rw [show cutW (sw zs) lo hi = sw (cutW zs lo hi) from cutW_map]
  unfold newL
  rw [if_neg (by decide), allD_sw]
  rfl
theorem emp_app (z : Str) : Str.ofString "" ++ z = z := by
  have e : (Str.ofString "" ++ z).cps.toList = z.cps.toList := by
    show ((Str.ofString "").cps ++ z.cps).toList = _
    rw [Array.toList_append]
    rfl
  have key : ∀ {a b : Str}, a.cps.toList = b.cps.toList → a = b := fun {a b} h => by
    cases a
    cases b
    simp at h
    simp [h]
  exact key e
theorem names_walk (cell : Int) (hc : 0 ≤ cell) : F_law_names [.int cell, .int 12] = some (.ok (strs' ((List.range 12).map fun a : Nat => nmF cell (0 + (a : Int))))) := by
  unfold F_law_names
  refine fp_eq [some (.d (.int cell)), some (.d (.int 12)), none, none, none, none, none, none, none, none, none] rfl ?_
  unfold b_law_names
  have l26 : (Str.ofString "abcdefghijklmnopqrstuvwxyz").length = 26 := by decide +kernel
  have l8 : (Str.ofString "fgjkqvxz").length = 8 := by decide +kernel
  walk_at "go"
  unfold rngL
  refine rb_loop (f := fun (i : Nat) => D.int (0 + (i : Int))) (fun l s => ∃ (k : Nat) (st : Store) (y6 y7 y8 y9 y10 : Option W), s = ⟨[some (.d (.int cell)), some (.d (.int 12)), some (.d (.str "abcdefghijklmnopqrstuvwxyz")), some (.d (.int (cell % 3))), some (.d (.int ((cell % 3 + 1 + cell / 3 % 2) % 3))), some (.loc 0), y6, y7, y8, y9, y10], st⟩ ∧ l = (List.range (12 : Int).toNat).drop k ∧ k ≤ 12 ∧ st[0]? = some (some (.lst (sw ((List.range k).map fun a : Nat => nmF cell (0 + (a : Int)))))) ∧ 0 < st.length) ?_ ?_ _ _ ⟨0, _, _, _, _, _, _, rfl, rfl, Nat.zero_le _, rfl, by decide⟩
  · rintro a l s ⟨k, st, y6, y7, y8, y9, y10, rfl, el, hk, h0, hlen⟩
    obtain ⟨rfl, ha, el⟩ := drop_range el
    have ha : a < 12 := ha
    have hb := base_ok (n := 0 + (a : Int)) hc (by omega)
    walk_at "go"
    unfold rngL
    refine rb_compMM (f := fun (i : Nat) => D.int (0 + (i : Int))) (fun i => .str (chr1 (cdN cell i))) (by dsimp only [List.set] <;> exact rfl) (by decide) ?_ ?_
    · intro x hx env1 e1
      dsimp only [List.set] at e1
      subst e1
      have hx := List.mem_range.mp hx
      have hx : x < 8 := hx
      walk_at "go"
      rfl
    refine rl_newO rfl rfl ?_
    have hb2 := hb
    unfold baseN at hb2
    walk_at "go"
    refine rl_setL' get_end set_end ?_ ⟨by omega, by simp; omega⟩
    walk_at "go"
    refine rl_setL' get_end set_end ?_ ⟨by omega, by simp; omega⟩
    walk_at "go"
    have hs := sz_ok (n := 0 + (a : Int)) hc (by omega)
    have hh := hd_len31 cell (0 + (a : Int))
    rw [show List.range (Int.toNat 8) = List.range 8 from rfl, wl_st]
    have ehd : ∀ z : Str, hdN31 cell (0 + (a : Int)) ++ z = z := fun z => by
      unfold hdN31
      rw [if_neg fun q => q.1]
      exact emp_app z
    show EV.Run _ ⟨[_, _, _, _, _, _, _, _, _, some (W.d (D.int (szN cell (0 + (a : Int))))), _], st ++ [some (OO.lst (sw ((wlN cell (0 + (a : Int))).map chr1)))]⟩ _
    refine rb_bmK (lst_is (get_old h0)) ?_
    walk_at "go"
    refine rl_slOF get_end ?_
    rw [show szN cell (0 + (a : Int)) = (((szN cell (0 + (a : Int))).toNat : Nat) : Int) from by omega, cut_upto (by rw [List.length_map, wl_len]; omega)]
    walk_at "go"
    rw [← List.map_take]
    have hj := join1_len ((wlN cell (0 + (a : Int))).take (szN cell (0 + (a : Int))).toNat)
    have hj2 : ((wlN cell (0 + (a : Int))).take (szN cell (0 + (a : Int))).toNat).length ≤ 8 := by rw [List.length_take, wl_len]; omega
    refine rl_joinE (by rw [hj]; omega) ?_
    have hj3 := join_len0 ((((wlN cell (0 + (a : Int))).take (szN cell (0 + (a : Int))).toNat)).map chr1)
    walk_at "go"
    refine rl_append (get_old h0) (by rw [sw_len, List.length_map, List.length_range]; omega) rfl ?_
    walk_at "go"
    refine ⟨a + 1, _, _, _, _, _, _, rfl, el, ha, ?_, by simp⟩
    rw [List.getElem?_set_self (by simp), List.range_succ, List.map_append]
    unfold sw
    rw [List.map_append, List.map_take, ← ehd (Txt.join (Str.ofString "") (List.take (szN cell (0 + (a : Int))).toNat (List.map chr1 (wlN cell (0 + (a : Int))))))]
    rfl
  · rintro s ⟨k, st, y6, y7, y8, y9, y10, rfl, el, hk, h0, hlen⟩
    have ek : k = 12 := by
      have := congrArg List.length el
      rw [List.length_drop, List.length_range, List.length_nil] at this
      have : (12 : Int).toNat = 12 := rfl
      omega
    subst ek
    walk_at "go"
    refine rp_lst h0 (allD_sw _) ?_
    rfl
def cntD (l : Int) (who act : Str) (f : Bool) (b d : Str) : D := if l = 0 then .tup [.int 0, .bl false] else if ¬ who = b then .tup [.int l, .bl false] else if act = d ∧ f = true then .tup [.int 0, .bl false] else .tup [.int (l - 1), .bl (decide (l = 1))]
theorem count_ok (l : Int) (who act : Str) (f : Bool) (b d : Str) : F_watcher_count [.int l, .str who, .str act, .bl f, .str b, .str d] = some (.ok (cntD l who act f b d)) := by
  unfold F_watcher_count
  refine fp_eq [some (.d (.int l)), some (.d (.str who)), some (.d (.str act)), some (.d (.bl f)), some (.d (.str b)), some (.d (.str d))] rfl ?_
  unfold b_watcher_count cntD
  walk_at "go"
  refine rb_iteD (fun h => ?_) fun h => ?_
  · walk_at "go"
    rw [if_pos h]
  · walk_at "go"
    refine rb_iteD (fun h1 => ?_) fun h1 => ?_
    · walk_at "go"
      refine rb_iteD (fun h2 => ?_) fun h2 => ?_
      · walk_at "go"
        cases f
        · walk_at "go"
          refine rb_iteDn (fun h3 => absurd h1 h3) fun h3 => ?_
          walk_at "go"
          rw [if_neg h, if_neg (fun z => z h1), if_neg (fun z => Bool.noConfusion z.2)]
        · walk_at "go"
          rw [if_neg h, if_neg (fun z => z h1), if_pos ⟨h2, rfl⟩]
      · walk_at "go"
        refine rb_iteDn (fun h3 => absurd h1 h3) fun h3 => ?_
        walk_at "go"
        rw [if_neg h, if_neg (fun z => z h1), if_neg (fun z => h2 z.1)]
    · walk_at "go"
      refine rb_iteDn (fun h3 => ?_) fun h3 => absurd h3 h1
      walk_at "go"
      rw [if_neg h, if_pos h1]
def dutyD (a b d e : Str) (n m : Int) (rs : List Str) : D := .tup [.str a, .str "must", .str b, .str d, .int n, .str e, strs' rs, .int m]
theorem lcount_ok (l : Int) (who act : Str) (f : Bool) (a b d e : Str) (n m : Int) (rs : List Str) : F_law_count [dutyD a b d e n m rs, .int l, .str who, .str act, .bl f] = some (.ok (cntD l who act f b d)) := by
  unfold F_law_count
  refine fp_eq [some (.d (dutyD a b d e n m rs)), some (.d (.int l)), some (.d (.str who)), some (.d (.str act)), some (.d (.bl f))] rfl ?_
  unfold b_law_count cntD dutyD
  walk_at "go"
  refine rb_iteD (fun h => ?_) fun h => ?_
  · walk_at "go"
    rw [if_pos h]
  · walk_at "go"
    refine rb_iteDn (fun h1 => ?_) fun h1 => ?_
    · walk_at "go"
      rw [if_neg h, if_pos h1]
    · walk_at "go"
      refine rb_iteD (fun h2 => ?_) fun h2 => ?_
      · walk_at "go"
        cases f
        · walk_at "go"
          rw [if_neg h, if_neg (fun z => z h1), if_neg (fun z => Bool.noConfusion z.2)]
        · walk_at "go"
          rw [if_neg h, if_neg (fun z => z h1), if_pos ⟨h2, rfl⟩]
      · walk_at "go"
        rw [if_neg h, if_neg (fun z => z h1), if_neg (fun z => h2 z.1)]
theorem any_non : ∀ rs : List Str, (rs.map D.str).any (fun e => D.eq e .non) = false
  | [] => rfl
  | r :: rs => by
    rw [List.map_cons, List.any_cons, any_non rs]
    rfl
theorem non_in (st : Store) (rs : List Str) : inB st (.d .non) (.d (strs' rs)) = some false := by
  unfold inB strs'
  simp only [snap_d, seqD, flat_strs, flatD, Bool.and_self, if_true, any_non]
def optD : Option Str → D
  | some z => .str z
  | none => .non
def opnD (l : Int) (was : Option Str) (now : Str) (n : Int) (rs : List Str) : D := if l = 0 ∧ now ∈ rs ∧ ∀ z, was = some z → ¬ z ∈ rs then .int n else .int l
theorem opens_ok (l : Int) (was : Option Str) (now : Str) (n : Int) (rs : List Str) : F_watcher_opens [.int l, optD was, .str now, .int n, strs' rs] = some (.ok (opnD l was now n rs)) := by
  unfold F_watcher_opens
  refine fp_eq [some (.d (.int l)), some (.d (optD was)), some (.d (.str now)), some (.d (.int n)), some (.d (strs' rs))] rfl ?_
  unfold b_watcher_opens opnD
  walk_at "go"
  refine rb_iteD (fun h => ?_) fun h => ?_
  · walk_at "go"
    refine rb_iteD (fun h1 => ?_) fun h1 => ?_
    · walk_at "go"
      cases was with
      | none =>
        dsimp only [optD]
        refine rl_nin (non_in _ _) ?_
        walk_at "go"
        rw [if_pos ⟨h, h1, fun y e => by cases e⟩]
      | some z =>
        unfold optD
        walk_at "go"
        refine rb_iteDn (fun h2 => ?_) fun h2 => ?_
        · walk_at "go"
          rw [if_pos ⟨h, h1, fun y e => by cases e; exact h2⟩]
        · walk_at "go"
          rw [if_neg fun q => q.2.2 z rfl h2]
    · walk_at "go"
      rw [if_neg fun q => h1 q.2.1]
  · walk_at "go"
    rw [if_neg (fun z => h z.1)]
theorem lopens_ok (l : Int) (was : Option Str) (now : Str) (a b d e : Str) (n m : Int) (rs : List Str) : F_law_opens [dutyD a b d e n m rs, .int l, optD was, .str now] = some (.ok (opnD l was now n rs)) := by
  unfold F_law_opens
  refine fp_eq [some (.d (dutyD a b d e n m rs)), some (.d (.int l)), some (.d (optD was)), some (.d (.str now))] rfl ?_
  unfold b_law_opens opnD dutyD
  walk_at "go"
  refine rb_iteD (fun h => ?_) fun h => ?_
  · walk_at "go"
    refine rb_iteD (fun h1 => ?_) fun h1 => ?_
    · walk_at "go"
      cases was with
      | none =>
        dsimp only [optD]
        refine rl_nin (non_in _ _) ?_
        walk_at "go"
        rw [if_pos ⟨h, h1, fun y e => by cases e⟩]
      | some z =>
        unfold optD
        walk_at "go"
        refine rb_iteDn (fun h2 => ?_) fun h2 => ?_
        · walk_at "go"
          rw [if_pos ⟨h, h1, fun y e => by cases e; exact h2⟩]
        · walk_at "go"
          rw [if_neg fun q => q.2.2 z rfl h2]
    · walk_at "go"
      rw [if_neg fun q => h1 q.2.1]
  · walk_at "go"
    rw [if_neg (fun z => h z.1)]
section
variable {β : Type} {s : SS} {Q : Out β → SS → Prop} {tbl : List (Nat × Nat × FP)} {mf : EM W} {ma : EM (List W)} {k : W → EM β} {i np : Nat} {F : FP} {es ds : List D} {d : D}
theorem rb_callC (h : EV.Run (bnd mf fun f => bnd (cloI f) fun p => bnd ma fun ws => bnd (cloG tbl p.1 p.2 ws) k) s Q) : EV.Run (bnd (callC tbl mf ma) k) s Q := by
  have e : bnd (callC tbl mf ma) k = bnd mf fun f => bnd (cloI f) fun p => bnd ma fun ws => bnd (cloG tbl p.1 p.2 ws) k := by
    unfold callC
    simp only [bnd_assoc]
  rw [e]
  exact h
theorem rb_cloI {k : Nat × List D → EM β} (h : EV.Run (k (i, es)) s Q) : EV.Run (bnd (cloI (.d (.clo i es))) k) s Q := h
theorem rb_cloG {ws : List W} (ds : List D) (d : D) (ew : ws = ds.map .d) (e : tbl.lookup i = some (np, F)) (hl : ds.length = np ∧ noclos es = true ∧ noclos ds = true) (eF : F (ds ++ es) = some (.ok d)) (h : EV.Run (k (.d d)) s Q) : EV.Run (bnd (cloG tbl i es ws) k) s Q := by
  subst ew
  have e2 : cloG tbl i es (ds.map .d) = pur (.d d) := by
    unfold cloG
    rw [e, allD_map]
    simp only [hl, and_self, if_true, eF]
  rw [e2]
  exact h
end
theorem whole_int (i : Int) : F_law_whole [.int i] = some (.ok (.bl true)) := by
  unfold F_law_whole
  refine fp_eq [some (.d (.int i))] rfl ?_
  unfold b_law_whole
  walk_at "go"
  rfl
theorem cnt_form (l : Int) (who act : Str) (f : Bool) (b d : Str) : ∃ (i : Int) (t : Bool), cntD l who act f b d = .tup [.int i, .bl t] := by
  unfold cntD
  split
  · exact ⟨_, _, rfl⟩
  · split
    · exact ⟨_, _, rfl⟩
    · split <;> exact ⟨_, _, rfl⟩
theorem nat_at {xs : List Int} (h : nats xs) {i : Nat} (hi : i < xs.length) : 0 ≤ xs.getD i 0 ∧ xs.getD i 0 < 429496730 := by
  rw [List.getD_eq_getElem?_getD, List.getElem?_eq_getElem hi]
  exact h _ (List.getElem_mem hi)
theorem three_at (x y z : Str) {j : Int} (h : 0 ≤ j ∧ j < 3) : ∃ v : Str, L2.atI [D.str x, D.str y, D.str z] j = some (D.str v) := by
  have : j = 0 ∨ j = 1 ∨ j = 2 := by omega
  rcases this with rfl | rfl | rfl <;> exact ⟨_, rfl⟩
theorem turns_ok {a b d e : Str} {n m : Int} {rs ns : List Str} (hn : ns.length = 12) (h0 : 1 ≤ n) (c : Int) : F_law_turns [.clo 0 [.str b, .str d], dutyD a b d e n m rs, strs' ns, .int c] = some (.ok (.bl true)) := by
  unfold F_law_turns
  refine fp_eq [some (.d (.clo 0 [.str b, .str d])), some (.d (dutyD a b d e n m rs)), some (.d (strs' ns)), some (.d (.int c)), none, none, none, none, none, none, none, none] rfl ?_
  unfold b_law_turns dutyD
  obtain ⟨_, ex, xs, rfl, lx, hx⟩ := stream_ok c 2 (by decide)
  have x0 : 0 ≤ xs.getD (Int.toNat 0) 0 ∧ xs.getD (Int.toNat 0) 0 < 429496730 := nat_at hx (by rw [lx]; decide)
  have x1 : 0 ≤ xs.getD (Int.toNat 1) 0 ∧ xs.getD (Int.toNat 1) 0 < 429496730 := nat_at hx (by rw [lx]; decide)
  have hlc := lcount_ok (a := a) (b := b) (d := d) (e := e) (n := n) (m := m) (rs := rs)
  unfold dutyD at hlc
  walk_at "go"
  unfold rngL
  generalize (xs.getD (Int.toNat 1) 0 * xs.getD (Int.toNat 1) 0 * xs.getD (Int.toNat 1) 0 + xs.getD (Int.toNat 0) 0) % (n + 1) = w
  show EV.Run _ ⟨[_, _, _, _, _, some (.d (ints' [0, 1, n, w])), _, _, _, _, _, _], _⟩ _
  refine rb_loop (f := fun (i : Nat) => D.int (0 + (i : Int))) (fun l s => (∀ i ∈ l, i < 24) ∧ ∃ y6 y7 y8 y9 y10 y11 : Option W, s = ⟨[some (.d (.clo 0 [.str b, .str d])), some (.d (.tup [.str a, .str "must", .str b, .str d, .int n, .str e, strs' rs, .int m])), some (.d (strs' ns)), some (.d (.int c)), some (.d (ints' xs)), some (.d (ints' [0, 1, n, w])), y6, y7, y8, y9, y10, y11], []⟩) ?_ ?_ _ _ ⟨fun i h => List.mem_range.mp h, _, _, _, _, _, _, rfl⟩
  · rintro i l s ⟨hi, y6, y7, y8, y9, y10, y11, rfl⟩
    have hi0 := hi i List.mem_cons_self
    walk_at "go"
    rotate_left
    · show _ ∧ _ < (4 : Int)
      omega
    obtain ⟨act, hact⟩ := three_at d (ns.getD (Int.toNat 10) (Str.ofString "")) "rest" (j := (xs.getD (Int.toNat 0) 0 + 5 * (0 + (i : Int))) % 48 / 8 % 3) (by omega)
    refine rl_ixL hact ?_
    walk_at "go"
    refine rb_callC ?_
    walk_at "go"
    refine rb_cloI ?_
    walk_at "go"
    generalize [0, 1, n, w].getD _ 0 = lf
    generalize ns.getD _ (Str.ofString "") = who
    obtain ⟨fr, hfr⟩ : ∃ fr : Bool, decide ((xs.getD (Int.toNat 0) 0 + 5 * (0 + (i : Int))) % 48 / 24 = 0) = fr := ⟨_, rfl⟩
    rw [hfr]
    refine rb_cloG [.int lf, .str who, .str act, .bl fr] (cntD lf who act fr b d) rfl rfl ⟨rfl, rfl, rfl⟩ (count_ok lf who act fr b d) ?_
    obtain ⟨i1, t1, ef⟩ := cnt_form lf who act fr b d
    have hl := hlc lf who act fr
    have hw := whole_int i1
    rw [ef] at hl ⊢
    walk_at "go"
    rw [hfr]
    refine rb_gPe rfl rfl hl ?_
    walk_at "go"
    refine rl_neL (n := 3) (okN_tup (okNs_all fun z hz => ?_)) (by decide) ?_
    · rcases List.mem_cons.mp hz with e | hz
      · subst e; exact okN_int
      · rw [List.mem_singleton.mp hz]; exact okN_bl
    walk_at "go"
    exact ⟨fun j hj => hi j (List.mem_cons_of_mem _ hj), _, _, _, _, _, _, rfl⟩
  · rintro s ⟨_, y6, y7, y8, y9, y10, y11, rfl⟩
    walk_at "go"
    rfl
theorem cut48 {ns : List Str} (hn : ns.length = 12) : (cutW ns (some 4) (some 8)).length = 4 := by
  have e : cutW ns (some ((4 : Nat) : Int)) (some ((8 : Nat) : Int)) = (ns.drop 4).take (8 - 4) := cut_mid (by omega)
  have e2 : cutW ns (some 4) (some 8) = (ns.drop 4).take (8 - 4) := e
  rw [e2, List.length_take, List.length_drop, hn]
  decide
theorem opt_at {R : List Str} (hR : R.length = 4) {j : Int} (h : 0 ≤ j ∧ j < 5) : ∃ was, L2.atI (R.map D.str ++ [D.non]) j = some (optD was) := by
  match R, hR with
  | [x, y, z, v], _ =>
    have : j = 0 ∨ j = 1 ∨ j = 2 ∨ j = 3 ∨ j = 4 := by omega
    rcases this with rfl | rfl | rfl | rfl | rfl
    · exact ⟨some x, rfl⟩
    · exact ⟨some y, rfl⟩
    · exact ⟨some z, rfl⟩
    · exact ⟨some v, rfl⟩
    · exact ⟨none, rfl⟩
theorem noclo_strs : ∀ rs : List Str, noclos (rs.map D.str) = true
  | [] => rfl
  | r :: rs => by
    show (noclo (.str r) && noclos (rs.map D.str)) = true
    rw [noclo_strs rs]
    rfl
theorem noclo_opens (n : Int) (rs : List Str) : noclos [.int n, strs' rs] = true := by
  show (noclo (.int n) && (noclos (rs.map D.str) && true)) = true
  rw [noclo_strs rs]
  rfl
theorem opn_form (l : Int) (was : Option Str) (now : Str) (n : Int) (rs : List Str) : ∃ i : Int, opnD l was now n rs = .int i := by
  unfold opnD
  split <;> exact ⟨_, rfl⟩
theorem moves_ok {a b d e : Str} {n m : Int} {rs ns : List Str} (hn : ns.length = 12) (h0 : 1 ≤ n) (c : Int) : F_law_moves [.clo 1 [.int n, strs' rs], dutyD a b d e n m rs, strs' ns, .int c] = some (.ok (.bl true)) := by
  unfold F_law_moves
  refine fp_eq [some (.d (.clo 1 [.int n, strs' rs])), some (.d (dutyD a b d e n m rs)), some (.d (strs' ns)), some (.d (.int c)), none, none, none, none, none, none, none, none, none] rfl ?_
  unfold b_law_moves dutyD
  obtain ⟨_, ex, xs, rfl, lx, hx⟩ := stream_ok c 3 (by decide)
  have x0 : 0 ≤ xs.getD (Int.toNat 0) 0 ∧ xs.getD (Int.toNat 0) 0 < 429496730 := nat_at hx (by rw [lx]; decide)
  have x1 : 0 ≤ xs.getD (Int.toNat 1) 0 ∧ xs.getD (Int.toNat 1) 0 < 429496730 := nat_at hx (by rw [lx]; decide)
  have x2 : 0 ≤ xs.getD (Int.toNat 2) 0 ∧ xs.getD (Int.toNat 2) 0 < 429496730 := nat_at hx (by rw [lx]; decide)
  have hlc := lopens_ok (a := a) (b := b) (d := d) (e := e) (n := n) (m := m) (rs := rs)
  unfold dutyD at hlc
  walk_at "go"
  unfold rngL
  have hR := cut48 hn
  generalize cutW ns (some 4) (some 8) = R at hR ⊢
  generalize (xs.getD (Int.toNat 1) 0 * xs.getD (Int.toNat 1) 0 * xs.getD (Int.toNat 1) 0 + xs.getD (Int.toNat 0) 0) % n = w
  show EV.Run _ ⟨[_, _, _, _, _, some (.d (ints' [0, 1 + w])), _, _, _, _, _, _, _], _⟩ _
  refine rb_loop (f := fun (i : Nat) => D.int (0 + (i : Int))) (fun l s => (∀ i ∈ l, i < 20) ∧ ∃ y7 y8 y9 y10 y11 y12 : Option W, s = ⟨[some (.d (.clo 1 [.int n, strs' rs])), some (.d (.tup [.str a, .str "must", .str b, .str d, .int n, .str e, strs' rs, .int m])), some (.d (strs' ns)), some (.d (.int c)), some (.d (ints' xs)), some (.d (ints' [0, 1 + w])), some (.d (strs' R)), y7, y8, y9, y10, y11, y12], []⟩) ?_ ?_ _ _ ⟨fun i h => List.mem_range.mp h, _, _, _, _, _, _, rfl⟩
  · rintro i l s ⟨hi, y7, y8, y9, y10, y11, y12, rfl⟩
    have hi0 := hi i List.mem_cons_self
    walk_at "go"
    rotate_left
    · show _ ∧ _ < (2 : Int)
      omega
    refine rl_addL (ds := R.map D.str) (es := [D.non]) (by rw [List.length_map, hR]; decide) ?_
    walk_at "go"
    obtain ⟨was, hwas⟩ := opt_at hR (j := (xs.getD (Int.toNat 2) 0 + 7 * (0 + (i : Int))) % 40 / 2 % 5) (by omega)
    refine rl_ixL hwas ?_
    walk_at "go"
    refine rb_callC ?_
    walk_at "go"
    refine rb_cloI ?_
    walk_at "go"
    generalize [0, 1 + w].getD _ 0 = lf
    generalize R.getD _ (Str.ofString "") = now
    refine rb_cloG [.int lf, optD was, .str now] (opnD lf was now n rs) rfl rfl ⟨rfl, noclo_opens n rs, by cases was <;> rfl⟩ (opens_ok lf was now n rs) ?_
    obtain ⟨i1, ef⟩ := opn_form lf was now n rs
    have hl := hlc lf was now
    have hw := whole_int i1
    rw [ef] at hl ⊢
    walk_at "go"
    exact ⟨fun j hj => hi j (List.mem_cons_of_mem _ hj), _, _, _, _, _, _, rfl⟩
  · rintro s ⟨_, y7, y8, y9, y10, y11, y12, rfl⟩
    walk_at "go"
    rfl
def madeD (b d : Str) (n : Int) (rs : List Str) : D := .tup [.clo 0 [.str b, .str d], .clo 1 [.int n, strs' rs]]
theorem asked_ok {a b d e : Str} {n m : Int} {rs ns : List Str} (hn : ns.length = 12) (h0 : 1 ≤ n) (c : Int) : F_law_asked [madeD b d n rs, dutyD a b d e n m rs, strs' ns, .int c] = some (.ok (.bl true)) := by
  unfold F_law_asked
  refine fp_eq [some (.d (madeD b d n rs)), some (.d (dutyD a b d e n m rs)), some (.d (strs' ns)), some (.d (.int c)), none, none] rfl ?_
  unfold b_law_asked madeD
  have ht := turns_ok (a := a) (b := b) (d := d) (e := e) (m := m) (rs := rs) hn h0 (c / 3)
  have hm := moves_ok (a := a) (b := b) (d := d) (e := e) (m := m) (rs := rs) hn h0 (c / 5)
  walk_at "go"
  refine rb_iteD (fun h => ?_) fun h => ?_
  · walk_at "go"
    rfl
  · walk_at "go"
    rfl
theorem rl_shrP {β : Type} {env : List (Option W)} {st : Store} {k : W → EM β} {Q : Out β → SS → Prop} {i j : Int} (hj : 0 ≤ j) (h : EV.Run (k (.d (.int (i / 2 ^ j.toNat)))) ⟨env, st⟩ Q) : EV.Run (bnd (lft fun st => intF shrI st (.d (.int i)) (.d (.int j))) k) ⟨env, st⟩ Q :=
  rb_lft (by unfold intF shrI; simp only [hj, if_true]) h
theorem rl_andP {β : Type} {env : List (Option W)} {st : Store} {k : W → EM β} {Q : Out β → SS → Prop} {i j : Int} (h : EV.Run (k (.d (.int (Builtin.bitAnd i j)))) ⟨env, st⟩ Q) : EV.Run (bnd (lft fun st => andA st (.d (.int i)) (.d (.int j))) k) ⟨env, st⟩ Q :=
  rb_lft rfl h
theorem duty_ok {ns : List Str} (hn : ns.length = 12) (hk : ∀ z ∈ ns, okS z) (c : Int) : ∃ dd, F_law_duty [.int c, strs' ns] = some (.ok dd) ∧ ∃ (a b d e : Str) (n m : Int) (rs : List Str), dd = dutyD a b d e n m rs ∧ 1 ≤ n ∧ ∀ z ∈ rs, okS z := by
  unfold F_law_duty
  obtain ⟨_, ex, xs, rfl, lx, hx⟩ := stream_ok c 8 (by decide)
  have xi : ∀ i : Nat, i < 8 → 0 ≤ xs.getD i 0 ∧ xs.getD i 0 < 429496730 := fun i hi => nat_at hx (by rw [lx]; exact hi)
  have x1 := xi (Int.toNat 1) (by decide)
  have x2 := xi (Int.toNat 2) (by decide)
  have x3 := xi (Int.toNat 3) (by decide)
  have x4 := xi (Int.toNat 4) (by decide)
  have x5 := xi (Int.toNat 5) (by decide)
  refine fp_run [some (.d (.int c)), some (.d (strs' ns)), none, none, none, none] rfl ?_
  unfold b_law_duty
  walk_at "go"
  refine rb_join (fun s => ∃ n : Int, 1 ≤ n ∧ s = ⟨[some (.d (.int c)), some (.d (strs' ns)), some (.d (ints' xs)), some (.d (.int n)), none, none], []⟩) ?_ ?_
  · refine rb_iteD (fun h => ?_) fun h => ?_
    · walk_at "go"
      have hm := Int.emod_nonneg (xs.getD (Int.toNat 1) 0 * xs.getD (Int.toNat 2) 0 * xs.getD (Int.toNat 3) 0) (b := 10 ^ Int.toNat 20 - 1) (by decide)
      exact ⟨_, by omega, rfl⟩
    · walk_at "go"
      exact ⟨_, by omega, rfl⟩
  rintro s ⟨n, h0, rfl⟩
  walk_at "go"
  unfold rngL
  have hlen : (ns.length : Int) = 12 := by omega
  refine rb_compFM (l := List.range (Int.toNat 4)) (f := fun (i : Nat) => D.int (0 + (i : Int))) (fun i : Nat => decide (Builtin.bitAnd (xs.getD (Int.toNat 4) 0 / 2 ^ (0 + (i : Int)).toNat) 1 = 1)) (fun i : Nat => D.str (ns.getD (4 + (0 + (i : Int))).toNat (Str.ofString ""))) (by dsimp only [List.set] <;> exact rfl) (by decide) (fun i hi env1 he1 => ?_) (fun i hi hk env1 he1 => ?_) ?_
  · dsimp only [List.set] at he1
    subst he1
    have hi := List.mem_range.mp hi
    walk_at "go"
    refine rl_shrP (by omega) ?_
    walk_at "go"
    refine rl_andP ?_
    walk_at "go"
    rfl
  · dsimp only [List.set] at he1
    subst he1
    have hi : i < 4 := List.mem_range.mp hi
    walk_at "go"
    rfl
  refine rl_newF (allD_map _) ?_
  have el : ∀ l : List Nat, D.lst (l.map fun i : Nat => D.str (ns.getD (4 + (0 + (i : Int))).toNat (Str.ofString ""))) = strs' (l.map fun i : Nat => ns.getD (4 + (0 + (i : Int))).toNat (Str.ofString "")) := fun l => by
    unfold strs'
    rw [List.map_map]
    rfl
  rw [el]
  have hz : ∀ l : List Nat, (∀ i ∈ l, i < 4) → ∀ z ∈ l.map (fun i : Nat => ns.getD (4 + (0 + (i : Int))).toNat (Str.ofString "")), okS z := fun l h z hz => by
    obtain ⟨i, h1, rfl⟩ := List.mem_map.mp hz
    have := h i h1
    have hi : (4 + (0 + (i : Int))).toNat < ns.length := by omega
    show okS (ns.getD _ _)
    rw [List.getD_eq_getElem?_getD, List.getElem?_eq_getElem hi]
    exact hk _ (List.getElem_mem hi)
  have hz := hz ((List.range (Int.toNat 4)).filter fun i : Nat => decide (Builtin.bitAnd (xs.getD (Int.toNat 4) 0 / 2 ^ (0 + (i : Int)).toNat) 1 = 1)) fun i h => List.mem_range.mp (List.mem_filter.mp h).1
  generalize List.map _ (List.filter _ _) = rs at hz ⊢
  walk_at "go"
  exact ⟨_, _, _, _, n, _, rs, rfl, h0, hz⟩
theorem chr1_okS (c : Nat) (l : List Str) : True := True.intro
theorem watch_run {a b d e : Str} {n m : Int} {rs : List Str} {st : Store} {o q : Nat} (ho : st[o]? = some (some (.tup ([D.str a, .str "must", .str b, .str d, .int n, .str e].map .d ++ [.loc q, .d (.int m)])))) (hq : st[q]? = some (some (.lst (sw rs)))) :
    b_watcher ⟨[some (.loc o), none, none, none, none, none, none], st⟩ = some (.ok .nx, ⟨[some (.loc o), some (.d (.str b)), some (.d (.str d)), some (.d (.int n)), some (.d (strs' rs)), none, none], st⟩) := by
  have h : EV.Run b_watcher ⟨[some (.loc o), none, none, none, none, none, none], st⟩ (fun x s' => x = .ok .nx ∧ s' = ⟨[some (.loc o), some (.d (.str b)), some (.d (.str d)), some (.d (.int n)), some (.d (strs' rs)), none, none], st⟩) := by
    refine run_bnd ?_
    unfold b_watcher
    walk_at "go"
    refine rl_ixTO ho rfl ?_
    walk_at "go"
    refine rl_ixTO ho rfl ?_
    walk_at "go"
    refine rl_ixTO ho rfl ?_
    walk_at "go"
    refine rl_ixTO ho rfl ?_
    walk_at "go"
    refine rl_listO hq (allD_sw rs) ?_
    walk_at "go"
    exact run_pur ⟨rfl, rfl⟩
  obtain ⟨x, s', e1, rfl, rfl⟩ := h
  exact e1
theorem watch_ok {a b d e : Str} {n m : Int} {rs : List Str} {st : Store} {o q : Nat} (h0 : st[0]? = some (some .tab)) (ho : st[o]? = some (some (.tup ([D.str a, .str "must", .str b, .str d, .int n, .str e].map .d ++ [.loc q, .d (.int m)])))) (hq : st[q]? = some (some (.lst (sw rs)))) :
    B_watcher [W.loc o] st = some (.ok (.d (madeD b d n rs)), st) := by
  unfold B_watcher bodyC
  rw [show initS 7 [W.loc o] st = ⟨[some (.loc o), none, none, none, none, none, none], st⟩ from rfl, watch_run ho hq]
  simp only [capsW, List.getElem?_cons_succ, List.getElem?_cons_zero, fzL, fz_d, h0]
  rfl
theorem app_list (a b : Str) : (a ++ b).cps.toList = a.cps.toList ++ b.cps.toList := by
  show (a.cps ++ b.cps).toList = _
  simp
theorem join_chr (l : List Nat) : (Txt.join "" (l.map chr1)).cps.toList = l := by
  have key : ∀ l : List Nat, (Str.join (Str.ofString "") (l.map chr1)).cps.toList = l := by
    intro l
    induction l with
    | nil => rfl
    | cons x r ih =>
      cases r with
      | nil => rfl
      | cons y r =>
        show (chr1 x ++ Str.ofString "" ++ Str.join (Str.ofString "") ((y :: r).map chr1)).cps.toList = _
        rw [app_list, app_list, ih]
        rfl
  rw [show Txt.join "" (l.map chr1) = Str.join (Str.ofString "") (l.map chr1) from StrLaws.glued_eq_join _ _]
  exact key l
theorem chr1_okN {cell n : Int} (h : True) : ∀ l : List Nat, (∀ c ∈ l, c < 1114112) → okS (Txt.join "" (l.map chr1)) := fun l hl => by
  rw [okS_iff, join_chr]
  exact hl
theorem abc_lt : ∀ i < 26, abcL.getD i 0 < 1114112 := by decide +kernel
theorem spc_lt : ∀ i < 8, spc.getD i 0 < 1114112 := by decide +kernel
theorem all_set {l : List Nat} {i x : Nat} (h : ∀ c ∈ l, c < 1114112) (hx : x < 1114112) : ∀ c ∈ l.set i x, c < 1114112 := fun c hc => by
  rcases List.mem_or_eq_of_mem_set hc with z | z
  · exact h c z
  · rw [z]; exact hx
theorem wl_lt (cell n : Int) : ∀ c ∈ wlN cell n, c < 1114112 := by
  unfold wlN
  refine all_set (all_set (fun c hc => ?_) (spc_lt _ (by omega))) (abc_lt _ (by omega))
  obtain ⟨i, _, rfl⟩ := List.mem_map.mp hc
  unfold cdN
  exact abc_lt _ (by omega)
theorem nm_okS (cell n : Int) : okS (nmF cell n) := by
  unfold nmF hdN31
  rw [if_neg fun q => q.1]
  refine okS_app (by decide +kernel) ?_
  rw [← List.map_take]
  exact chr1_okN (cell := 0) (n := 0) True.intro _ fun c hc => wl_lt cell n c (List.mem_of_mem_take hc)
theorem rb_revE {β : Type} {s : SS} {Q : Out β → SS → Prop} {k : List D → EM β} {m : EM (List W)} (h : EV.Run (bnd (treesE m) fun ds => bnd (match ds with
    | [x] => match listD x with
      | some xs => pur xs.reverse
      | none => non
    | _ => non : EM (List D)) k) s Q) : EV.Run (bnd (revE m) k) s Q := by
  unfold revE
  rw [bnd_assoc]
  exact h
def Held (t : D) : Prop := ∃ (a b d e : Str) (n m : Int) (rs ns : List Str) (c : Int), t = .tup [madeD b d n rs, dutyD a b d e n m rs, strs' ns, .int c] ∧ ns.length = 12 ∧ 1 ≤ n
theorem law_true (ns : List Int) (hl : ns.length ≤ 63) : F_law [.fls (ns.map .int)] = some (.ok (.bl true)) := by
  have key : EV.Run b_law ⟨[some (.d (.fls (ns.map .int))), none, none, none, none, none, none, none], [some .tab]⟩ (fun x _ => x = .ok (.ret (.d (.bl true)))) := by
    refine run_bnd ?_
    unfold b_law
    walk_at "go"
    refine rl_min2 ?_
    walk_at "go"
    refine rl_max2 ?_
    walk_at "go"
    unfold rngL
    generalize hN : Int.toNat _ = N
    have hN2 : N ≤ 10 := by
      rw [← hN]
      split
      · split <;> omega
      · omega
    clear hN
    refine rb_loop (f := fun (i : Nat) => D.int (0 + (i : Int))) (fun l s => (∀ i ∈ l, i < N) ∧ ∃ (st : Store) (ts : List D) (y2 y3 y4 y5 y6 y7 : Option W), s = ⟨[some (.d (.fls (ns.map .int))), some (.loc 1), y2, y3, y4, y5, y6, y7], st⟩ ∧ st[0]? = some (some .tab) ∧ st[1]? = some (some (.lst (ts.map .d))) ∧ (∀ t ∈ ts, Held t) ∧ ts.length + l.length ≤ N) ?_ ?_ _ _ ⟨fun i h => List.mem_range.mp h, _, [], _, _, _, _, _, _, rfl, rfl, rfl, (fun _ h => nomatch h), by simp⟩
    · rintro i l s ⟨hi, st, ts, y2, y3, y4, y5, y6, y7, rfl, h0, h1, ht, hlt⟩
      have hi0 := hi i List.mem_cons_self
      obtain ⟨c, hc, hc0, hc1⟩ := cell_ok31 ns (0 + (i : Int)) (by omega)
      obtain ⟨_, ex, xs, rfl, lx, hx⟩ := stream_ok c 1 (by decide)
      have x0 : 0 ≤ xs.getD (Int.toNat 0) 0 ∧ xs.getD (Int.toNat 0) 0 < 429496730 := nat_at hx (by rw [lx]; decide)
      have hnm := names_walk (xs.getD (Int.toNat 0) 0) x0.1
      have hnl : ((List.range 12).map fun a : Nat => nmF (xs.getD (Int.toNat 0) 0) (0 + (a : Int))).length = 12 := by simp
      have hnk : ∀ z ∈ (List.range 12).map (fun a : Nat => nmF (xs.getD (Int.toNat 0) 0) (0 + (a : Int))), okS z := fun z hz => by
        obtain ⟨a, _, rfl⟩ := List.mem_map.mp hz
        exact nm_okS _ _
      generalize (List.range 12).map (fun a : Nat => nmF (xs.getD (Int.toNat 0) 0) (0 + (a : Int))) = nms at hnm hnl hnk
      obtain ⟨dd, hd, a, b, d, e, n, m, rs, rfl, hn1, hrs⟩ := duty_ok hnl hnk c
      unfold dutyD at hd
      walk_at "go"
      refine rl_listTO (ds := rs.map D.str) rfl rfl ?_
      rw [show (rs.map D.str).map W.d = sw rs from by unfold sw; rw [List.map_map]; rfl]
      have q2 : 2 ≤ st.length := (List.getElem?_eq_some_iff.mp h1).1
      walk_at "go"
      refine rb_lft (a := W.d (.tup [.str a, .str "must", .str b, .str d, .int n, .str e])) rfl ?_
      refine rb_tupO ?_
      walk_at "go"
      refine rl_newT (by show 2 ≤ 16777216; decide) rfl rfl ?_
      walk_at "go"
      refine rl_catO get_end ⟨by show 8 ≤ 16777216; decide, by simp, by simp⟩ rfl rfl ?_
      walk_at "go"
      have g0 := get_old (r := [some (OO.tup ([D.str a, .str "must", .str b, .str d, .int n, .str e].map W.d ++ [.loc st.length, .d (.int m)]))]) (get_old (r := [some (OO.tup [W.loc st.length, W.d (D.int m)])]) (get_old (r := [some (OO.lst (sw rs))]) h0))
      have g1 := get_old (r := [some (OO.tup ([D.str a, .str "must", .str b, .str d, .int n, .str e].map W.d ++ [.loc st.length, .d (.int m)]))]) (get_old (r := [some (OO.tup [W.loc st.length, W.d (D.int m)])]) (get_old (r := [some (OO.lst (sw rs))]) h1))
      have gq : (st ++ [some (OO.lst (sw rs))] ++ [some (OO.tup [W.loc st.length, W.d (D.int m)])] ++ [some (OO.tup ([D.str a, .str "must", .str b, .str d, .int n, .str e].map W.d ++ [.loc st.length, .d (.int m)]))])[st.length]? = some (some (.lst (sw rs))) := get_old (get_old get_end)
      refine rb_gFk rfl (watch_ok (q := st.length) g0 get_end gq) ?_
      generalize (st ++ [some (OO.lst (sw rs))] ++ [some (OO.tup [W.loc st.length, W.d (D.int m)])] ++ [some (OO.tup ([D.str a, .str "must", .str b, .str d, .int n, .str e].map W.d ++ [.loc st.length, .d (.int m)]))]) = st1 at g0 g1 gq ⊢
      generalize st.length = q at q2 gq ⊢
      unfold madeD
      walk_at "go"
      refine rl_neO (n := 3) gq (allD_sw rs) (okN_strs hrs) (by decide) ?_
      walk_at "go"
      refine rb_bmK (lst_is gq) ?_
      walk_at "go"
      refine rl_clear gq rfl ?_
      walk_at "go"
      have k1 : (st1.set q (some (OO.lst [])))[1]? = some (some (.lst (ts.map .d))) := by rw [List.getElem?_set_ne (by omega)]; exact g1
      have k0 : (st1.set q (some (OO.lst [])))[0]? = some (some .tab) := by rw [List.getElem?_set_ne (by omega)]; exact g0
      refine rb_bmK (lst_is k1) ?_
      walk_at "go"
      have hlt : ts.length + (l.length + 1) ≤ N := hlt
      refine rl_append k1 (by rw [List.length_map]; omega) rfl ?_
      walk_at "go"
      have l1 := (List.getElem?_eq_some_iff.mp k1).1
      refine ⟨fun j hj => hi j (List.mem_cons_of_mem _ hj), _, ts ++ [.tup [madeD b d n rs, dutyD a b d e n m rs, strs' nms, .int c]], _, _, _, _, _, _, rfl, ?_, ?_, fun t h => ?_, by rw [List.length_append]; show ts.length + 1 + l.length ≤ N; omega⟩
      · rw [List.getElem?_set_ne (by decide)]; exact k0
      · rw [List.getElem?_set_self l1, List.map_append]
        rfl
      · rcases List.mem_append.mp h with h | h
        · exact ht t h
        · rw [List.mem_singleton.mp h]
          exact ⟨a, b, d, e, n, m, rs, nms, c, rfl, hnl, hn1⟩
    · rintro s ⟨_, st, ts, y2, y3, y4, y5, y6, y7, rfl, h0, h1, ht, hlt⟩
      walk_at "go"
      refine rb_frzO h1 (allD_map ts) rfl rfl ?_
      walk_at "go"
      refine rb_loopI (fun l s => (∀ t ∈ l, Held t) ∧ ∃ (st : Store) (y2 y3 y4 y5 y6 y7 : Option W), s = ⟨[some (.d (.fls (ns.map .int))), some (.d (.lst ts)), y2, y3, y4, y5, y6, y7], st⟩) ⟨ht, _, _, _, _, _, _, _, rfl⟩ ?_ ?_
      · rintro t l s ⟨hh, st, y2, y3, y4, y5, y6, y7, rfl⟩
        obtain ⟨a, b, d, e, n, m, rs, nms, c, rfl, hnl, hn1⟩ := hh t List.mem_cons_self
        have ha := asked_ok (a := a) (b := b) (d := d) (e := e) (m := m) (rs := rs) hnl hn1 c
        walk_at "go"
        exact ⟨fun t h => hh t (List.mem_cons_of_mem _ h), _, _, _, _, _, _, _, rfl⟩
      · rintro s ⟨_, st, y2, y3, y4, y5, y6, y7, rfl⟩
        walk_at "go"
        refine rb_revE ?_
        refine rb_trees ?_
        walk_at "go"
        show EV.Run (bnd (loopS _ _ ts.reverse) _) _ _
        refine rb_loopI (fun l s => (∀ t ∈ l, Held t) ∧ ∃ (st : Store) (y2 y3 y4 y5 y6 y7 : Option W), s = ⟨[some (.d (.fls (ns.map .int))), some (.d (.lst ts)), y2, y3, y4, y5, y6, y7], st⟩) ⟨fun t h => ht t (List.mem_reverse.mp h), _, _, _, _, _, _, _, rfl⟩ ?_ ?_
        · rintro t l s ⟨hh, st, y2, y3, y4, y5, y6, y7, rfl⟩
          obtain ⟨a, b, d, e, n, m, rs, nms, c, rfl, hnl, hn1⟩ := hh t List.mem_cons_self
          have ha := asked_ok (a := a) (b := b) (d := d) (e := e) (m := m) (rs := rs) hnl hn1 (c * 3 + 1)
          walk_at "go"
          exact ⟨fun t h => hh t (List.mem_cons_of_mem _ h), _, _, _, _, _, _, _, rfl⟩
        · rintro s ⟨_, st, y2, y3, y4, y5, y6, y7, rfl⟩
          walk_at "go"
          exact run_pur rfl
  obtain ⟨x, s', e1, rfl⟩ := key
  unfold F_law lawT bodyF
  rw [show initS 8 ([D.fls (ns.map .int)].map .d) [some .tab] = ⟨[some (.d (.fls (ns.map .int))), none, none, none, none, none, none, none], [some .tab]⟩ from rfl, e1]
end Math
theorem PySem.Challenge.cw_pactway_k41_watchers_holds : PySem.Challenge.rw_pactway_k41_watchers.Holds :=
  Walk.cw_end Math.law_true