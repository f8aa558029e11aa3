import PyProof.Rows.All
import Wide.All
import OpenK.AllK
import Wide.FinOn
import Lean
import PySem.Challenge.RW_sj0113_01
open PySem PySem.W PyProof.Rows
set_option Elab.async false
set_option maxRecDepth 100000
set_option linter.all false
set_option maxHeartbeats 8000000
set_option genInjectivity false
set_option genSizeOf false
namespace Mine

section
-- H0
theorem off_H0 : True := by w_top off; trivial
/-! the head: the text's top, run once -/
noncomputable def stA (i : Nat) : Stmt := match PySem.Challenge.pw_sj0113_01.main.body[i]? with
  | some s => s
  | none => .Pass ⟨0, 0, 0, 0⟩
noncomputable def mth : Stmt → Nat → Stmt
  | .ClassDef _ _ _ body .., j => (match body[j]? with
    | some s => s
    | none => .Pass ⟨0, 0, 0, 0⟩)
  | s, _ => s
noncomputable def fnO (s : Stmt) (qual : Str) (pm cd : Value) : Obj := match s with
  | .FunctionDef n ps body _ _ _ scope _ _ _ => { cls := .type "function", data := .func { name := n, qualname := qual, params := ps, body := .stmts body, scope := scope, globals := 3, closure := [], defaults := .none, kwdefaults := .none, pyModule := pm, code := cd } }
  | _ => { cls := .none }
noncomputable def hd.heap_39 : Params → Frag := fun P =>
  (nat_lit 2, { cls := Value.none, data := Data.dict #[{ hash := PyData.keyHash P (Str.ofString "type.__subclasses__.Exception.0"), key := Value.str (Str.ofString "type.__subclasses__.Exception.0") 221, val := Value.int 38 0 }, { hash := PyData.keyHash P (Str.ofString "type.__subclasses__.Exception.n"), key := Value.str (Str.ofString "type.__subclasses__.Exception.n") 222, val := Value.int 1 0 }] 2 }) ::
  (nat_lit 3, { cls := Value.type "dict", data := Data.dict #[{ hash := PyData.keyHash P (Str.ofString "__name__"), key := Value.str (Str.ofString "__name__") 165, val := Value.str (Str.ofString "law_sj0113_01") 498 }, { hash := PyData.keyHash P (Str.ofString "__doc__"), key := Value.str (Str.ofString "__doc__") 166, val := Value.none }, { hash := PyData.keyHash P (Str.ofString "__package__"), key := Value.str (Str.ofString "__package__") 167, val := Value.none }, { hash := PyData.keyHash P (Str.ofString "__loader__"), key := Value.str (Str.ofString "__loader__") 168, val := Value.builtin "__main__.__loader__#opaque" }, { hash := PyData.keyHash P (Str.ofString "__spec__"), key := Value.str (Str.ofString "__spec__") 169, val := Value.none }, { hash := PyData.keyHash P (Str.ofString "__annotations__"), key := Value.str (Str.ofString "__annotations__") 170, val := Value.ref 6 }, { hash := PyData.keyHash P (Str.ofString "__builtins__"), key := Value.str (Str.ofString "__builtins__") 171, val := Value.ref 4 }, { hash := PyData.keyHash P (Str.ofString "__file__"), key := Value.str (Str.ofString "__file__") 173, val := Value.str (Str.ofString "/claim/cut.py") 172 }, { hash := PyData.keyHash P (Str.ofString "__cached__"), key := Value.str (Str.ofString "__cached__") 174, val := Value.none }, { hash := PyData.keyHash P (Str.ofString "_wall"), key := Value.str (Str.ofString "_wall") 193, val := Value.ref 21 }, { hash := PyData.keyHash P (Str.ofString "PacketRefused"), key := Value.str (Str.ofString "PacketRefused") 224, val := Value.ref 38 }, { hash := PyData.keyHash P (Str.ofString "TIMES_RECEIVED"), key := Value.str (Str.ofString "TIMES_RECEIVED") 228, val := Value.int 3 227 }, { hash := PyData.keyHash P (Str.ofString "PATH_UNPROVEN"), key := Value.str (Str.ofString "PATH_UNPROVEN") 230, val := Value.str (Str.ofString "unproven") 229 }, { hash := PyData.keyHash P (Str.ofString "PATH_TRYING"), key := Value.str (Str.ofString "PATH_TRYING") 232, val := Value.str (Str.ofString "trying") 231 }, { hash := PyData.keyHash P (Str.ofString "PATH_PROVEN"), key := Value.str (Str.ofString "PATH_PROVEN") 234, val := Value.str (Str.ofString "proven") 233 }, { hash := PyData.keyHash P (Str.ofString "PATH_FAILED"), key := Value.str (Str.ofString "PATH_FAILED") 236, val := Value.str (Str.ofString "failed") 235 }, { hash := PyData.keyHash P (Str.ofString "Path"), key := Value.str (Str.ofString "Path") 342, val := Value.ref 121 }, { hash := PyData.keyHash P (Str.ofString "Paths"), key := Value.str (Str.ofString "Paths") 497, val := Value.ref 236 }, { hash := PyData.keyHash P (Str.ofString "_law_places"), key := Value.str (Str.ofString "_law_places") 505, val := Value.ref 247 }, { hash := PyData.keyHash P (Str.ofString "_law_take"), key := Value.str (Str.ofString "_law_take") 513, val := Value.ref 254 }, { hash := PyData.keyHash P (Str.ofString "_law_fate"), key := Value.str (Str.ofString "_law_fate") 523, val := Value.ref 261 }, { hash := PyData.keyHash P (Str.ofString "_law_shape"), key := Value.str (Str.ofString "_law_shape") 529, val := Value.ref 266 }, { hash := PyData.keyHash P (Str.ofString "_law_ended"), key := Value.str (Str.ofString "_law_ended") 537, val := Value.ref 273 }, { hash := PyData.keyHash P (Str.ofString "_law_challenge_comes"), key := Value.str (Str.ofString "_law_challenge_comes") 547, val := Value.ref 280 }, { hash := PyData.keyHash P (Str.ofString "_law_answer_comes"), key := Value.str (Str.ofString "_law_answer_comes") 553, val := Value.ref 285 }, { hash := PyData.keyHash P (Str.ofString "_law_passes"), key := Value.str (Str.ofString "_law_passes") 565, val := Value.ref 292 }, { hash := PyData.keyHash P (Str.ofString "_law_asks"), key := Value.str (Str.ofString "_law_asks") 576, val := Value.ref 299 }, { hash := PyData.keyHash P (Str.ofString "_law_moves"), key := Value.str (Str.ofString "_law_moves") 582, val := Value.ref 304 }, { hash := PyData.keyHash P (Str.ofString "_law_lies"), key := Value.str (Str.ofString "_law_lies") 593, val := Value.ref 311 }, { hash := PyData.keyHash P (Str.ofString "_law_deed"), key := Value.str (Str.ofString "_law_deed") 604, val := Value.ref 318 }, { hash := PyData.keyHash P (Str.ofString "_law_stands"), key := Value.str (Str.ofString "_law_stands") 610, val := Value.ref 323 }, { hash := PyData.keyHash P (Str.ofString "_law_all_come"), key := Value.str (Str.ofString "_law_all_come") 619, val := Value.ref 330 }, { hash := PyData.keyHash P (Str.ofString "law"), key := Value.str (Str.ofString "law") 635, val := Value.ref 337 }] 33 }) ::
  (nat_lit 15, { cls := Value.type "tuple", data := Data.seq #[] }) ::
  (nat_lit 17, { cls := Value.type "tuple", data := Data.seq #[Value.str (Str.ofString "k") 190] }) ::
  (nat_lit 18, { cls := Value.type "tuple", data := Data.seq #[] }) ::
  (nat_lit 20, { cls := Value.type "code", data := Data.fields #[Value.str (Str.ofString "_wall") 187, Value.str (Str.ofString "_wall") 188, Value.str (Str.ofString "/claim/cut.py") 189, Value.int 1 0, Value.int 1 0, Value.int 0 0, Value.int 0 0, Value.int 3 0, Value.ref 15, Value.bool true, Value.int 181 0, Value.ref 16, Value.none, Value.ref 17, Value.ref 18, Value.ref 19, Value.int 191 0, Value.int 1 0, Value.str (Str.ofString "/claim/cut.py") 192] }) ::
  (nat_lit 21, fnO (stA 0) (Str.ofString "_wall") (Value.str (Str.ofString "__main__") 164) (Value.ref 20)) ::
  (nat_lit 22, { cls := Value.type "tuple", data := Data.seq #[Value.type "Exception"] }) ::
  (nat_lit 29, { cls := Value.type "tuple", data := Data.seq #[] }) ::
  (nat_lit 31, { cls := Value.type "tuple", data := Data.seq #[Value.str (Str.ofString "self") 211, Value.str (Str.ofString "text") 212] }) ::
  (nat_lit 32, { cls := Value.type "tuple", data := Data.seq #[] }) ::
  (nat_lit 34, { cls := Value.type "code", data := Data.fields #[Value.str (Str.ofString "__init__") 208, Value.str (Str.ofString "PacketRefused.__init__") 209, Value.str (Str.ofString "/claim/cut.py") 210, Value.int 7 0, Value.int 2 0, Value.int 0 0, Value.int 0 0, Value.int 3 0, Value.ref 29, Value.bool true, Value.int 181 0, Value.ref 30, Value.none, Value.ref 31, Value.ref 32, Value.ref 33, Value.int 213 0, Value.int 7 0, Value.str (Str.ofString "/claim/cut.py") 214] }) ::
  (nat_lit 35, fnO (mth (stA 2) 0) (Str.ofString "PacketRefused.__init__") (Value.str (Str.ofString "quic.errors") 194) (Value.ref 34)) ::
  (nat_lit 36, { cls := Value.type "tuple", data := Data.seq #[Value.str (Str.ofString "text") 216] }) ::
  (nat_lit 37, { cls := Value.type "dict", data := Data.dict #[{ hash := PyData.keyHash P (Str.ofString "__module__"), key := Value.str (Str.ofString "__module__") 203, val := Value.str (Str.ofString "quic.errors") 194 }, { hash := PyData.keyHash P (Str.ofString "__firstlineno__"), key := Value.str (Str.ofString "__firstlineno__") 207, val := Value.int 5 206 }, { hash := PyData.keyHash P (Str.ofString "__init__"), key := Value.str (Str.ofString "__init__") 215, val := Value.ref 35 }, { hash := PyData.keyHash P (Str.ofString "__static_attributes__"), key := Value.str (Str.ofString "__static_attributes__") 217, val := Value.ref 36 }, { hash := PyData.keyHash P (Str.ofString "__weakref__"), key := Value.str (Str.ofString "__weakref__") 219, val := Value.ref 39 }, { hash := PyData.keyHash P (Str.ofString "__doc__"), key := Value.str (Str.ofString "__doc__") 220, val := Value.none }] 3 }) ::
  (nat_lit 38, { cls := Value.type "type", data := Data.cls { name := Str.ofString "PacketRefused", bases := [Value.type "Exception"], mro := [Value.ref 38, Value.type "Exception", Value.type "BaseException", Value.type "object"], ns := 37, qualname := Str.ofString "PacketRefused" }, slots := #[some (Value.ref 22), none, some (Value.str (Str.ofString "PacketRefused") 196), some (Value.str (Str.ofString "PacketRefused") 204), some (Value.builtin "Exception.__new__"), some (Value.bool true)] }) ::
  (nat_lit 39, { cls := Value.type "getset_descriptor", data := Data.fields #[Value.str (Str.ofString "__weakref__") 218, Value.ref 38, Value.builtin "ExceptionGroup.__weakref__", Value.none] }) ::
  (nat_lit 49, { cls := Value.type "tuple", data := Data.seq #[] }) ::
  (nat_lit 51, { cls := Value.type "tuple", data := Data.seq #[Value.str (Str.ofString "self") 252, Value.str (Str.ofString "address") 253, Value.str (Str.ofString "is_proven") 254] }) ::
  (nat_lit 52, { cls := Value.type "tuple", data := Data.seq #[] }) ::
  (nat_lit 54, { cls := Value.type "code", data := Data.fields #[Value.str (Str.ofString "__init__") 249, Value.str (Str.ofString "Path.__init__") 250, Value.str (Str.ofString "/claim/cut.py") 251, Value.int 18 0, Value.int 3 0, Value.int 0 0, Value.int 0 0, Value.int 3 0, Value.ref 49, Value.bool true, Value.int 181 0, Value.ref 50, Value.none, Value.ref 51, Value.ref 52, Value.ref 53, Value.int 255 0, Value.int 18 0, Value.str (Str.ofString "/claim/cut.py") 256] }) ::
  (nat_lit 55, fnO (mth (stA 9) 0) (Str.ofString "Path.__init__") (Value.str (Str.ofString "quic.paths") 225) (Value.ref 54)) ::
  (nat_lit 56, { cls := Value.type "tuple", data := Data.seq #[] }) ::
  (nat_lit 58, { cls := Value.type "tuple", data := Data.seq #[Value.str (Str.ofString "self") 261] }) ::
  (nat_lit 59, { cls := Value.type "tuple", data := Data.seq #[] }) ::
  (nat_lit 61, { cls := Value.type "code", data := Data.fields #[Value.str (Str.ofString "is_proven") 258, Value.str (Str.ofString "Path.is_proven") 259, Value.str (Str.ofString "/claim/cut.py") 260, Value.int 28 0, Value.int 1 0, Value.int 0 0, Value.int 0 0, Value.int 3 0, Value.ref 56, Value.bool true, Value.int 181 0, Value.ref 57, Value.none, Value.ref 58, Value.ref 59, Value.ref 60, Value.int 262 0, Value.int 28 0, Value.str (Str.ofString "/claim/cut.py") 263] }) ::
  (nat_lit 62, fnO (mth (stA 9) 1) (Str.ofString "Path.is_proven") (Value.str (Str.ofString "quic.paths") 225) (Value.ref 61)) ::
  (nat_lit 63, { cls := Value.type "tuple", data := Data.seq #[] }) ::
  (nat_lit 65, { cls := Value.type "tuple", data := Data.seq #[Value.str (Str.ofString "self") 268] }) ::
  (nat_lit 66, { cls := Value.type "tuple", data := Data.seq #[] }) ::
  (nat_lit 68, { cls := Value.type "code", data := Data.fields #[Value.str (Str.ofString "room") 265, Value.str (Str.ofString "Path.room") 266, Value.str (Str.ofString "/claim/cut.py") 267, Value.int 31 0, Value.int 1 0, Value.int 0 0, Value.int 0 0, Value.int 3 0, Value.ref 63, Value.bool true, Value.int 181 0, Value.ref 64, Value.none, Value.ref 65, Value.ref 66, Value.ref 67, Value.int 269 0, Value.int 31 0, Value.str (Str.ofString "/claim/cut.py") 270] }) ::
  (nat_lit 69, fnO (mth (stA 9) 2) (Str.ofString "Path.room") (Value.str (Str.ofString "quic.paths") 225) (Value.ref 68)) ::
  (nat_lit 70, { cls := Value.type "tuple", data := Data.seq #[] }) ::
  (nat_lit 72, { cls := Value.type "tuple", data := Data.seq #[Value.str (Str.ofString "self") 275, Value.str (Str.ofString "size") 276] }) ::
  (nat_lit 73, { cls := Value.type "tuple", data := Data.seq #[] }) ::
  (nat_lit 75, { cls := Value.type "code", data := Data.fields #[Value.str (Str.ofString "may_send") 272, Value.str (Str.ofString "Path.may_send") 273, Value.str (Str.ofString "/claim/cut.py") 274, Value.int 34 0, Value.int 2 0, Value.int 0 0, Value.int 0 0, Value.int 3 0, Value.ref 70, Value.bool true, Value.int 181 0, Value.ref 71, Value.none, Value.ref 72, Value.ref 73, Value.ref 74, Value.int 277 0, Value.int 34 0, Value.str (Str.ofString "/claim/cut.py") 278] }) ::
  (nat_lit 76, fnO (mth (stA 9) 3) (Str.ofString "Path.may_send") (Value.str (Str.ofString "quic.paths") 225) (Value.ref 75)) ::
  (nat_lit 77, { cls := Value.type "tuple", data := Data.seq #[] }) ::
  (nat_lit 79, { cls := Value.type "tuple", data := Data.seq #[Value.str (Str.ofString "self") 283, Value.str (Str.ofString "size") 284] }) ::
  (nat_lit 80, { cls := Value.type "tuple", data := Data.seq #[] }) ::
  (nat_lit 82, { cls := Value.type "code", data := Data.fields #[Value.str (Str.ofString "on_received") 280, Value.str (Str.ofString "Path.on_received") 281, Value.str (Str.ofString "/claim/cut.py") 282, Value.int 37 0, Value.int 2 0, Value.int 0 0, Value.int 0 0, Value.int 3 0, Value.ref 77, Value.bool true, Value.int 181 0, Value.ref 78, Value.none, Value.ref 79, Value.ref 80, Value.ref 81, Value.int 285 0, Value.int 37 0, Value.str (Str.ofString "/claim/cut.py") 286] }) ::
  (nat_lit 83, fnO (mth (stA 9) 4) (Str.ofString "Path.on_received") (Value.str (Str.ofString "quic.paths") 225) (Value.ref 82)) ::
  (nat_lit 84, { cls := Value.type "tuple", data := Data.seq #[] }) ::
  (nat_lit 86, { cls := Value.type "tuple", data := Data.seq #[Value.str (Str.ofString "self") 291, Value.str (Str.ofString "size") 292] }) ::
  (nat_lit 87, { cls := Value.type "tuple", data := Data.seq #[] }) ::
  (nat_lit 89, { cls := Value.type "code", data := Data.fields #[Value.str (Str.ofString "on_sent") 288, Value.str (Str.ofString "Path.on_sent") 289, Value.str (Str.ofString "/claim/cut.py") 290, Value.int 40 0, Value.int 2 0, Value.int 0 0, Value.int 0 0, Value.int 3 0, Value.ref 84, Value.bool true, Value.int 181 0, Value.ref 85, Value.none, Value.ref 86, Value.ref 87, Value.ref 88, Value.int 293 0, Value.int 40 0, Value.str (Str.ofString "/claim/cut.py") 294] }) ::
  (nat_lit 90, fnO (mth (stA 9) 5) (Str.ofString "Path.on_sent") (Value.str (Str.ofString "quic.paths") 225) (Value.ref 89)) ::
  (nat_lit 91, { cls := Value.type "tuple", data := Data.seq #[] }) ::
  (nat_lit 93, { cls := Value.type "tuple", data := Data.seq #[Value.str (Str.ofString "self") 299] }) ::
  (nat_lit 94, { cls := Value.type "tuple", data := Data.seq #[] }) ::
  (nat_lit 96, { cls := Value.type "code", data := Data.fields #[Value.str (Str.ofString "prove") 296, Value.str (Str.ofString "Path.prove") 297, Value.str (Str.ofString "/claim/cut.py") 298, Value.int 43 0, Value.int 1 0, Value.int 0 0, Value.int 0 0, Value.int 3 0, Value.ref 91, Value.bool true, Value.int 181 0, Value.ref 92, Value.none, Value.ref 93, Value.ref 94, Value.ref 95, Value.int 300 0, Value.int 43 0, Value.str (Str.ofString "/claim/cut.py") 301] }) ::
  (nat_lit 97, fnO (mth (stA 9) 6) (Str.ofString "Path.prove") (Value.str (Str.ofString "quic.paths") 225) (Value.ref 96)) ::
  (nat_lit 98, { cls := Value.type "tuple", data := Data.seq #[] }) ::
  (nat_lit 100, { cls := Value.type "tuple", data := Data.seq #[Value.str (Str.ofString "self") 306, Value.str (Str.ofString "data") 307, Value.str (Str.ofString "now") 308, Value.str (Str.ofString "wait") 309] }) ::
  (nat_lit 101, { cls := Value.type "tuple", data := Data.seq #[] }) ::
  (nat_lit 103, { cls := Value.type "code", data := Data.fields #[Value.str (Str.ofString "challenge") 303, Value.str (Str.ofString "Path.challenge") 304, Value.str (Str.ofString "/claim/cut.py") 305, Value.int 50 0, Value.int 4 0, Value.int 0 0, Value.int 0 0, Value.int 3 0, Value.ref 98, Value.bool true, Value.int 181 0, Value.ref 99, Value.none, Value.ref 100, Value.ref 101, Value.ref 102, Value.int 310 0, Value.int 50 0, Value.str (Str.ofString "/claim/cut.py") 311] }) ::
  (nat_lit 104, fnO (mth (stA 9) 7) (Str.ofString "Path.challenge") (Value.str (Str.ofString "quic.paths") 225) (Value.ref 103)) ::
  (nat_lit 105, { cls := Value.type "tuple", data := Data.seq #[] }) ::
  (nat_lit 107, { cls := Value.type "tuple", data := Data.seq #[Value.str (Str.ofString "self") 316] }) ::
  (nat_lit 108, { cls := Value.type "tuple", data := Data.seq #[] }) ::
  (nat_lit 110, { cls := Value.type "code", data := Data.fields #[Value.str (Str.ofString "fail") 313, Value.str (Str.ofString "Path.fail") 314, Value.str (Str.ofString "/claim/cut.py") 315, Value.int 58 0, Value.int 1 0, Value.int 0 0, Value.int 0 0, Value.int 3 0, Value.ref 105, Value.bool true, Value.int 181 0, Value.ref 106, Value.none, Value.ref 107, Value.ref 108, Value.ref 109, Value.int 317 0, Value.int 58 0, Value.str (Str.ofString "/claim/cut.py") 318] }) ::
  (nat_lit 111, fnO (mth (stA 9) 8) (Str.ofString "Path.fail") (Value.str (Str.ofString "quic.paths") 225) (Value.ref 110)) ::
  (nat_lit 112, { cls := Value.type "tuple", data := Data.seq #[] }) ::
  (nat_lit 114, { cls := Value.type "tuple", data := Data.seq #[Value.str (Str.ofString "self") 323] }) ::
  (nat_lit 115, { cls := Value.type "tuple", data := Data.seq #[] }) ::
  (nat_lit 117, { cls := Value.type "code", data := Data.fields #[Value.str (Str.ofString "renew") 320, Value.str (Str.ofString "Path.renew") 321, Value.str (Str.ofString "/claim/cut.py") 322, Value.int 66 0, Value.int 1 0, Value.int 0 0, Value.int 0 0, Value.int 3 0, Value.ref 112, Value.bool true, Value.int 181 0, Value.ref 113, Value.none, Value.ref 114, Value.ref 115, Value.ref 116, Value.int 324 0, Value.int 66 0, Value.str (Str.ofString "/claim/cut.py") 325] }) ::
  (nat_lit 118, fnO (mth (stA 9) 9) (Str.ofString "Path.renew") (Value.str (Str.ofString "quic.paths") 225) (Value.ref 117)) ::
  (nat_lit 119, { cls := Value.type "tuple", data := Data.seq #[Value.str (Str.ofString "address") 327, Value.str (Str.ofString "challenges") 328, Value.str (Str.ofString "deadline") 329, Value.str (Str.ofString "is_free") 330, Value.str (Str.ofString "received") 331, Value.str (Str.ofString "sent") 332, Value.str (Str.ofString "state") 333, Value.str (Str.ofString "wants_more") 334] }) ::
  (nat_lit 120, { cls := Value.type "dict", data := Data.dict #[{ hash := PyData.keyHash P (Str.ofString "__module__"), key := Value.str (Str.ofString "__module__") 244, val := Value.str (Str.ofString "quic.paths") 225 }, { hash := PyData.keyHash P (Str.ofString "__firstlineno__"), key := Value.str (Str.ofString "__firstlineno__") 248, val := Value.int 16 247 }, { hash := PyData.keyHash P (Str.ofString "__init__"), key := Value.str (Str.ofString "__init__") 257, val := Value.ref 55 }, { hash := PyData.keyHash P (Str.ofString "is_proven"), key := Value.str (Str.ofString "is_proven") 264, val := Value.ref 62 }, { hash := PyData.keyHash P (Str.ofString "room"), key := Value.str (Str.ofString "room") 271, val := Value.ref 69 }, { hash := PyData.keyHash P (Str.ofString "may_send"), key := Value.str (Str.ofString "may_send") 279, val := Value.ref 76 }, { hash := PyData.keyHash P (Str.ofString "on_received"), key := Value.str (Str.ofString "on_received") 287, val := Value.ref 83 }, { hash := PyData.keyHash P (Str.ofString "on_sent"), key := Value.str (Str.ofString "on_sent") 295, val := Value.ref 90 }, { hash := PyData.keyHash P (Str.ofString "prove"), key := Value.str (Str.ofString "prove") 302, val := Value.ref 97 }, { hash := PyData.keyHash P (Str.ofString "challenge"), key := Value.str (Str.ofString "challenge") 312, val := Value.ref 104 }, { hash := PyData.keyHash P (Str.ofString "fail"), key := Value.str (Str.ofString "fail") 319, val := Value.ref 111 }, { hash := PyData.keyHash P (Str.ofString "renew"), key := Value.str (Str.ofString "renew") 326, val := Value.ref 118 }, { hash := PyData.keyHash P (Str.ofString "__static_attributes__"), key := Value.str (Str.ofString "__static_attributes__") 335, val := Value.ref 119 }, { hash := PyData.keyHash P (Str.ofString "__dict__"), key := Value.str (Str.ofString "__dict__") 337, val := Value.ref 122 }, { hash := PyData.keyHash P (Str.ofString "__weakref__"), key := Value.str (Str.ofString "__weakref__") 339, val := Value.ref 123 }, { hash := PyData.keyHash P (Str.ofString "__doc__"), key := Value.str (Str.ofString "__doc__") 340, val := Value.none }] 4 }) ::
  (nat_lit 121, { cls := Value.type "type", data := Data.cls { name := Str.ofString "Path", bases := [Value.type "object"], mro := [Value.ref 121, Value.type "object"], ns := 120, qualname := Str.ofString "Path" }, slots := #[none, none, some (Value.str (Str.ofString "Path") 237), some (Value.str (Str.ofString "Path") 245), some (Value.builtin "object.__new__"), some (Value.bool true)] }) ::
  (nat_lit 122, { cls := Value.type "getset_descriptor", data := Data.fields #[Value.str (Str.ofString "__dict__") 336, Value.ref 121, Value.builtin "function.__dict__", Value.builtin "function.__dict__#set"] }) ::
  (nat_lit 123, { cls := Value.type "getset_descriptor", data := Data.fields #[Value.str (Str.ofString "__weakref__") 338, Value.ref 121, Value.builtin "ExceptionGroup.__weakref__", Value.none] }) ::
  (nat_lit 133, { cls := Value.type "tuple", data := Data.seq #[] }) ::
  (nat_lit 135, { cls := Value.type "tuple", data := Data.seq #[Value.str (Str.ofString "self") 358, Value.str (Str.ofString "role") 359, Value.str (Str.ofString "address") 360, Value.str (Str.ofString "is_proven") 361, Value.str (Str.ofString "may_move") 362] }) ::
  (nat_lit 136, { cls := Value.type "tuple", data := Data.seq #[] }) ::
  (nat_lit 138, { cls := Value.type "code", data := Data.fields #[Value.str (Str.ofString "__init__") 355, Value.str (Str.ofString "Paths.__init__") 356, Value.str (Str.ofString "/claim/cut.py") 357, Value.int 71 0, Value.int 5 0, Value.int 0 0, Value.int 0 0, Value.int 3 0, Value.ref 133, Value.bool true, Value.int 181 0, Value.ref 134, Value.none, Value.ref 135, Value.ref 136, Value.ref 137, Value.int 363 0, Value.int 71 0, Value.str (Str.ofString "/claim/cut.py") 364] }) ::
  (nat_lit 139, fnO (mth (stA 10) 0) (Str.ofString "Paths.__init__") (Value.str (Str.ofString "quic.paths") 225) (Value.ref 138)) ::
  (nat_lit 140, { cls := Value.type "tuple", data := Data.seq #[] }) ::
  (nat_lit 142, { cls := Value.type "tuple", data := Data.seq #[Value.str (Str.ofString "self") 369, Value.str (Str.ofString "address") 370, Value.str (Str.ofString "path") 371] }) ::
  (nat_lit 143, { cls := Value.type "tuple", data := Data.seq #[] }) ::
  (nat_lit 145, { cls := Value.type "code", data := Data.fields #[Value.str (Str.ofString "path_of") 366, Value.str (Str.ofString "Paths.path_of") 367, Value.str (Str.ofString "/claim/cut.py") 368, Value.int 80 0, Value.int 2 0, Value.int 0 0, Value.int 0 0, Value.int 3 0, Value.ref 140, Value.bool true, Value.int 181 0, Value.ref 141, Value.none, Value.ref 142, Value.ref 143, Value.ref 144, Value.int 372 0, Value.int 80 0, Value.str (Str.ofString "/claim/cut.py") 373] }) ::
  (nat_lit 146, fnO (mth (stA 10) 1) (Str.ofString "Paths.path_of") (Value.str (Str.ofString "quic.paths") 225) (Value.ref 145)) ::
  (nat_lit 147, { cls := Value.type "tuple", data := Data.seq #[] }) ::
  (nat_lit 149, { cls := Value.type "tuple", data := Data.seq #[Value.str (Str.ofString "self") 378, Value.str (Str.ofString "address") 379, Value.str (Str.ofString "found") 380] }) ::
  (nat_lit 150, { cls := Value.type "tuple", data := Data.seq #[] }) ::
  (nat_lit 152, { cls := Value.type "code", data := Data.fields #[Value.str (Str.ofString "opened") 375, Value.str (Str.ofString "Paths.opened") 376, Value.str (Str.ofString "/claim/cut.py") 377, Value.int 86 0, Value.int 2 0, Value.int 0 0, Value.int 0 0, Value.int 3 0, Value.ref 147, Value.bool true, Value.int 181 0, Value.ref 148, Value.none, Value.ref 149, Value.ref 150, Value.ref 151, Value.int 381 0, Value.int 86 0, Value.str (Str.ofString "/claim/cut.py") 382] }) ::
  (nat_lit 153, fnO (mth (stA 10) 2) (Str.ofString "Paths.opened") (Value.str (Str.ofString "quic.paths") 225) (Value.ref 152)) ::
  (nat_lit 154, { cls := Value.type "tuple", data := Data.seq #[] }) ::
  (nat_lit 156, { cls := Value.type "tuple", data := Data.seq #[Value.str (Str.ofString "self") 387, Value.str (Str.ofString "address") 388, Value.str (Str.ofString "size") 389, Value.str (Str.ofString "path") 390] }) ::
  (nat_lit 157, { cls := Value.type "tuple", data := Data.seq #[] }) ::
  (nat_lit 159, { cls := Value.type "code", data := Data.fields #[Value.str (Str.ofString "on_datagram") 384, Value.str (Str.ofString "Paths.on_datagram") 385, Value.str (Str.ofString "/claim/cut.py") 386, Value.int 93 0, Value.int 3 0, Value.int 0 0, Value.int 0 0, Value.int 3 0, Value.ref 154, Value.bool true, Value.int 181 0, Value.ref 155, Value.none, Value.ref 156, Value.ref 157, Value.ref 158, Value.int 391 0, Value.int 93 0, Value.str (Str.ofString "/claim/cut.py") 392] }) ::
  (nat_lit 160, fnO (mth (stA 10) 3) (Str.ofString "Paths.on_datagram") (Value.str (Str.ofString "quic.paths") 225) (Value.ref 159)) ::
  (nat_lit 161, { cls := Value.type "tuple", data := Data.seq #[] }) ::
  (nat_lit 163, { cls := Value.type "tuple", data := Data.seq #[Value.str (Str.ofString "self") 397, Value.str (Str.ofString "address") 398, Value.str (Str.ofString "number") 399, Value.str (Str.ofString "is_probing") 400, Value.str (Str.ofString "is_newest") 401, Value.str (Str.ofString "path") 402] }) ::
  (nat_lit 164, { cls := Value.type "tuple", data := Data.seq #[] }) ::
  (nat_lit 166, { cls := Value.type "code", data := Data.fields #[Value.str (Str.ofString "on_packet") 394, Value.str (Str.ofString "Paths.on_packet") 395, Value.str (Str.ofString "/claim/cut.py") 396, Value.int 100 0, Value.int 4 0, Value.int 0 0, Value.int 0 0, Value.int 3 0, Value.ref 161, Value.bool true, Value.int 181 0, Value.ref 162, Value.none, Value.ref 163, Value.ref 164, Value.ref 165, Value.int 403 0, Value.int 100 0, Value.str (Str.ofString "/claim/cut.py") 404] }) ::
  (nat_lit 167, fnO (mth (stA 10) 4) (Str.ofString "Paths.on_packet") (Value.str (Str.ofString "quic.paths") 225) (Value.ref 166)) ::
  (nat_lit 168, { cls := Value.type "tuple", data := Data.seq #[] }) ::
  (nat_lit 170, { cls := Value.type "tuple", data := Data.seq #[Value.str (Str.ofString "self") 409, Value.str (Str.ofString "address") 410] }) ::
  (nat_lit 171, { cls := Value.type "tuple", data := Data.seq #[] }) ::
  (nat_lit 173, { cls := Value.type "code", data := Data.fields #[Value.str (Str.ofString "move_to") 406, Value.str (Str.ofString "Paths.move_to") 407, Value.str (Str.ofString "/claim/cut.py") 408, Value.int 112 0, Value.int 2 0, Value.int 0 0, Value.int 0 0, Value.int 3 0, Value.ref 168, Value.bool true, Value.int 181 0, Value.ref 169, Value.none, Value.ref 170, Value.ref 171, Value.ref 172, Value.int 411 0, Value.int 112 0, Value.str (Str.ofString "/claim/cut.py") 412] }) ::
  (nat_lit 174, fnO (mth (stA 10) 5) (Str.ofString "Paths.move_to") (Value.str (Str.ofString "quic.paths") 225) (Value.ref 173)) ::
  (nat_lit 175, { cls := Value.type "tuple", data := Data.seq #[] }) ::
  (nat_lit 177, { cls := Value.type "tuple", data := Data.seq #[Value.str (Str.ofString "self") 417, Value.str (Str.ofString "address") 418, Value.str (Str.ofString "data") 419] }) ::
  (nat_lit 178, { cls := Value.type "tuple", data := Data.seq #[] }) ::
  (nat_lit 180, { cls := Value.type "code", data := Data.fields #[Value.str (Str.ofString "take_challenge") 414, Value.str (Str.ofString "Paths.take_challenge") 415, Value.str (Str.ofString "/claim/cut.py") 416, Value.int 115 0, Value.int 3 0, Value.int 0 0, Value.int 0 0, Value.int 3 0, Value.ref 175, Value.bool true, Value.int 181 0, Value.ref 176, Value.none, Value.ref 177, Value.ref 178, Value.ref 179, Value.int 420 0, Value.int 115 0, Value.str (Str.ofString "/claim/cut.py") 421] }) ::
  (nat_lit 181, fnO (mth (stA 10) 6) (Str.ofString "Paths.take_challenge") (Value.str (Str.ofString "quic.paths") 225) (Value.ref 180)) ::
  (nat_lit 182, { cls := Value.type "tuple", data := Data.seq #[] }) ::
  (nat_lit 184, { cls := Value.type "tuple", data := Data.seq #[Value.str (Str.ofString "self") 426] }) ::
  (nat_lit 185, { cls := Value.type "tuple", data := Data.seq #[] }) ::
  (nat_lit 187, { cls := Value.type "code", data := Data.fields #[Value.str (Str.ofString "next_answer") 423, Value.str (Str.ofString "Paths.next_answer") 424, Value.str (Str.ofString "/claim/cut.py") 425, Value.int 118 0, Value.int 1 0, Value.int 0 0, Value.int 0 0, Value.int 3 0, Value.ref 182, Value.bool true, Value.int 181 0, Value.ref 183, Value.none, Value.ref 184, Value.ref 185, Value.ref 186, Value.int 427 0, Value.int 118 0, Value.str (Str.ofString "/claim/cut.py") 428] }) ::
  (nat_lit 188, fnO (mth (stA 10) 7) (Str.ofString "Paths.next_answer") (Value.str (Str.ofString "quic.paths") 225) (Value.ref 187)) ::
  (nat_lit 189, { cls := Value.type "tuple", data := Data.seq #[] }) ::
  (nat_lit 191, { cls := Value.type "tuple", data := Data.seq #[Value.str (Str.ofString "self") 433, Value.str (Str.ofString "is_tried") 434] }) ::
  (nat_lit 192, { cls := Value.type "tuple", data := Data.seq #[] }) ::
  (nat_lit 194, { cls := Value.type "code", data := Data.fields #[Value.str (Str.ofString "wants_challenge") 430, Value.str (Str.ofString "Paths.wants_challenge") 431, Value.str (Str.ofString "/claim/cut.py") 432, Value.int 121 0, Value.int 1 0, Value.int 0 0, Value.int 0 0, Value.int 3 0, Value.ref 189, Value.bool true, Value.int 181 0, Value.ref 190, Value.none, Value.ref 191, Value.ref 192, Value.ref 193, Value.int 435 0, Value.int 121 0, Value.str (Str.ofString "/claim/cut.py") 436] }) ::
  (nat_lit 195, fnO (mth (stA 10) 8) (Str.ofString "Paths.wants_challenge") (Value.str (Str.ofString "quic.paths") 225) (Value.ref 194)) ::
  (nat_lit 196, { cls := Value.type "tuple", data := Data.seq #[] }) ::
  (nat_lit 198, { cls := Value.type "tuple", data := Data.seq #[Value.str (Str.ofString "self") 441, Value.str (Str.ofString "path") 442] }) ::
  (nat_lit 199, { cls := Value.type "tuple", data := Data.seq #[] }) ::
  (nat_lit 201, { cls := Value.type "code", data := Data.fields #[Value.str (Str.ofString "ask_again") 438, Value.str (Str.ofString "Paths.ask_again") 439, Value.str (Str.ofString "/claim/cut.py") 440, Value.int 125 0, Value.int 1 0, Value.int 0 0, Value.int 0 0, Value.int 3 0, Value.ref 196, Value.bool true, Value.int 181 0, Value.ref 197, Value.none, Value.ref 198, Value.ref 199, Value.ref 200, Value.int 443 0, Value.int 125 0, Value.str (Str.ofString "/claim/cut.py") 444] }) ::
  (nat_lit 202, fnO (mth (stA 10) 9) (Str.ofString "Paths.ask_again") (Value.str (Str.ofString "quic.paths") 225) (Value.ref 201)) ::
  (nat_lit 203, { cls := Value.type "tuple", data := Data.seq #[] }) ::
  (nat_lit 205, { cls := Value.type "tuple", data := Data.seq #[Value.str (Str.ofString "self") 449, Value.str (Str.ofString "data") 450] }) ::
  (nat_lit 206, { cls := Value.type "tuple", data := Data.seq #[] }) ::
  (nat_lit 208, { cls := Value.type "code", data := Data.fields #[Value.str (Str.ofString "on_challenge_lost") 446, Value.str (Str.ofString "Paths.on_challenge_lost") 447, Value.str (Str.ofString "/claim/cut.py") 448, Value.int 129 0, Value.int 2 0, Value.int 0 0, Value.int 0 0, Value.int 3 0, Value.ref 203, Value.bool true, Value.int 181 0, Value.ref 204, Value.none, Value.ref 205, Value.ref 206, Value.ref 207, Value.int 451 0, Value.int 129 0, Value.str (Str.ofString "/claim/cut.py") 452] }) ::
  (nat_lit 209, fnO (mth (stA 10) 10) (Str.ofString "Paths.on_challenge_lost") (Value.str (Str.ofString "quic.paths") 225) (Value.ref 208)) ::
  (nat_lit 210, { cls := Value.type "tuple", data := Data.seq #[] }) ::
  (nat_lit 212, { cls := Value.type "tuple", data := Data.seq #[Value.str (Str.ofString "self") 457, Value.str (Str.ofString "data") 458, Value.str (Str.ofString "path") 459] }) ::
  (nat_lit 213, { cls := Value.type "tuple", data := Data.seq #[] }) ::
  (nat_lit 215, { cls := Value.type "code", data := Data.fields #[Value.str (Str.ofString "take_response") 454, Value.str (Str.ofString "Paths.take_response") 455, Value.str (Str.ofString "/claim/cut.py") 456, Value.int 132 0, Value.int 2 0, Value.int 0 0, Value.int 0 0, Value.int 3 0, Value.ref 210, Value.bool true, Value.int 181 0, Value.ref 211, Value.none, Value.ref 212, Value.ref 213, Value.ref 214, Value.int 460 0, Value.int 132 0, Value.str (Str.ofString "/claim/cut.py") 461] }) ::
  (nat_lit 216, fnO (mth (stA 10) 11) (Str.ofString "Paths.take_response") (Value.str (Str.ofString "quic.paths") 225) (Value.ref 215)) ::
  (nat_lit 217, { cls := Value.type "tuple", data := Data.seq #[] }) ::
  (nat_lit 219, { cls := Value.type "tuple", data := Data.seq #[Value.str (Str.ofString "self") 466, Value.str (Str.ofString "address") 467] }) ::
  (nat_lit 220, { cls := Value.type "tuple", data := Data.seq #[] }) ::
  (nat_lit 222, { cls := Value.type "code", data := Data.fields #[Value.str (Str.ofString "on_handshake_packet") 463, Value.str (Str.ofString "Paths.on_handshake_packet") 464, Value.str (Str.ofString "/claim/cut.py") 465, Value.int 141 0, Value.int 2 0, Value.int 0 0, Value.int 0 0, Value.int 3 0, Value.ref 217, Value.bool true, Value.int 181 0, Value.ref 218, Value.none, Value.ref 219, Value.ref 220, Value.ref 221, Value.int 468 0, Value.int 141 0, Value.str (Str.ofString "/claim/cut.py") 469] }) ::
  (nat_lit 223, fnO (mth (stA 10) 12) (Str.ofString "Paths.on_handshake_packet") (Value.str (Str.ofString "quic.paths") 225) (Value.ref 222)) ::
  (nat_lit 224, { cls := Value.type "tuple", data := Data.seq #[] }) ::
  (nat_lit 227, { cls := Value.type "code", data := Data.fields #[Value.str (Str.ofString "next_time") 471, Value.str (Str.ofString "Paths.next_time") 472, Value.str (Str.ofString "/claim/cut.py") 473, Value.int 144 0, Value.int 1 0, Value.int 0 0, Value.int 0 0, Value.int 3 0, Value.ref 224, Value.bool true, Value.int 181 0, Value.ref 225, Value.none, Value.none, Value.none, Value.ref 226, Value.int 474 0, Value.int 144 0, Value.str (Str.ofString "/claim/cut.py") 475] }) ::
  (nat_lit 228, fnO (mth (stA 10) 13) (Str.ofString "Paths.next_time") (Value.str (Str.ofString "quic.paths") 225) (Value.ref 227)) ::
  (nat_lit 229, { cls := Value.type "tuple", data := Data.seq #[] }) ::
  (nat_lit 232, { cls := Value.type "code", data := Data.fields #[Value.str (Str.ofString "on_time") 477, Value.str (Str.ofString "Paths.on_time") 478, Value.str (Str.ofString "/claim/cut.py") 479, Value.int 148 0, Value.int 2 0, Value.int 0 0, Value.int 0 0, Value.int 3 0, Value.ref 229, Value.bool true, Value.int 181 0, Value.ref 230, Value.none, Value.none, Value.none, Value.ref 231, Value.int 480 0, Value.int 148 0, Value.str (Str.ofString "/claim/cut.py") 481] }) ::
  (nat_lit 233, fnO (mth (stA 10) 14) (Str.ofString "Paths.on_time") (Value.str (Str.ofString "quic.paths") 225) (Value.ref 232)) ::
  (nat_lit 234, { cls := Value.type "tuple", data := Data.seq #[Value.str (Str.ofString "active") 483, Value.str (Str.ofString "answers") 484, Value.str (Str.ofString "highest") 485, Value.str (Str.ofString "known") 486, Value.str (Str.ofString "last_proven") 487, Value.str (Str.ofString "may_move") 488, Value.str (Str.ofString "role") 489] }) ::
  (nat_lit 235, { cls := Value.type "dict", data := Data.dict #[{ hash := PyData.keyHash P (Str.ofString "__module__"), key := Value.str (Str.ofString "__module__") 350, val := Value.str (Str.ofString "quic.paths") 225 }, { hash := PyData.keyHash P (Str.ofString "__firstlineno__"), key := Value.str (Str.ofString "__firstlineno__") 354, val := Value.int 69 353 }, { hash := PyData.keyHash P (Str.ofString "__init__"), key := Value.str (Str.ofString "__init__") 365, val := Value.ref 139 }, { hash := PyData.keyHash P (Str.ofString "path_of"), key := Value.str (Str.ofString "path_of") 374, val := Value.ref 146 }, { hash := PyData.keyHash P (Str.ofString "opened"), key := Value.str (Str.ofString "opened") 383, val := Value.ref 153 }, { hash := PyData.keyHash P (Str.ofString "on_datagram"), key := Value.str (Str.ofString "on_datagram") 393, val := Value.ref 160 }, { hash := PyData.keyHash P (Str.ofString "on_packet"), key := Value.str (Str.ofString "on_packet") 405, val := Value.ref 167 }, { hash := PyData.keyHash P (Str.ofString "move_to"), key := Value.str (Str.ofString "move_to") 413, val := Value.ref 174 }, { hash := PyData.keyHash P (Str.ofString "take_challenge"), key := Value.str (Str.ofString "take_challenge") 422, val := Value.ref 181 }, { hash := PyData.keyHash P (Str.ofString "next_answer"), key := Value.str (Str.ofString "next_answer") 429, val := Value.ref 188 }, { hash := PyData.keyHash P (Str.ofString "wants_challenge"), key := Value.str (Str.ofString "wants_challenge") 437, val := Value.ref 195 }, { hash := PyData.keyHash P (Str.ofString "ask_again"), key := Value.str (Str.ofString "ask_again") 445, val := Value.ref 202 }, { hash := PyData.keyHash P (Str.ofString "on_challenge_lost"), key := Value.str (Str.ofString "on_challenge_lost") 453, val := Value.ref 209 }, { hash := PyData.keyHash P (Str.ofString "take_response"), key := Value.str (Str.ofString "take_response") 462, val := Value.ref 216 }, { hash := PyData.keyHash P (Str.ofString "on_handshake_packet"), key := Value.str (Str.ofString "on_handshake_packet") 470, val := Value.ref 223 }, { hash := PyData.keyHash P (Str.ofString "next_time"), key := Value.str (Str.ofString "next_time") 476, val := Value.ref 228 }, { hash := PyData.keyHash P (Str.ofString "on_time"), key := Value.str (Str.ofString "on_time") 482, val := Value.ref 233 }, { hash := PyData.keyHash P (Str.ofString "__static_attributes__"), key := Value.str (Str.ofString "__static_attributes__") 490, val := Value.ref 234 }, { hash := PyData.keyHash P (Str.ofString "__dict__"), key := Value.str (Str.ofString "__dict__") 492, val := Value.ref 237 }, { hash := PyData.keyHash P (Str.ofString "__weakref__"), key := Value.str (Str.ofString "__weakref__") 494, val := Value.ref 238 }, { hash := PyData.keyHash P (Str.ofString "__doc__"), key := Value.str (Str.ofString "__doc__") 495, val := Value.none }] 4 }) ::
  (nat_lit 236, { cls := Value.type "type", data := Data.cls { name := Str.ofString "Paths", bases := [Value.type "object"], mro := [Value.ref 236, Value.type "object"], ns := 235, qualname := Str.ofString "Paths" }, slots := #[none, none, some (Value.str (Str.ofString "Paths") 343), some (Value.str (Str.ofString "Paths") 351), some (Value.builtin "object.__new__"), some (Value.bool true)] }) ::
  (nat_lit 237, { cls := Value.type "getset_descriptor", data := Data.fields #[Value.str (Str.ofString "__dict__") 491, Value.ref 236, Value.builtin "function.__dict__", Value.builtin "function.__dict__#set"] }) ::
  (nat_lit 238, { cls := Value.type "getset_descriptor", data := Data.fields #[Value.str (Str.ofString "__weakref__") 493, Value.ref 236, Value.builtin "ExceptionGroup.__weakref__", Value.none] }) ::
  (nat_lit 241, { cls := Value.type "tuple", data := Data.seq #[] }) ::
  (nat_lit 243, { cls := Value.type "tuple", data := Data.seq #[] }) ::
  (nat_lit 244, { cls := Value.type "tuple", data := Data.seq #[] }) ::
  (nat_lit 246, { cls := Value.type "code", data := Data.fields #[Value.str (Str.ofString "_law_places") 500, Value.str (Str.ofString "_law_places") 501, Value.str (Str.ofString "/claim/cut.py") 502, Value.int 163 0, Value.int 0 0, Value.int 0 0, Value.int 0 0, Value.int 3 0, Value.ref 241, Value.bool true, Value.int 181 0, Value.ref 242, Value.none, Value.ref 243, Value.ref 244, Value.ref 245, Value.int 503 0, Value.int 163 0, Value.str (Str.ofString "/claim/cut.py") 504] }) ::
  (nat_lit 247, fnO (stA 12) (Str.ofString "_law_places") (Value.str (Str.ofString "law_sj0113_01") 498) (Value.ref 246)) ::
  (nat_lit 248, { cls := Value.type "tuple", data := Data.seq #[] }) ::
  (nat_lit 250, { cls := Value.type "tuple", data := Data.seq #[Value.str (Str.ofString "box") 509, Value.str (Str.ofString "many") 510] }) ::
  (nat_lit 251, { cls := Value.type "tuple", data := Data.seq #[] }) ::
  (nat_lit 253, { cls := Value.type "code", data := Data.fields #[Value.str (Str.ofString "_law_take") 506, Value.str (Str.ofString "_law_take") 507, Value.str (Str.ofString "/claim/cut.py") 508, Value.int 165 0, Value.int 2 0, Value.int 0 0, Value.int 0 0, Value.int 3 0, Value.ref 248, Value.bool true, Value.int 181 0, Value.ref 249, Value.none, Value.ref 250, Value.ref 251, Value.ref 252, Value.int 511 0, Value.int 165 0, Value.str (Str.ofString "/claim/cut.py") 512] }) ::
  (nat_lit 254, fnO (stA 13) (Str.ofString "_law_take") (Value.str (Str.ofString "law_sj0113_01") 498) (Value.ref 253)) ::
  (nat_lit 255, { cls := Value.type "tuple", data := Data.seq #[] }) ::
  (nat_lit 257, { cls := Value.type "tuple", data := Data.seq #[Value.str (Str.ofString "some") 517, Value.str (Str.ofString "pick") 518, Value.str (Str.ofString "at") 519, Value.str (Str.ofString "found") 520] }) ::
  (nat_lit 258, { cls := Value.type "tuple", data := Data.seq #[] }) ::
  (nat_lit 260, { cls := Value.type "code", data := Data.fields #[Value.str (Str.ofString "_law_fate") 514, Value.str (Str.ofString "_law_fate") 515, Value.str (Str.ofString "/claim/cut.py") 516, Value.int 170 0, Value.int 2 0, Value.int 0 0, Value.int 0 0, Value.int 3 0, Value.ref 255, Value.bool true, Value.int 181 0, Value.ref 256, Value.none, Value.ref 257, Value.ref 258, Value.ref 259, Value.int 521 0, Value.int 170 0, Value.str (Str.ofString "/claim/cut.py") 522] }) ::
  (nat_lit 261, fnO (stA 14) (Str.ofString "_law_fate") (Value.str (Str.ofString "law_sj0113_01") 498) (Value.ref 260)) ::
  (nat_lit 262, { cls := Value.type "tuple", data := Data.seq #[] }) ::
  (nat_lit 265, { cls := Value.type "code", data := Data.fields #[Value.str (Str.ofString "_law_shape") 524, Value.str (Str.ofString "_law_shape") 525, Value.str (Str.ofString "/claim/cut.py") 526, Value.int 176 0, Value.int 1 0, Value.int 0 0, Value.int 0 0, Value.int 3 0, Value.ref 262, Value.bool true, Value.int 181 0, Value.ref 263, Value.none, Value.none, Value.none, Value.ref 264, Value.int 527 0, Value.int 176 0, Value.str (Str.ofString "/claim/cut.py") 528] }) ::
  (nat_lit 266, fnO (stA 15) (Str.ofString "_law_shape") (Value.str (Str.ofString "law_sj0113_01") 498) (Value.ref 265)) ::
  (nat_lit 267, { cls := Value.type "tuple", data := Data.seq #[] }) ::
  (nat_lit 269, { cls := Value.type "tuple", data := Data.seq #[Value.str (Str.ofString "net") 533, Value.str (Str.ofString "place") 534] }) ::
  (nat_lit 270, { cls := Value.type "tuple", data := Data.seq #[] }) ::
  (nat_lit 272, { cls := Value.type "code", data := Data.fields #[Value.str (Str.ofString "_law_ended") 530, Value.str (Str.ofString "_law_ended") 531, Value.str (Str.ofString "/claim/cut.py") 532, Value.int 179 0, Value.int 2 0, Value.int 0 0, Value.int 0 0, Value.int 3 0, Value.ref 267, Value.bool true, Value.int 181 0, Value.ref 268, Value.none, Value.ref 269, Value.ref 270, Value.ref 271, Value.int 535 0, Value.int 179 0, Value.str (Str.ofString "/claim/cut.py") 536] }) ::
  (nat_lit 273, fnO (stA 16) (Str.ofString "_law_ended") (Value.str (Str.ofString "law_sj0113_01") 498) (Value.ref 272)) ::
  (nat_lit 274, { cls := Value.type "tuple", data := Data.seq #[] }) ::
  (nat_lit 276, { cls := Value.type "tuple", data := Data.seq #[Value.str (Str.ofString "net") 541, Value.str (Str.ofString "client") 542, Value.str (Str.ofString "pick") 543, Value.str (Str.ofString "found") 544] }) ::
  (nat_lit 277, { cls := Value.type "tuple", data := Data.seq #[] }) ::
  (nat_lit 279, { cls := Value.type "code", data := Data.fields #[Value.str (Str.ofString "_law_challenge_comes") 538, Value.str (Str.ofString "_law_challenge_comes") 539, Value.str (Str.ofString "/claim/cut.py") 540, Value.int 182 0, Value.int 3 0, Value.int 0 0, Value.int 0 0, Value.int 3 0, Value.ref 274, Value.bool true, Value.int 181 0, Value.ref 275, Value.none, Value.ref 276, Value.ref 277, Value.ref 278, Value.int 545 0, Value.int 182 0, Value.str (Str.ofString "/claim/cut.py") 546] }) ::
  (nat_lit 280, fnO (stA 17) (Str.ofString "_law_challenge_comes") (Value.str (Str.ofString "law_sj0113_01") 498) (Value.ref 279)) ::
  (nat_lit 281, { cls := Value.type "tuple", data := Data.seq #[] }) ::
  (nat_lit 284, { cls := Value.type "code", data := Data.fields #[Value.str (Str.ofString "_law_answer_comes") 548, Value.str (Str.ofString "_law_answer_comes") 549, Value.str (Str.ofString "/claim/cut.py") 550, Value.int 189 0, Value.int 3 0, Value.int 0 0, Value.int 0 0, Value.int 3 0, Value.ref 281, Value.bool true, Value.int 181 0, Value.ref 282, Value.none, Value.none, Value.none, Value.ref 283, Value.int 551 0, Value.int 189 0, Value.str (Str.ofString "/claim/cut.py") 552] }) ::
  (nat_lit 285, fnO (stA 18) (Str.ofString "_law_answer_comes") (Value.str (Str.ofString "law_sj0113_01") 498) (Value.ref 284)) ::
  (nat_lit 286, { cls := Value.type "tuple", data := Data.seq #[] }) ::
  (nat_lit 288, { cls := Value.type "tuple", data := Data.seq #[Value.str (Str.ofString "net") 557, Value.str (Str.ofString "paths") 558, Value.str (Str.ofString "wait") 559, Value.str (Str.ofString "place") 560, Value.str (Str.ofString "told") 561, Value.str (Str.ofString "due") 562] }) ::
  (nat_lit 289, { cls := Value.type "tuple", data := Data.seq #[] }) ::
  (nat_lit 291, { cls := Value.type "code", data := Data.fields #[Value.str (Str.ofString "_law_passes") 554, Value.str (Str.ofString "_law_passes") 555, Value.str (Str.ofString "/claim/cut.py") 556, Value.int 200 0, Value.int 3 0, Value.int 0 0, Value.int 0 0, Value.int 3 0, Value.ref 286, Value.bool true, Value.int 181 0, Value.ref 287, Value.none, Value.ref 288, Value.ref 289, Value.ref 290, Value.int 563 0, Value.int 200 0, Value.str (Str.ofString "/claim/cut.py") 564] }) ::
  (nat_lit 292, fnO (stA 19) (Str.ofString "_law_passes") (Value.str (Str.ofString "law_sj0113_01") 498) (Value.ref 291)) ::
  (nat_lit 293, { cls := Value.type "tuple", data := Data.seq #[] }) ::
  (nat_lit 295, { cls := Value.type "tuple", data := Data.seq #[Value.str (Str.ofString "net") 569, Value.str (Str.ofString "paths") 570, Value.str (Str.ofString "path") 571, Value.str (Str.ofString "place") 572, Value.str (Str.ofString "data") 573] }) ::
  (nat_lit 296, { cls := Value.type "tuple", data := Data.seq #[] }) ::
  (nat_lit 298, { cls := Value.type "code", data := Data.fields #[Value.str (Str.ofString "_law_asks") 566, Value.str (Str.ofString "_law_asks") 567, Value.str (Str.ofString "/claim/cut.py") 568, Value.int 212 0, Value.int 2 0, Value.int 0 0, Value.int 0 0, Value.int 3 0, Value.ref 293, Value.bool true, Value.int 181 0, Value.ref 294, Value.none, Value.ref 295, Value.ref 296, Value.ref 297, Value.int 574 0, Value.int 212 0, Value.str (Str.ofString "/claim/cut.py") 575] }) ::
  (nat_lit 299, fnO (stA 20) (Str.ofString "_law_asks") (Value.str (Str.ofString "law_sj0113_01") 498) (Value.ref 298)) ::
  (nat_lit 300, { cls := Value.type "tuple", data := Data.seq #[] }) ::
  (nat_lit 303, { cls := Value.type "code", data := Data.fields #[Value.str (Str.ofString "_law_moves") 577, Value.str (Str.ofString "_law_moves") 578, Value.str (Str.ofString "/claim/cut.py") 579, Value.int 225 0, Value.int 3 0, Value.int 0 0, Value.int 0 0, Value.int 3 0, Value.ref 300, Value.bool true, Value.int 181 0, Value.ref 301, Value.none, Value.none, Value.none, Value.ref 302, Value.int 580 0, Value.int 225 0, Value.str (Str.ofString "/claim/cut.py") 581] }) ::
  (nat_lit 304, fnO (stA 21) (Str.ofString "_law_moves") (Value.str (Str.ofString "law_sj0113_01") 498) (Value.ref 303)) ::
  (nat_lit 305, { cls := Value.type "tuple", data := Data.seq #[] }) ::
  (nat_lit 307, { cls := Value.type "tuple", data := Data.seq #[Value.str (Str.ofString "net") 586, Value.str (Str.ofString "paths") 587, Value.str (Str.ofString "pick") 588, Value.str (Str.ofString "some") 589, Value.str (Str.ofString "ahead") 590] }) ::
  (nat_lit 308, { cls := Value.type "tuple", data := Data.seq #[] }) ::
  (nat_lit 310, { cls := Value.type "code", data := Data.fields #[Value.str (Str.ofString "_law_lies") 583, Value.str (Str.ofString "_law_lies") 584, Value.str (Str.ofString "/claim/cut.py") 585, Value.int 233 0, Value.int 3 0, Value.int 0 0, Value.int 0 0, Value.int 3 0, Value.ref 305, Value.bool true, Value.int 181 0, Value.ref 306, Value.none, Value.ref 307, Value.ref 308, Value.ref 309, Value.int 591 0, Value.int 233 0, Value.str (Str.ofString "/claim/cut.py") 592] }) ::
  (nat_lit 311, fnO (stA 22) (Str.ofString "_law_lies") (Value.str (Str.ofString "law_sj0113_01") 498) (Value.ref 310)) ::
  (nat_lit 312, { cls := Value.type "tuple", data := Data.seq #[] }) ::
  (nat_lit 314, { cls := Value.type "tuple", data := Data.seq #[Value.str (Str.ofString "net") 597, Value.str (Str.ofString "paths") 598, Value.str (Str.ofString "client") 599, Value.str (Str.ofString "form") 600, Value.str (Str.ofString "pick") 601] }) ::
  (nat_lit 315, { cls := Value.type "tuple", data := Data.seq #[] }) ::
  (nat_lit 317, { cls := Value.type "code", data := Data.fields #[Value.str (Str.ofString "_law_deed") 594, Value.str (Str.ofString "_law_deed") 595, Value.str (Str.ofString "/claim/cut.py") 596, Value.int 237 0, Value.int 5 0, Value.int 0 0, Value.int 0 0, Value.int 3 0, Value.ref 312, Value.bool true, Value.int 181 0, Value.ref 313, Value.none, Value.ref 314, Value.ref 315, Value.ref 316, Value.int 602 0, Value.int 237 0, Value.str (Str.ofString "/claim/cut.py") 603] }) ::
  (nat_lit 318, fnO (stA 23) (Str.ofString "_law_deed") (Value.str (Str.ofString "law_sj0113_01") 498) (Value.ref 317)) ::
  (nat_lit 319, { cls := Value.type "tuple", data := Data.seq #[] }) ::
  (nat_lit 322, { cls := Value.type "code", data := Data.fields #[Value.str (Str.ofString "_law_stands") 605, Value.str (Str.ofString "_law_stands") 606, Value.str (Str.ofString "/claim/cut.py") 607, Value.int 249 0, Value.int 2 0, Value.int 0 0, Value.int 0 0, Value.int 3 0, Value.ref 319, Value.bool true, Value.int 181 0, Value.ref 320, Value.none, Value.none, Value.none, Value.ref 321, Value.int 608 0, Value.int 249 0, Value.str (Str.ofString "/claim/cut.py") 609] }) ::
  (nat_lit 323, fnO (stA 24) (Str.ofString "_law_stands") (Value.str (Str.ofString "law_sj0113_01") 498) (Value.ref 322)) ::
  (nat_lit 324, { cls := Value.type "tuple", data := Data.seq #[] }) ::
  (nat_lit 326, { cls := Value.type "tuple", data := Data.seq #[Value.str (Str.ofString "net") 614, Value.str (Str.ofString "paths") 615, Value.str (Str.ofString "client") 616] }) ::
  (nat_lit 327, { cls := Value.type "tuple", data := Data.seq #[] }) ::
  (nat_lit 329, { cls := Value.type "code", data := Data.fields #[Value.str (Str.ofString "_law_all_come") 611, Value.str (Str.ofString "_law_all_come") 612, Value.str (Str.ofString "/claim/cut.py") 613, Value.int 257 0, Value.int 3 0, Value.int 0 0, Value.int 0 0, Value.int 3 0, Value.ref 324, Value.bool true, Value.int 181 0, Value.ref 325, Value.none, Value.ref 326, Value.ref 327, Value.ref 328, Value.int 617 0, Value.int 257 0, Value.str (Str.ofString "/claim/cut.py") 618] }) ::
  (nat_lit 330, fnO (stA 25) (Str.ofString "_law_all_come") (Value.str (Str.ofString "law_sj0113_01") 498) (Value.ref 329)) ::
  (nat_lit 331, { cls := Value.type "tuple", data := Data.seq #[] }) ::
  (nat_lit 333, { cls := Value.type "tuple", data := Data.seq #[Value.str (Str.ofString "script") 623, Value.str (Str.ofString "box") 624, Value.str (Str.ofString "bits") 625, Value.str (Str.ofString "is_proven") 626, Value.str (Str.ofString "paths") 627, Value.str (Str.ofString "client") 628, Value.str (Str.ofString "net") 629, Value.str (Str.ofString "turn") 630, Value.str (Str.ofString "form") 631, Value.str (Str.ofString "here") 632] }) ::
  (nat_lit 334, { cls := Value.type "tuple", data := Data.seq #[] }) ::
  (nat_lit 336, { cls := Value.type "code", data := Data.fields #[Value.str (Str.ofString "law") 620, Value.str (Str.ofString "law") 621, Value.str (Str.ofString "/claim/cut.py") 622, Value.int 265 0, Value.int 1 0, Value.int 0 0, Value.int 0 0, Value.int 3 0, Value.ref 331, Value.bool true, Value.int 181 0, Value.ref 332, Value.none, Value.ref 333, Value.ref 334, Value.ref 335, Value.int 633 0, Value.int 265 0, Value.str (Str.ofString "/claim/cut.py") 634] }) ::
  (nat_lit 337, fnO (stA 26) (Str.ofString "law") (Value.str (Str.ofString "law_sj0113_01") 498) (Value.ref 336)) :: []
noncomputable abbrev hd.view_39 : Program := view PySem.Challenge.pw_sj0113_01 [0, 2, 4, 5, 6, 7, 8, 9, 10, 12, 13, 14, 15, 16, 17, 18, 19, 20, 21, 22, 23, 24, 25, 26]
-- the two facts that the kit's k_qdec would look for: by the kit's own quick forms, so that no quick form of the whole program is laid in this file
theorem hd.ok1 : namesOk hd.view_39 (looseW hd.view_39 []) (namesW hd.view_39 []) = true := by
  rw [PySem.W.Fast.te17448422675489707002, PySem.W.Fast.te821141287760084731]
  decide +kernel
theorem hd.ok2 : importsNone hd.view_39 = true := by
  rw [PySem.W.Fast.te2458874890965802552]
  decide +kernel
noncomputable def hd.addrs : List Nat := [nat_lit 2, nat_lit 3, nat_lit 15, nat_lit 17, nat_lit 18, nat_lit 20, nat_lit 21, nat_lit 22, nat_lit 29, nat_lit 31, nat_lit 32, nat_lit 34, nat_lit 35, nat_lit 36, nat_lit 37, nat_lit 38, nat_lit 39, nat_lit 49, nat_lit 51, nat_lit 52, nat_lit 54, nat_lit 55, nat_lit 56, nat_lit 58, nat_lit 59, nat_lit 61, nat_lit 62, nat_lit 63, nat_lit 65, nat_lit 66, nat_lit 68, nat_lit 69, nat_lit 70, nat_lit 72, nat_lit 73, nat_lit 75, nat_lit 76, nat_lit 77, nat_lit 79, nat_lit 80, nat_lit 82, nat_lit 83, nat_lit 84, nat_lit 86, nat_lit 87, nat_lit 89, nat_lit 90, nat_lit 91, nat_lit 93, nat_lit 94, nat_lit 96, nat_lit 97, nat_lit 98, nat_lit 100, nat_lit 101, nat_lit 103, nat_lit 104, nat_lit 105, nat_lit 107, nat_lit 108, nat_lit 110, nat_lit 111, nat_lit 112, nat_lit 114, nat_lit 115, nat_lit 117, nat_lit 118, nat_lit 119, nat_lit 120, nat_lit 121, nat_lit 122, nat_lit 123, nat_lit 133, nat_lit 135, nat_lit 136, nat_lit 138, nat_lit 139, nat_lit 140, nat_lit 142, nat_lit 143, nat_lit 145, nat_lit 146, nat_lit 147, nat_lit 149, nat_lit 150, nat_lit 152, nat_lit 153, nat_lit 154, nat_lit 156, nat_lit 157, nat_lit 159, nat_lit 160, nat_lit 161, nat_lit 163, nat_lit 164, nat_lit 166, nat_lit 167, nat_lit 168, nat_lit 170, nat_lit 171, nat_lit 173, nat_lit 174, nat_lit 175, nat_lit 177, nat_lit 178, nat_lit 180, nat_lit 181, nat_lit 182, nat_lit 184, nat_lit 185, nat_lit 187, nat_lit 188, nat_lit 189, nat_lit 191, nat_lit 192, nat_lit 194, nat_lit 195, nat_lit 196, nat_lit 198, nat_lit 199, nat_lit 201, nat_lit 202, nat_lit 203, nat_lit 205, nat_lit 206, nat_lit 208, nat_lit 209, nat_lit 210, nat_lit 212, nat_lit 213, nat_lit 215, nat_lit 216, nat_lit 217, nat_lit 219, nat_lit 220, nat_lit 222, nat_lit 223, nat_lit 224, nat_lit 227, nat_lit 228, nat_lit 229, nat_lit 232, nat_lit 233, nat_lit 234, nat_lit 235, nat_lit 236, nat_lit 237, nat_lit 238, nat_lit 241, nat_lit 243, nat_lit 244, nat_lit 246, nat_lit 247, nat_lit 248, nat_lit 250, nat_lit 251, nat_lit 253, nat_lit 254, nat_lit 255, nat_lit 257, nat_lit 258, nat_lit 260, nat_lit 261, nat_lit 262, nat_lit 265, nat_lit 266, nat_lit 267, nat_lit 269, nat_lit 270, nat_lit 272, nat_lit 273, nat_lit 274, nat_lit 276, nat_lit 277, nat_lit 279, nat_lit 280, nat_lit 281, nat_lit 284, nat_lit 285, nat_lit 286, nat_lit 288, nat_lit 289, nat_lit 291, nat_lit 292, nat_lit 293, nat_lit 295, nat_lit 296, nat_lit 298, nat_lit 299, nat_lit 300, nat_lit 303, nat_lit 304, nat_lit 305, nat_lit 307, nat_lit 308, nat_lit 310, nat_lit 311, nat_lit 312, nat_lit 314, nat_lit 315, nat_lit 317, nat_lit 318, nat_lit 319, nat_lit 322, nat_lit 323, nat_lit 324, nat_lit 326, nat_lit 327, nat_lit 329, nat_lit 330, nat_lit 331, nat_lit 333, nat_lit 334, nat_lit 336, nat_lit 337]
theorem hd.addrs_is (P : Params) : hd.addrs = (hd.heap_39 P).map (·.1) := by kernel_rfl
theorem LeftO.of_boot {p q : Program} {loose : List Str} {Xt : Shared → Bool} {α : Type} {Yf : Shared → α} {Ya : World → α} {N : Nat} {g0 : Bool} {H₀ : Params → Heap} {gs₀ : Array GenState} {d₀ : Drawn} {k₀ : Nat}
    (open_ : ∀ w : World, (fencedOpening treeTable p w N).map (fun s => (s.heap, s.gens, s.drawn, s.toks)) = some (H₀ w.params, gs₀, d₀, k₀))
    (h : ∀ (w : World) (os : OsState), (topFrom treeTable p w N ⟨H₀ w.params, gs₀, d₀, k₀, os⟩).map (fun s => (openSeen q loose (importedModules p.main.body) Xt g0 s, Yf s)) = some (openGood q loose, Ya w)) : LeftO p q loose Xt Yf Ya N g0 := fun w => by
  obtain ⟨⟨h', gs, d, k, os⟩, e, e'⟩ := Option.map_eq_some_iff.mp (open_ w)
  obtain ⟨rfl, rfl, rfl, rfl⟩ : h' = H₀ w.params ∧ gs = gs₀ ∧ d = d₀ ∧ k = k₀ := by simpa using e'
  unfold openEnds
  rw [e]
  exact h w os
noncomputable abbrev hd.hook : Hook := kHook hd.heap_39 hd.addrs hd.addrs_is
theorem hd.boot : ∀ w : World, (fencedOpening treeTable PySem.Challenge.pw_sj0113_01 w 4090).map (fun s => (s.heap, s.gens, s.drawn, s.toks)) = some (boot_heap w.params, Array.mk [], boot_drawn, boot_toks) :=
  boot_open (by kernel_rfl) (by decide) (fun s => by kernel_rfl)
-- the run of the top on the kit's tree heaps (stepT, SharedT): a third of the plain run's work in the kernel
noncomputable def runT (st : SharedT → Thread → Option (SharedT × Thread)) (ok : Thread → Bool) : Nat → SharedT → Thread → Option SharedT
  | 0, _, _ => none
  | n + 1, s, t => match through t with
    | true => some s
    | false => match ok t with
      | false => none
      | true => match st s t with
        | none => none
        | some r => runT st ok n r.1 r.2
theorem runT_of {tb : String → Option Builtin} {p : Program} {w : World} {n₀ : Nat} {ann : Option Value} : ∀ (n : Nat) (s s' : SharedT) (t : Thread), runT (stepT (denote tb) p w) (stepOk n₀ ann) n s t = some s' → topRun tb p w n₀ ann n s.abs t = some s'.abs
  | 0, _, _, _, h => nomatch (h : none = some _)
  | n + 1, s, s', t, h => by
    rw [runT] at h
    rw [topRun]
    generalize through t = a at h ⊢
    cases a
    · generalize stepOk n₀ ann t = b at h ⊢
      cases b
      · exact nomatch (h : none = some _)
      · cases e : stepT (denote tb) p w s t with
        | none => rw [e] at h; exact nomatch (h : none = some _)
        | some r => rw [e] at h; rw [show step (denote tb) p w s.abs t = .go r.1.abs r.2 from stepT_spec e]; exact runT_of n r.1 s' r.2 h
    · exact congrArg (Option.map SharedT.abs) h
theorem topFrom_of {tb : String → Option Builtin} {p : Program} {w : World} {N : Nat} {s : SharedT} {s₀ : Shared} {α : Type} {f : Shared → α} {v : α} (e : s.abs = s₀) (h0 : (s₀.heap.isNs mainGlobals && s₀.gens.size == 0) = true)
    (h : (runT (stepT (denote tb) p w) (stepOk s₀.heap.objs.size (s₀.heap.nsMap mainGlobals "__annotations__")) N s (topStub p)).map (fun x => (staticsOk (importedModules p.main.body) s₀.heap x.abs.heap && namesBound p x.abs.heap && gensDone x.abs && laidKept s₀.heap x.abs.heap, f x.abs)) = some (true, v)) :
    (topFrom tb p w N s₀).map f = some v := by
  obtain ⟨x, hx, hv⟩ := Option.map_eq_some_iff.mp h
  have hr := runT_of N s x _ hx
  rw [e] at hr
  unfold topFrom
  rw [h0]
  show Option.map f ((topRun _ _ _ _ _ _ _ _).bind _) = _
  rw [hr, ← (Prod.mk.inj hv).2]
  show Option.map f (match _ with | true => some x.abs | false => none) = _
  rw [(Prod.mk.inj hv).1]
  rfl
noncomputable def hd.T0 (w : World) (os : OsState) : SharedT := ⟨((boot_heap w.params).objs.toList.foldl (fun q o => (q.1.ins q.2 o, q.2 + 1)) (BT.nil, 0)).1, 11, (boot_heap w.params).life, Array.mk [], boot_drawn, boot_toks, os⟩
theorem hd.run (w : World) (os : OsState) : (topFrom treeTable PySem.Challenge.pw_sj0113_01 w 4090 ⟨boot_heap w.params, Array.mk [], boot_drawn, boot_toks, os⟩).map (fun s => (openSeen hd.view_39 [] (importedModules PySem.Challenge.pw_sj0113_01.main.body) (fun s => xlAt hd.view_39 [] s && recOk (RowW.records PySem.Challenge.rw_sj0113_01.row.toRowW) s) true s, hd.hook.obs s)) = some (openGood hd.view_39 [], hd.hook.val w) := by
  refine topFrom_of (s := hd.T0 w os) (by kernel_rfl) (by kernel_rfl) ?_
  rw [PySem.W.Fast.te10156331382660048174, PySem.W.Fast.te11892475500146522536, PySem.W.Fast.te14364793385576792824, PySem.W.Fast.te6613529449190102663, PySem.W.Fast.te4187177175401517315, PySem.W.Fast.te5923862056798008813]
  kernel_rfl
theorem hd.left : LeftO PySem.Challenge.rw_sj0113_01.row.prog hd.view_39 [] (fun s => xlAt hd.view_39 [] s && recOk (RowW.records PySem.Challenge.rw_sj0113_01.row.toRowW) s) hd.hook.obs hd.hook.val 4090 := LeftO.of_boot hd.boot hd.run
-- conjunct by conjunct, each a small check of its own, by the quick forms of wellSaid, partSaid, looksOpen
theorem hd.said : PySem.Challenge.rw_sj0113_01.wellSaid = true := by
  rw [PySem.W.Fast.te9446332074065402090]
  delta PySem.W.Fast.tw9446332074065402090 PySem.W.Fast.tw17960256430627541270 PySem.W.Fast.tw2436336058641802641 PySem.W.Fast.tw12908688711261696721
  repeat' (with_reducible refine Bool.and_eq_true_iff.mpr ⟨?_, ?_⟩)
  all_goals decide +kernel
theorem hd {d : DefRec} {kwd : List (Str × Expr)} (hdef : defOf hd.view_39 PySem.Challenge.rw_sj0113_01.row.name = some (d, kwd)) (hp : PySem.Challenge.rw_sj0113_01.row.prog.theDef PySem.Challenge.rw_sj0113_01.row.name = some (d.params, d.body, d.scope)) (hk : kwWritten? d.params.kwonlyargs d.params.kw_defaults = some kwd)
    (walk : WalkO hd.view_39 [] (XL hd.view_39 []) hd.hook.says PySem.Challenge.rw_sj0113_01.row.toRowW d kwd fun f vs => PySem.call f vs) : PySem.Challenge.rw_sj0113_01.Holds := by
  refine holds_law hd.said fun said => ?_
  refine holds_open (q := hd.view_39) (loose := []) (Xt := fun s => xlAt hd.view_39 [] s && recOk (RowW.records PySem.Challenge.rw_sj0113_01.row.toRowW) s) (XP := XL hd.view_39 []) (Yf := Hook.obs hd.hook) (Ya := Hook.val hd.hook) (YP := Hook.says hd.hook) (N := 4090) hd.left (Hook.of hd.hook) (Hook.keeps hd.hook) (fun s e => xl_of s (Bool.and_eq_true_iff.mp e).1) XL.keeps hdef hp hk (fun s e => recFacts_of (Bool.and_eq_true_iff.mp e).2) (by rfl) said (by decide +kernel) ⟨rfl, rfl, rfl, rfl, rfl, by decide +kernel⟩ ?hw walk
  case hw => w_witness2

end
section
-- L0
theorem off_L0 : True := by w_top off; trivial
/-- what a call of f at `vs` does to a ledger -/
noncomputable def Con (w : World) (f : Addr) (dd : Nat) (news : List (Addr × Obj)) (vs : List Value) (Post : Value → List (Addr × Obj) → Prop) : Prop :=
  ∀ (mean : ExcName → Option Value) (mg mb : Str → Option Value) (dp un : Nat) (gd : Option (List Code)) (cn : Str) (cs : Scope) (a : Addr) (ccd : Value) (cl : List (Str × Addr)) (outer : List Env) (A₀ : Around) (base h₀ : Heap) (L : Addr) (m : Str → Option Value) (s : Shared) (Q E : Value → Shared → Prop),
    Below A₀ base outer h₀ → Fr h₀ L s.heap m → (hd.heap_39 w.params).In h₀ → News h₀ L s.heap news → Top hd.view_39 (looseW hd.view_39 []) mean mg mb h₀ → cs.kind = .function → dp + dd < recursionLimit → un + 8 * dd < cLine →
    (∀ v news' h' tk', Post v news' → Fr h₀ L h' m → News h₀ L h' news' → Q v { s with heap := h', toks := tk' }) →
    wpAny (model PySem.Challenge.rw_sj0113_01.row.prog w) (ktrTop dp un gd cn cs L a ccd cl outer) (call (.ref f) vs) Q E s

/-- a call at a wider ledger -/
theorem Con.conv {w : World} {f : Addr} {dd : Nat} {l l2 : List (Addr × Obj)} {vs : List Value} {Post Post2 : Value → List (Addr × Obj) → Prop} (h : Con w f dd l vs Post) (hl : ∀ p ∈ l, p ∈ l2)
    (hp : ∀ v n, Post v n → ∃ n2, (∀ p ∈ n2, p ∈ n) ∧ Post2 v n2) : Con w f dd l2 vs Post2 := by
  intro mean mg mb dp un gd cn cs a ccd cl outer A₀ base h₀ L m s Q E B F X N T hk hd hu hret
  refine h mean mg mb dp un gd cn cs a ccd cl outer A₀ base h₀ L m s Q E B F X (cb_drop N hl) T hk hd hu ?_
  intro v n h' tk' p F' N'
  obtain ⟨n2, s2, p2⟩ := hp v n p
  exact hret v n2 h' tk' p2 F' (cb_drop N' s2)

/-- no two entries of a ledger lie at one address -/
noncomputable def Sep : List (Addr × Obj) → Prop
  | [] => True
  | p :: r => (∀ q ∈ r, q.1 ≠ p.1) ∧ Sep r
theorem sep_iff : ∀ l : List (Addr × Obj), Sep l ↔ (l.map (·.1)).Nodup
  | [] => by simp [Sep]
  | p :: r => by
    rw [Sep, sep_iff r, List.map_cons, List.nodup_cons]
    constructor
    · rintro ⟨a, b⟩
      refine ⟨fun hm => ?_, b⟩
      obtain ⟨q, hq, e⟩ := List.mem_map.mp hm
      exact a q hq e
    · rintro ⟨a, b⟩
      exact ⟨fun q hq e => a (List.mem_map.mpr ⟨q, hq, e⟩), b⟩
theorem Sep.perm {l l' : List (Addr × Obj)} (h : Sep l) (p : List.Perm l l') : Sep l' := (sep_iff _).mpr ((p.map _).nodup_iff.mp ((sep_iff _).mp h))
theorem allLt_ne {d : Addr} : ∀ {l : List (Addr × Obj)}, AllLt d l → ∀ p ∈ l, p.1 ≠ d
  | [], _, _, h => nomatch h
  | _ :: _, x, p, h => by
    rcases List.mem_cons.mp h with rfl | h
    · exact Nat.ne_of_lt x.1
    · exact allLt_ne x.2 p h
theorem sub_cons {p : Addr × Obj} {l all : List (Addr × Obj)} (h : p ∈ all) (t : ∀ q ∈ l, q ∈ all) : ∀ q ∈ p :: l, q ∈ all := fun q hq => by
  rcases List.mem_cons.mp hq with rfl | hq
  · exact h
  · exact t q hq
theorem sub_rfl {l : List (Addr × Obj)} : ∀ q ∈ l, q ∈ l := fun _ h => h
theorem sub_weak {p : Addr × Obj} {l all : List (Addr × Obj)} (t : ∀ q ∈ l, q ∈ all) : ∀ q ∈ l, q ∈ p :: all := fun q hq => List.mem_cons_of_mem _ (t q hq)

noncomputable abbrev ent (w : World) (k : String) (t : Tok) (v : Value) : DictEntry := ⟨PyData.keyHash w.params (Str.ofString k), .str (Str.ofString k) t, v⟩

/-- a path's state -/
inductive PS where
  | unproven | trying | proven | failed
  deriving DecidableEq
noncomputable abbrev PS.str : PS → Str
  | .unproven => Str.ofString "unproven"
  | .trying => Str.ofString "trying"
  | .proven => Str.ofString "proven"
  | .failed => Str.ofString "failed"
noncomputable def placeStr : Nat → Str
  | 0 => Str.ofString "cafe"
  | 1 => Str.ofString "home"
  | _ => Str.ofString "train"
noncomputable def deadV : Option (Int × Tok) → Value
  | none => .none
  | some (i, t) => .int i t
noncomputable abbrev Bts := Array UInt8
noncomputable def bval (b : Bts × Tok) : Value := .bytes b.1 b.2
theorem push_bval (l : List (Bts × Tok)) (b : Bts) (t : Tok) : (l.map bval).toArray.push (.bytes b t) = ((l ++ [(b, t)]).map bval).toArray := by simp [bval]
/-- what a Path is: its plain side -/
structure P where
  place : Nat
  st : PS
  free : Bool
  recv : Int
  sent : Int
  chal : List Bts
  dead : Option Int
  wants : Bool
/-- its ghost: addresses and tokens -/
structure G where
  (x d c : Addr)
  (t0 t1 t2 t3 t4 t5 t6 t7 : Tok)
  place : Nat
  plt : Tok
  st : PS
  stt : Tok
  free : Bool
  recv : Int
  rct : Tok
  sent : Int
  snt : Tok
  chal : List (Bts × Tok)
  ep : Nat
  dead : Option (Int × Tok)
  wants : Bool
noncomputable def G.abs (g : G) : P := ⟨g.place, g.st, g.free, g.recv, g.sent, g.chal.map (·.1), g.dead.map (·.1), g.wants⟩
noncomputable abbrev G.dict (w : World) (g : G) : Obj := dictOf [ent w "address" g.t0 (.str (placeStr g.place) g.plt), ent w "state" g.t1 (.str g.st.str g.stt), ent w "is_free" g.t2 (.bool g.free), ent w "received" g.t3 (.int g.recv g.rct), ent w "sent" g.t4 (.int g.sent g.snt), ent w "challenges" g.t5 (.ref g.c), ent w "deadline" g.t6 (deadV g.dead), ent w "wants_more" g.t7 (.bool g.wants)] 8
noncomputable abbrev G.cells (w : World) (g : G) : List (Addr × Obj) := [(g.x, instObj 121 g.d), (g.d, g.dict w), (g.c, listOf (g.chal.map bval).toArray g.ep)]

noncomputable def P.challenge (p : P) (b : Bts) (e : Int) : P := if p.st = .trying then { p with chal := p.chal ++ [b], wants := false } else { p with st := .trying, chal := [b], dead := some e, wants := false }
noncomputable def P.renew (p : P) : P := if p.st = .failed then { p with st := .unproven } else p
noncomputable def P.prove (p : P) : P := { p with st := .proven, free := true, chal := [], dead := none, wants := false }
noncomputable def P.fail (p : P) : P := { p with st := .failed, free := false, sent := min p.sent (3 * p.recv), chal := [], dead := none, wants := false }
noncomputable def roomV (p : P) (t : Tok) : Value := if p.free then .none else .int (max 0 (3 * p.recv - p.sent)) t
/-- a place where the walk is to stop -/
noncomputable def Halt (X : Prop) : Prop := X
theorem halt {X : Prop} (h : Halt X) : X := h
theorem allLt_ne2 {d e : Addr} : ∀ {l : List (Addr × Obj)}, AllLt d l → d < e → ∀ p ∈ l, p.1 ≠ e
  | [], _, _, _, h => nomatch h
  | _ :: _, x, hd, p, h => by
    rcases List.mem_cons.mp h with rfl | h
    · exact Nat.ne_of_lt (Nat.lt_trans x.1 hd)
    · exact allLt_ne2 x.2 hd p h
theorem gen_toks {α : Type} {M : Model} {A : Around} {t : Sem α} {Q : α → Shared → Prop} {E : Value → Shared → Prop} {hp : Heap} {g : Array GenState} {d : Drawn} {x y : Nat} {os : OsState} (h : ∀ tk, wpAny M A t Q E ⟨hp, g, d, tk, os⟩) : wpAny M A t Q E ⟨hp, g, d, x + y, os⟩ := h _
/-- the goal put out of sight while facts are taken apart -/
theorem hide {X : Prop} (h : ∀ G : Prop, (X → G) → G) : X := h X id
/-- a ledger in blocks, and a choice of them in any order -/
noncomputable abbrev Led := List (Addr × Obj)
noncomputable def catB : List Led → Led
  | [] => []
  | [a] => a
  | a :: b :: l => a ++ catB (b :: l)
noncomputable def nthB : List Led → Nat → Led
  | [], _ => []
  | a :: _, 0 => a
  | _ :: l, n + 1 => nthB l n
noncomputable def okIx (n : Nat) : List Nat → Bool
  | [] => true
  | i :: l => Nat.blt i n && !l.contains i && okIx n l
theorem mem_catB {q : Addr × Obj} : ∀ {B : List Led}, q ∈ catB B ↔ ∃ b ∈ B, q ∈ b
  | [] => by simp [catB]
  | [a] => by simp [catB]
  | a :: b :: l => by
    rw [catB, List.mem_append, mem_catB (B := b :: l)]
    simp
theorem nthB_eq : ∀ (B : List Led) (i : Nat), nthB B i = (B[i]?).getD []
  | [], i => by simp [nthB]
  | a :: l, 0 => by simp [nthB]
  | a :: l, n + 1 => by rw [nthB, nthB_eq l n]; simp
theorem sel_sub (B : List Led) (ix : List Nat) : ∀ q ∈ catB (ix.map (nthB B)), q ∈ catB B := fun q hq => by
  obtain ⟨b, hb, hq⟩ := mem_catB.mp hq
  obtain ⟨i, _, rfl⟩ := List.mem_map.mp hb
  rw [nthB_eq] at hq
  cases h : B[i]? with
  | none => rw [h] at hq; cases hq
  | some b => rw [h] at hq; exact mem_catB.mpr ⟨b, List.mem_of_getElem? h, hq⟩
noncomputable def cntB (x : Addr) : List Led → Nat
  | [] => 0
  | a :: l => (a.map (·.1)).count x + cntB x l
theorem count_catB (x : Addr) : ∀ B : List Led, ((catB B).map (·.1)).count x = cntB x B
  | [] => rfl
  | [a] => by simp [catB, cntB]
  | a :: b :: l => by rw [catB, List.map_append, List.count_append, count_catB x (b :: l)]; rfl
theorem cntB_erase (x : Addr) : ∀ (B : List Led) (i : Nat), i < B.length → cntB x B = ((nthB B i).map (·.1)).count x + cntB x (B.set i [])
  | [], _, h => absurd h (Nat.not_lt_zero _)
  | a :: l, 0, _ => by simp [nthB, cntB]
  | a :: l, n + 1, h => by
    rw [cntB, nthB, List.set_cons_succ, cntB, cntB_erase x l n (Nat.lt_of_succ_lt_succ h)]; omega
theorem nthB_set (B : List Led) {i j : Nat} (h : i ≠ j) : nthB (B.set i []) j = nthB B j := by
  rw [nthB_eq, nthB_eq, List.getElem?_set_ne h]
theorem cntB_sel (x : Addr) : ∀ (ix : List Nat) (B : List Led), okIx B.length ix = true → cntB x (ix.map (nthB B)) ≤ cntB x B
  | [], _, _ => Nat.zero_le _
  | i :: l, B, h => by
    unfold okIx at h
    rw [Bool.and_eq_true, Bool.and_eq_true, Bool.not_eq_true'] at h
    obtain ⟨⟨h1, h2⟩, h3⟩ := h
    have hi : i < B.length := Nat.blt_eq.mp h1
    have hm : ∀ j ∈ l, nthB (B.set i []) j = nthB B j := fun j hj => nthB_set B fun e => by
      subst e
      rw [List.contains_eq_mem] at h2
      simp at h2
      exact h2 hj
    have h9 := cntB_sel x l (B.set i []) (by rw [List.length_set]; exact h3)
    rw [List.map_congr_left hm] at h9
    rw [List.map_cons, cntB, cntB_erase x B i hi]
    omega
theorem Sep.sel {B : List Led} (h : Sep (catB B)) (ix : List Nat) (hx : okIx B.length ix = true) : Sep (catB (ix.map (nthB B))) := by
  rw [sep_iff, List.nodup_iff_count] at h ⊢
  intro a
  have h9 := h a
  rw [count_catB] at h9 ⊢
  exact Nat.le_trans (cntB_sel a ix B hx) h9
/-- the addresses of a ledger: all different -/
theorem ndOf {l : Led} (h : Sep l) : (l.map (·.1)).Nodup := (sep_iff l).mp h
theorem ndT {a : Addr} {as : List Addr} (h : (a :: as).Nodup) : as.Nodup := (List.nodup_cons.mp h).2
theorem ndC {l : Addr} {news : Led} {as : List Addr} (h : ∀ p ∈ news, p.1 < l) (n : as.Nodup) (e : news.map (·.1) = as) : (l :: as).Nodup := by
  subst e
  refine List.nodup_cons.mpr ⟨fun hm => ?_, n⟩
  obtain ⟨p, hp, e⟩ := List.mem_map.mp hm
  exact Nat.lt_irrefl _ (e ▸ h p hp)
theorem nd_ne {d : Addr} {as : List Addr} {rest : Led} (h : (d :: as).Nodup) (e : rest.map (·.1) = as) : ∀ p ∈ rest, p.1 ≠ d := fun p hp x => by
  subst e
  exact (List.nodup_cons.mp h).1 (List.mem_map.mpr ⟨p, hp, x⟩)
theorem updH {d : Addr} {o : Obj} {as : List Addr} {rest : Led} (h : (d :: as).Nodup) (e : rest.map (·.1) = as) : UpdF d o ((d, o) :: rest) (fun o' => (d, o') :: rest) := .head (nd_ne h e)
theorem updF_mem {d : Addr} {o : Obj} : ∀ {l : Led} {g : Obj → Led}, UpdF d o l g → (d, o) ∈ l
  | _, _, .head _ => .head _
  | _, _, .tail _ h => .tail _ (updF_mem h)
theorem upd_mem {d : Addr} {o o' : Obj} : ∀ {l l' : Led}, Upd d o o' l l' → (d, o) ∈ l
  | _, _, .head _ => .head _
  | _, _, .tail _ h => .tail _ (upd_mem h)
theorem nd_off {a d : Addr} {o : Obj} {as : List Addr} {rest : Led} (h : (a :: as).Nodup) (e : rest.map (·.1) = as) (hm : (d, o) ∈ rest) : a ≠ d := fun x => by
  subst x
  exact nd_ne h e _ hm rfl
theorem updT {a d : Addr} {x o : Obj} {as : List Addr} {rest : Led} {g : Obj → Led} (h : (a :: as).Nodup) (e : rest.map (·.1) = as) (u : UpdF d o rest g) : UpdF d o ((a, x) :: rest) (fun o' => (a, x) :: g o') := .tail (nd_off h e (updF_mem u)) u
theorem upH {d : Addr} {o o' : Obj} {as : List Addr} {rest : Led} (h : (d :: as).Nodup) (e : rest.map (·.1) = as) : Upd d o o' ((d, o) :: rest) ((d, o') :: rest) := .head (nd_ne h e)
theorem upT {a d : Addr} {x o o' : Obj} {as : List Addr} {rest rest' : Led} (h : (a :: as).Nodup) (e : rest.map (·.1) = as) (u : Upd d o o' rest rest') : Upd d o o' ((a, x) :: rest) ((a, x) :: rest') := .tail (nd_off h e (upd_mem u)) u
/-- the first n cells of a ledger one by one, and what stands behind them in blocks -/
noncomputable def headB : Nat → Led → List Led → List Led
  | 0, _, Bs => Bs
  | _ + 1, [], Bs => Bs
  | n + 1, y :: Y, Bs => [y] :: headB n Y Bs
theorem catB_cons (a : Led) : ∀ l : List Led, catB (a :: l) = a ++ catB l
  | [] => by simp [catB]
  | _ :: _ => rfl
theorem headB_cat : ∀ (n : Nat) (Y : Led) (Bs : List Led), Y.drop n = catB Bs → catB (headB n Y Bs) = Y
  | 0, Y, Bs, h => by rw [headB, ← h, List.drop_zero]
  | n + 1, [], Bs, h => by rw [headB, ← h, List.drop_nil]
  | n + 1, y :: Y, Bs, h => by rw [headB, catB_cons, headB_cat n Y Bs (by rwa [List.drop_succ_cons] at h)]; rfl
theorem subY (Y : Led) (n : Nat) (Bs : List Led) (ix : List Nat) (e : Y.drop n = catB Bs) : ∀ q ∈ catB (ix.map (nthB (headB n Y Bs))), q ∈ Y := fun q hq => headB_cat n Y Bs e ▸ sel_sub _ ix q hq
theorem Sep.selY {Y : Led} (h : Sep Y) (n : Nat) (Bs : List Led) (ix : List Nat) (e : Y.drop n = catB Bs) (hx : okIx (headB n Y Bs).length ix = true) : Sep (catB (ix.map (nthB (headB n Y Bs)))) := Sep.sel ((headB_cat n Y Bs e).symm ▸ h) ix hx
theorem News.selY {h₀ h : Heap} {L : Addr} {Y : Led} (N : News h₀ L h Y) (n : Nat) (Bs : List Led) (ix : List Nat) (e : Y.drop n = catB Bs) : News h₀ L h (catB (ix.map (nthB (headB n Y Bs)))) := cb_drop N (subY Y n Bs ix e)
theorem ndC2 {x dx : Addr} {news : Led} {as : List Addr} (h2 : dx < x) (h : ∀ p ∈ news, p.1 < dx) (n : (dx :: as).Nodup) (e : news.map (·.1) = as) : (x :: dx :: as).Nodup := by
  subst e
  refine List.nodup_cons.mpr ⟨fun hm => ?_, n⟩
  rcases List.mem_cons.mp hm with rfl | hm
  · exact Nat.lt_irrefl _ h2
  · obtain ⟨p, hp, e⟩ := List.mem_map.mp hm
    have := h p hp
    rw [e] at this
    exact Nat.lt_irrefl _ (Nat.lt_trans this h2)
theorem sep_of_nd {l : Led} (h : (l.map (·.1)).Nodup) : Sep l := (sep_iff l).mpr h
theorem ndne {a d : Addr} {as : List Addr} (h : (a :: as).Nodup) (hm : d ∈ as) : a ≠ d := fun x => (List.nodup_cons.mp h).1 (x ▸ hm)

/-! room and units by one fact -/
theorem roomK (k : Nat) {x dep dd : Nat} (h : dep + dd < recursionLimit) (e : x = dep + k) (l : Nat.ble k dd = true) : x < recursionLimit := e ▸ Nat.lt_of_le_of_lt (Nat.add_le_add_left (Nat.le_of_ble_eq_true l) dep) h
theorem unitK (k : Nat) {x un dd : Nat} (h : un + 8 * dd < cLine) (e : x = un + k) (l : Nat.ble k (8 * dd) = true) : x < cLine := e ▸ Nat.lt_of_le_of_lt (Nat.add_le_add_left (Nat.le_of_ble_eq_true l) un) h
/-- the contracts' functions -/
noncomputable def conA : List Nat := [62, 69, 83, 97, 104, 111, 118, 146, 153, 160, 167, 195, 202, 216, 228, 233, 254, 261, 266, 273, 280, 285, 292, 299, 304, 311, 318, 323, 330, 247]
noncomputable def isCon (n : Nat) : Bool := conA.any (Nat.beq n)
theorem halt_at {M : Model} {A : Around} {n : Addr} {vs : List Value} {Q E : Value → Shared → Prop} {s : Shared} (_e : isCon n = true) (h : Halt (wpAny M A (call (.ref n) vs) Q E s)) : wpAny M A (call (.ref n) vs) Q E s := h
/-- a store at the i-th cell -/
noncomputable def setL : Nat → Led → Addr × Obj → Led
  | _, [], _ => []
  | 0, _ :: l, p => p :: l
  | i + 1, a :: l, p => a :: setL i l p
noncomputable def getL : Nat → Led → Option (Addr × Obj)
  | _, [] => none
  | 0, p :: _ => some p
  | i + 1, _ :: l => getL i l
theorem updI (i : Nat) {l : Led} {d : Addr} {o : Obj} {as : List Addr} {g : Obj → Led} (hn : as.Nodup) (e : l.map (·.1) = as) (h : getL i l = some (d, o)) (eg : ∀ o', setL i l (d, o') = g o') : UpdF d o l g := by
  rw [← funext eg]
  clear eg
  subst e
  induction l generalizing i with
  | nil => simp [getL] at h
  | cons a l ih =>
    cases i with
    | zero =>
      simp only [getL, Option.some.injEq] at h
      subst h
      exact .head (nd_ne hn rfl)
    | succ i =>
      rw [getL] at h
      have u := ih i h (ndT hn)
      exact .tail (nd_off hn rfl (updF_mem u)) u
theorem upI (i : Nat) {l l' : Led} {d : Addr} {o o' : Obj} {as : List Addr} (hn : as.Nodup) (e : l.map (·.1) = as) (h : getL i l = some (d, o)) (eg : setL i l (d, o') = l') : Upd d o o' l l' := by
  rw [← eg]
  clear eg
  subst e
  induction l generalizing i with
  | nil => simp [getL] at h
  | cons a l ih =>
    cases i with
    | zero =>
      simp only [getL, Option.some.injEq] at h
      subst h
      exact .head (nd_ne hn rfl)
    | succ i =>
      rw [getL] at h
      have u := ih i h (ndT hn)
      exact .tail (nd_off hn rfl (upd_mem u)) u

theorem hideW {α : Type} {M : Model} {A : Around} {t : Sem α} {Q : α → Shared → Prop} {E : Value → Shared → Prop} {s : Shared} (h : ∀ G : Prop, (wpAny M A t Q E s → G) → G) : wpAny M A t Q E s := h _ id
theorem subst1 {α : Type} {v V : α} {P : α → Prop} (e1 : v = V) (h : P V) : P v := by subst e1; exact h
@[elab_as_elim] theorem subst2 {α β : Type} {v V : α} {n W : β} {P : α → β → Prop} (e1 : v = V) (e2 : n = W) (h : P V W) : P v n := by subst e1; subst e2; exact h

/-- a statement's way on, named -/
theorem execs_let {M : Model} {A : Around} {env : Env} {st : Stmt} {rest : List Stmt} {Q : Flow → Shared → Prop} {E : Value → Shared → Prop} {s : Shared}
    (h : let qk : Flow → Shared → Prop := fun f s' => match f with
      | .next => wpAny M A (execs rest env) Q E s'
      | f => Q f s'
      wpAny M A (exec st env) qk E s) : wpAny M A (execs (st :: rest) env) Q E s := wpAny_execs_cons h

end
section
-- L1
theorem off_L1 : True := by w_top off; trivial
section
variable {prog : Program} {w : World} {A : Around} {E : Value → Shared → Prop} {s : Shared} {env : Env} {h₀ : Heap} {x : Str} {body : List Stmt} {Q : Flow → Shared → Prop}
theorem unrPost_mono {L : Addr} {s₁ : Shared} {I : Addr} {it : Obj} {r r' : (Str → Option Value) → List (Addr × Obj) → Prop} {f : Flow} {s₂ : Shared} (h : UnrPost h₀ L s₁ I it r Q f s₂) (hr : ∀ m n, r m n → r' m n) : UnrPost h₀ L s₁ I it r' Q f s₂ := by
  cases f with
  | ret v => exact h
  | brk => exact h
  | next => obtain ⟨h', tk, m', n', e, F', N', o, x⟩ := h; exact ⟨h', tk, m', n', e, F', N', o, hr _ _ x⟩
  | cont => obtain ⟨h', tk, m', n', e, F', N', o, x⟩ := h; exact ⟨h', tk, m', n', e, F', N', o, hr _ _ x⟩
/-- a loop over a list of the ledger, whatever its items: J i holds of the ledger ahead of turn i -/
theorem listRest_of {I : Addr} {lp : Addr × Obj} {vs : List Value} {m₀ : Str → Option Value} (J : Nat → List (Addr × Obj) → Prop)
    (turn : ∀ i v it h tk nw, vs[i]? = some v → it.cls = .type "list_iterator" → J i nw → lp ∈ nw → (∀ p ∈ nw, p.1 ≠ I) → Fr h₀ env.locals h (fun y => if y = x then some v else m₀ y) → News h₀ env.locals h ((I, it) :: nw) →
      wpAny (model prog w) A (execs body env) (UnrPost h₀ env.locals { s with heap := h, toks := tk } I it (fun m' n' => lp ∈ n' ∧ (∃ u, m' = fun y => if y = x then u else m₀ y) ∧ J (i + 1) n') Q) E { s with heap := h, toks := tk })
    (done : ∀ h tk u nw, J vs.length nw → lp ∈ nw → Fr h₀ env.locals h (fun y => if y = x then u else m₀ y) → News h₀ env.locals h nw → Q .next { s with heap := h, toks := tk })
    (news : List (Addr × Obj)) (hj : J 0 news) (hm : lp ∈ news) (hI : ∀ p ∈ news, p.1 < I) : ListRest prog w A E h₀ env x body Q s I lp vs m₀ news := by
  have key : ∀ (r : List Value) (i : Nat) (u : Option Value) (nw : List (Addr × Obj)), vs.drop i = r → i ≤ vs.length → J i nw → lp ∈ nw → (∀ p ∈ nw, p.1 ≠ I) → ListRest prog w A E h₀ env x body Q s I lp r (fun y => if y = x then u else m₀ y) nw := by
    intro r
    induction r with
    | nil =>
      intro i u nw hd hi hJ hl hI
      have e : i = vs.length := by
        have := congrArg List.length hd
        simp at this; omega
      subst e
      exact ListRest.zero fun h tk F N => done h tk u nw hJ hl F N
    | cons v r ih =>
      intro i u nw hd hi hJ hl hI
      have hlt : i < vs.length := by
        have := congrArg List.length hd
        simp at this; omega
      have hv : vs[i]? = some v := by
        have : (vs.drop i)[0]? = some v := by rw [hd]; rfl
        simpa using this
      have hr : vs.drop (i + 1) = r := by
        rw [← List.drop_drop, hd]; rfl
      refine ListRest.succ fun it h tk hc F N => ?_
      have e : (fun y => if y = x then some v else if y = x then u else m₀ y) = fun y => if y = x then some v else m₀ y := by
        funext y; by_cases hy : y = x <;> simp [hy]
      rw [e] at F
      refine wpAny_mono (turn i v it h tk nw hv hc hJ hl hI F N) (fun f s₂ hp => ?_) fun _ _ e => e
      cases f with
      | ret v => exact hp
      | brk => exact hp
      | next =>
        obtain ⟨h', tk, m', n', e, F', N', o, x1, ⟨u', rfl⟩, x3⟩ := hp
        exact ⟨h', tk, _, n', e, F', N', o, x1, ih (i + 1) u' n' hr hlt x3 x1 o⟩
      | cont =>
        obtain ⟨h', tk, m', n', e, F', N', o, x1, ⟨u', rfl⟩, x3⟩ := hp
        exact ⟨h', tk, _, n', e, F', N', o, x1, ih (i + 1) u' n' hr hlt x3 x1 o⟩
  have e0 : m₀ = fun y => if y = x then m₀ x else m₀ y := by funext y; by_cases hy : y = x <;> simp [hy]
  rw [e0]
  exact key vs 0 (m₀ x) news rfl (Nat.zero_le _) hj hm fun p hp => Nat.ne_of_lt (hI p hp)
end
/-- the ghost of a Paths: addresses, tokens -/
structure PG where
  (p dp kl al : Addr)
  (t0 t1 t2 t3 t4 t5 t6 : Tok)
  rlt : Tok
  known : List G
  kn : Nat
  ax : Addr
  last : Option Addr
  high : Int
  hit : Tok
noncomputable def lastV : Option Addr → Value
  | none => .none
  | some a => .ref a
noncomputable def xref (g : G) : Value := .ref g.x
noncomputable abbrev PG.dict (w : World) (g : PG) : Obj := dictOf [ent w "role" g.t0 (.str (Str.ofString "server") g.rlt), ent w "may_move" g.t1 (.bool true), ent w "known" g.t2 (.ref g.kl), ent w "active" g.t3 (.ref g.ax), ent w "last_proven" g.t4 (lastV g.last), ent w "highest" g.t5 (.int g.high g.hit), ent w "answers" g.t6 (.ref g.al)] 7
noncomputable abbrev PG.hdr (w : World) (g : PG) : List (Addr × Obj) := [(g.p, instObj 236 g.dp), (g.dp, g.dict w), (g.kl, listOf (g.known.map xref).toArray g.kn)]
noncomputable def flat (w : World) (gs : List G) : List (Addr × Obj) := gs.flatMap (G.cells w)
theorem flat_mid (w : World) (pre post : List G) (g : G) : flat w (pre ++ g :: post) = flat w pre ++ (g.cells w ++ flat w post) := by simp [flat]
theorem placeStr_beq {a b : Nat} (ha : a < 3) (hb : b < 3) : (placeStr a == placeStr b) = (a == b) := by
  have h : ∀ a < 3, ∀ b < 3, (placeStr a == placeStr b) = (a == b) := by decide +kernel
  exact h a ha b hb
theorem mem_split {α : Type} {l : List α} {i : Nat} {a : α} (h : l[i]? = some a) : l = l.take i ++ a :: l.drop (i + 1) := by
  obtain ⟨hl, he⟩ := List.getElem?_eq_some_iff.mp h
  rw [← he, ← List.drop_eq_getElem_cons hl, List.take_append_drop]
theorem News.more2 {h₀ h : Heap} {L : Addr} {p0 p1 p2 p3 : Addr × Obj} {R l : List (Addr × Obj)} (N : News h₀ L h (p0 :: p1 :: p2 :: p3 :: R)) (hs : ∀ e ∈ l, e ∈ R) : News h₀ L h (p0 :: p1 :: p2 :: p3 :: (l ++ R)) := by
  intro q hq
  apply N
  rcases List.mem_cons.mp hq with rfl | hq
  · exact .head _
  rcases List.mem_cons.mp hq with rfl | hq
  · exact .tail _ (.head _)
  rcases List.mem_cons.mp hq with rfl | hq
  · exact .tail _ (.tail _ (.head _))
  rcases List.mem_cons.mp hq with rfl | hq
  · exact .tail _ (.tail _ (.tail _ (.head _)))
  exact .tail _ (.tail _ (.tail _ (.tail _ ((List.mem_append.mp hq).elim (hs q) id))))
theorem find_first {α : Type} {l : List α} {p : α → Bool} {i : Nat} {a : α} (h : l[i]? = some a) (hp : p a = true) (hn : ∀ q ∈ l.take i, p q = false) : l.find? p = some a := by
  rw [mem_split h, List.find?_append, List.find?_eq_none.mpr fun x hx => by simp [hn x hx]]
  simp [hp]
theorem Con.use {w : World} {f : Addr} {dd : Nat} {news : List (Addr × Obj)} {vs : List Value} {Post : Value → List (Addr × Obj) → Prop} (h : Con w f dd news vs Post)
    {mean : ExcName → Option Value} {mg mb : Str → Option Value} {dp un : Nat} {gd : Option (List Code)} {cn : Str} {cs : Scope} {a : Addr} {ccd : Value} {cl : List (Str × Addr)} {outer : List Env} {A₀ : Around} {base h₀ : Heap} {L : Addr} {m : Str → Option Value} {s : Shared} {Q E : Value → Shared → Prop}
    (B : Below A₀ base outer h₀) (F : Fr h₀ L s.heap m) (X : (hd.heap_39 w.params).In h₀) (N : News h₀ L s.heap news) (T : Top hd.view_39 (looseW hd.view_39 []) mean mg mb h₀) (hk : cs.kind = .function) (hd : dp + dd < recursionLimit) (hu : un + 8 * dd < cLine)
    (hret : ∀ v news' h' tk', Post v news' → Fr h₀ L h' m → News h₀ L h' news' → Q v { s with heap := h', toks := tk' }) :
    wpAny (model PySem.Challenge.rw_sj0113_01.row.prog w) (ktrTop dp un gd cn cs L a ccd cl outer) (call (.ref f) vs) Q E s :=
  h mean mg mb dp un gd cn cs a ccd cl outer A₀ base h₀ L m s Q E B F X N T hk hd hu hret
/-- what a call does, said by what its answer is put into -/
noncomputable def ConK (w : World) (f : Addr) (dd : Nat) (news : List (Addr × Obj)) (vs : List Value) (K : (Value → List (Addr × Obj) → Prop) → Prop) : Prop :=
  ∀ (mean : ExcName → Option Value) (mg mb : Str → Option Value) (dp un : Nat) (gd : Option (List Code)) (cn : Str) (cs : Scope) (a : Addr) (ccd : Value) (cl : List (Str × Addr)) (outer : List Env) (A₀ : Around) (base h₀ : Heap) (L : Addr) (m : Str → Option Value) (s : Shared) (Q E : Value → Shared → Prop),
    Below A₀ base outer h₀ → Fr h₀ L s.heap m → (hd.heap_39 w.params).In h₀ → News h₀ L s.heap news → Top hd.view_39 (looseW hd.view_39 []) mean mg mb h₀ → cs.kind = .function → dp + dd < recursionLimit → un + 8 * dd < cLine →
    K (fun v news' => ∀ h' tk', Fr h₀ L h' m → News h₀ L h' news' → Q v { s with heap := h', toks := tk' }) →
    wpAny (model PySem.Challenge.rw_sj0113_01.row.prog w) (ktrTop dp un gd cn cs L a ccd cl outer) (call (.ref f) vs) Q E s
theorem Con.toK {w : World} {f : Addr} {dd : Nat} {news : List (Addr × Obj)} {vs : List Value} {Post : Value → List (Addr × Obj) → Prop} (h : Con w f dd news vs Post) {K : (Value → List (Addr × Obj) → Prop) → Prop} (hk : ∀ R, K R → ∀ v n, Post v n → R v n) : ConK w f dd news vs K :=
  fun mean mg mb dp un gd cn cs a ccd cl outer A₀ base h₀ L m s Q E B F X N T hf hd hu k => h mean mg mb dp un gd cn cs a ccd cl outer A₀ base h₀ L m s Q E B F X N T hf hd hu fun v n h' tk' p F' N' => hk _ k v n p h' tk' F' N'
theorem ConK.use {w : World} {f : Addr} {dd : Nat} {news : List (Addr × Obj)} {vs : List Value} {K : (Value → List (Addr × Obj) → Prop) → Prop} (h : ConK w f dd news vs K)
    {mean : ExcName → Option Value} {mg mb : Str → Option Value} {dp un : Nat} {gd : Option (List Code)} {cn : Str} {cs : Scope} {a : Addr} {ccd : Value} {cl : List (Str × Addr)} {outer : List Env} {A₀ : Around} {base h₀ : Heap} {L : Addr} {m : Str → Option Value} {s : Shared} {Q E : Value → Shared → Prop}
    (B : Below A₀ base outer h₀) (F : Fr h₀ L s.heap m) (X : (hd.heap_39 w.params).In h₀) (N : News h₀ L s.heap news) (T : Top hd.view_39 (looseW hd.view_39 []) mean mg mb h₀) (hk : cs.kind = .function) (hd : dp + dd < recursionLimit) (hu : un + 8 * dd < cLine)
    (hret : K (fun v news' => ∀ h' tk', Fr h₀ L h' m → News h₀ L h' news' → Q v { s with heap := h', toks := tk' })) :
    wpAny (model PySem.Challenge.rw_sj0113_01.row.prog w) (ktrTop dp un gd cn cs L a ccd cl outer) (call (.ref f) vs) Q E s :=
  h mean mg mb dp un gd cn cs a ccd cl outer A₀ base h₀ L m s Q E B F X N T hk hd hu hret
theorem Sep.of_count {l l' : List (Addr × Obj)} (h : Sep l) (hc : ∀ a, (l'.map (·.1)).count a ≤ (l.map (·.1)).count a) : Sep l' := by
  rw [sep_iff, List.nodup_iff_count] at h ⊢
  exact fun a => Nat.le_trans (hc a) (h a)
theorem sub_append {l1 l2 all : List (Addr × Obj)} (h1 : ∀ q ∈ l1, q ∈ all) (h2 : ∀ q ∈ l2, q ∈ all) : ∀ q ∈ l1 ++ l2, q ∈ all := fun q hq => (List.mem_append.mp hq).elim (h1 q) (h2 q)
theorem flat_nil (w : World) : flat w [] = [] := rfl
theorem flat_cons (w : World) (g : G) (l : List G) : flat w (g :: l) = g.cells w ++ flat w l := rfl
theorem flat_append (w : World) (a b : List G) : flat w (a ++ b) = flat w a ++ flat w b := by simp [flat]
noncomputable def P.new (a : Nat) : P := ⟨a, .unproven, false, 0, 0, [], none, false⟩
noncomputable def openK (known : List P) (a : Nat) : List P := if known.any (·.place == a) then known else known ++ [P.new a]
/-- an address of a path is that of the path at a place -/
noncomputable def PG.at (known : List G) (x : Addr) (a : Nat) : Prop := ∃ g ∈ known, g.x = x ∧ g.place = a
theorem openK_some {known : List G} {a : Nat} {q : G} (h : known.find? (fun q => q.place == a) = some q) : known.map G.abs = openK (known.map G.abs) a := by
  have h1 := List.mem_of_find?_eq_some h
  have h2 := List.find?_some h
  unfold openK
  rw [if_pos]
  simp only [List.any_map, List.any_eq_true, Function.comp]
  exact ⟨q, h1, h2⟩
theorem openK_none {known : List G} {a : Nat} (h : known.find? (fun q => q.place == a) = none) : openK (known.map G.abs) a = known.map G.abs ++ [P.new a] := by
  have h1 := List.find?_eq_none.mp h
  unfold openK
  rw [if_neg]
  simp only [List.any_map, List.any_eq_true, Function.comp]
  rintro ⟨q, hq, e⟩
  exact h1 q hq e
theorem sep_r1 {c h A r : List (Addr × Obj)} (x : Sep (c ++ (h ++ (A ++ r)))) : Sep (h ++ ((A ++ c) ++ r)) := x.of_count fun a => by
  simp only [List.map_append, List.count_append]; omega
theorem push_xref (known : List G) (g : G) : (known.map xref).toArray.push (.ref g.x) = ((known ++ [g]).map xref).toArray := by simp [xref]
noncomputable def recvK (known : List P) (a : Nat) (n : Int) : List P := known.map fun p => if p.place = a then { p with recv := p.recv + n } else p
theorem sub_r2 {c h A B r : List (Addr × Obj)} : ∀ q ∈ c ++ (h ++ (A ++ (B ++ r))), q ∈ h ++ ((A ++ (c ++ B)) ++ r) := by
  intro q hq
  simp only [List.mem_append] at hq ⊢
  rcases hq with h | h | h | h | h <;> simp [h]
theorem sub_r2' {c h A B r : List (Addr × Obj)} : ∀ q ∈ h ++ ((A ++ (c ++ B)) ++ r), q ∈ c ++ (h ++ (A ++ (B ++ r))) := by
  intro q hq
  simp only [List.mem_append] at hq ⊢
  rcases hq with h | (h | h | h) | h <;> simp [h]
theorem sep_r2 {c h A B r : List (Addr × Obj)} (x : Sep (h ++ ((A ++ (c ++ B)) ++ r))) : Sep (c ++ (h ++ (A ++ (B ++ r)))) := x.of_count fun a => by
  simp only [List.map_append, List.count_append]; omega
theorem sep_r2' {c h A B r : List (Addr × Obj)} (x : Sep (c ++ (h ++ (A ++ (B ++ r))))) : Sep (h ++ ((A ++ (c ++ B)) ++ r)) := x.of_count fun a => by
  simp only [List.map_append, List.count_append]; omega
/-- the places of the paths are different -/
noncomputable def PlacesNd (ps : List P) : Prop := (ps.map (·.place)).Nodup
theorem places_mid {pre post : List G} {g : G} (h : PlacesNd ((pre ++ g :: post).map G.abs)) : (∀ q ∈ pre, q.place ≠ g.place) ∧ ∀ q ∈ post, q.place ≠ g.place := by
  unfold PlacesNd at h
  simp only [List.map_append, List.map_cons, List.map_map] at h
  rw [List.nodup_append] at h
  obtain ⟨h1, h2, h3⟩ := h
  rw [List.nodup_cons] at h2
  refine ⟨fun q hq e => ?_, fun q hq e => h2.1 ?_⟩
  · exact h3 q.place (List.mem_map.mpr ⟨q, hq, rfl⟩) g.place (.head _) e
  · rw [show g.abs.place = q.place from e.symm]; exact List.mem_map.mpr ⟨q, hq, rfl⟩
theorem recvK_mid {pre post : List G} {g g' : G} {a : Nat} {n : Int} (hp : PlacesNd ((pre ++ g :: post).map G.abs)) (hg : g.place = a) (e : g'.abs = { g.abs with recv := g.recv + n }) :
    (pre ++ g' :: post).map G.abs = recvK ((pre ++ g :: post).map G.abs) a n := by
  obtain ⟨h1, h2⟩ := places_mid hp
  simp only [recvK, List.map_append, List.map_cons, List.map_map, e]
  congr 1
  · exact List.map_congr_left fun q hq => by simp only [Function.comp]; rw [if_neg]; rw [← hg]; exact h1 q hq
  · congr 1
    · rw [if_pos (show g.abs.place = a from hg)]; rfl
    · exact List.map_congr_left fun q hq => by simp only [Function.comp]; rw [if_neg]; rw [← hg]; exact h2 q hq
theorem mem_mid {α : Type} {l : List α} {a : α} (h : a ∈ l) : ∃ pre post, l = pre ++ a :: post := List.append_of_mem h
theorem map_xref_mid {pre post : List G} {g g' : G} (hx : g'.x = g.x) : (pre ++ g' :: post).map xref = (pre ++ g :: post).map xref := by simp [xref, hx]
theorem hdr_mid {w : World} {p dp kl al : Addr} {t0 t1 t2 t3 t4 t5 t6 : Tok} {rlt : Tok} {kn : Nat} {ax : Addr} {last : Option Addr} {high : Int} {hit : Tok} {pre post : List G} {g g' : G} (hx : g'.x = g.x) :
    PG.hdr w ⟨p, dp, kl, al, t0, t1, t2, t3, t4, t5, t6, rlt, pre ++ g' :: post, kn, ax, last, high, hit⟩ = PG.hdr w ⟨p, dp, kl, al, t0, t1, t2, t3, t4, t5, t6, rlt, pre ++ g :: post, kn, ax, last, high, hit⟩ := by
  simp only [PG.hdr, map_xref_mid hx]
theorem at_mid {pre post : List G} {g g' : G} {x : Addr} {a : Nat} (hx : g'.x = g.x) (hp : g'.place = g.place) (h : PG.at (pre ++ g :: post) x a) : PG.at (pre ++ g' :: post) x a := by
  obtain ⟨q, hq, h1, h2⟩ := h
  rcases List.mem_append.mp hq with hq | hq
  · exact ⟨q, List.mem_append_left _ hq, h1, h2⟩
  · rcases List.mem_cons.mp hq with rfl | hq
    · exact ⟨g', List.mem_append_right _ (.head _), hx.trans h1, hp.trans h2⟩
    · exact ⟨q, List.mem_append_right _ (.tail _ hq), h1, h2⟩
theorem at_more {known gs more : List G} (e : gs = known ++ more) {q : G} (h : q ∈ known) : PG.at gs q.x q.place := ⟨q, by rw [e]; exact List.mem_append_left _ h, rfl, rfl⟩
theorem place_of_abs {g g' : G} {p : P} (e : g'.abs = p) (h : p.place = g.place) : g'.place = g.place := by rw [← h, ← e]; rfl
noncomputable def renewK (known : List P) (a : Nat) : List P := known.map fun p => if p.place = a then p.renew else p
theorem renewK_mid {pre post : List G} {g g' : G} {a : Nat} (hp : PlacesNd ((pre ++ g :: post).map G.abs)) (hg : g.place = a) (e : g'.abs = g.abs.renew) :
    (pre ++ g' :: post).map G.abs = renewK ((pre ++ g :: post).map G.abs) a := by
  obtain ⟨h1, h2⟩ := places_mid hp
  simp only [renewK, List.map_append, List.map_cons, List.map_map, e]
  congr 1
  · exact List.map_congr_left fun q hq => by simp only [Function.comp]; rw [if_neg]; rw [← hg]; exact h1 q hq
  · congr 1
    · rw [if_pos (show g.abs.place = a from hg)]
    · exact List.map_congr_left fun q hq => by simp only [Function.comp]; rw [if_neg]; rw [← hg]; exact h2 q hq
theorem place_inj {gs : List G} (h : PlacesNd (gs.map G.abs)) {q r : G} (hq : q ∈ gs) (hr : r ∈ gs) (e : q.place = r.place) : q = r := by
  obtain ⟨pre, post, rfl⟩ := mem_mid hq
  obtain ⟨h1, h2⟩ := places_mid h
  rcases List.mem_append.mp hr with hr | hr
  · exact absurd e.symm (h1 r hr)
  · rcases List.mem_cons.mp hr with rfl | hr
    · rfl
    · exact absurd e.symm (h2 r hr)
theorem find_place {gs : List G} (h : PlacesNd (gs.map G.abs)) {q : G} (hq : q ∈ gs) : gs.find? (fun r => r.place == q.place) = some q := by
  cases hf : gs.find? (fun r => r.place == q.place) with
  | none => exact absurd (List.find?_eq_none.mp hf q hq) (by simp)
  | some r =>
    have h1 := List.mem_of_find?_eq_some hf
    have h2 := List.find?_some hf
    rw [place_inj h h1 hq (by simpa using h2)]
theorem News.more3 {h₀ h : Heap} {L : Addr} {H R l : List (Addr × Obj)} (N : News h₀ L h (H ++ R)) (hs : ∀ e ∈ l, e ∈ R) : News h₀ L h (H ++ (l ++ R)) := by
  intro q hq
  apply N
  rcases List.mem_append.mp hq with hq | hq
  · exact List.mem_append_left _ hq
  · exact List.mem_append_right _ ((List.mem_append.mp hq).elim (hs q) id)
theorem Sep.congr {l l' : List (Addr × Obj)} (h : Sep l) (e : l'.map (·.1) = l.map (·.1)) : Sep l' := h.of_count fun a => by rw [e]; exact Nat.le_refl _
theorem renew_place (p : P) : p.renew.place = p.place := by unfold P.renew; split <;> rfl
noncomputable abbrev tupOf (vs : List Value) : Obj := { cls := .type "tuple", data := .seq vs.toArray }
noncomputable def P.again (p : P) : P := { p with wants := p.st == .trying }
/-- a loop over the known paths that turns each: what has been done, what is left -/
structure Done (w : World) (known : List G) (f : P → P) (H : List (Addr × Obj)) (rest : List (Addr × Obj)) (i : Nat) (done : List G) (nw : List (Addr × Obj)) : Prop where
  abs : done.map G.abs = ((known.take i).map G.abs).map f
  adr : done.map G.x = (known.take i).map G.x
  plc : done.map G.place = (known.take i).map G.place
  eq : nw = H ++ (flat w (done ++ known.drop i) ++ rest)
  sep : Sep nw
theorem Done.zero {w : World} {known : List G} {f : P → P} {H rest : List (Addr × Obj)} (h : Sep (H ++ (flat w known ++ rest))) : Done w known f H rest 0 [] (H ++ (flat w known ++ rest)) := ⟨rfl, rfl, rfl, rfl, h⟩
theorem Done.xref {w : World} {known : List G} {f : P → P} {H rest : List (Addr × Obj)} {done : List G} {nw : List (Addr × Obj)} (h : Done w known f H rest known.length done nw) : done.map xref = known.map xref := by
  have e := h.adr
  rw [List.take_length] at e
  have : ∀ l : List G, l.map Mine.xref = (l.map G.x).map Value.ref := fun l => by simp [Mine.xref]
  rw [this, this, e]
theorem Done.at {w : World} {known : List G} {f : P → P} {H rest : List (Addr × Obj)} {done : List G} {nw : List (Addr × Obj)} (h : Done w known f H rest known.length done nw) : ∀ q ∈ known, PG.at done q.x q.place := by
  intro q hq
  have e := h.adr
  have e2 := h.plc
  rw [List.take_length] at e e2
  obtain ⟨i, hi⟩ := List.getElem?_of_mem hq
  have h1 : (done.map G.x)[i]? = some q.x := by rw [e, List.getElem?_map, hi]; rfl
  have h2 : (done.map G.place)[i]? = some q.place := by rw [e2, List.getElem?_map, hi]; rfl
  rw [List.getElem?_map] at h1 h2
  cases hd : done[i]? with
  | none => rw [hd] at h1; cases h1
  | some r =>
    rw [hd] at h1 h2
    exact ⟨r, List.mem_of_getElem? hd, Option.some.inj h1, Option.some.inj h2⟩
theorem drop_cons {α : Type} {l : List α} {i : Nat} {a : α} (h : l[i]? = some a) : l.drop i = a :: l.drop (i + 1) := by
  obtain ⟨hl, he⟩ := List.getElem?_eq_some_iff.mp h
  rw [← he, List.drop_eq_getElem_cons hl]
theorem Done.step {w : World} {known : List G} {f : P → P} {H rest : List (Addr × Obj)} {i : Nat} {done : List G} {nw : List (Addr × Obj)} {g g2 : G} (h : Done w known f H rest i done nw) (hg : known[i]? = some g) (ha : g2.abs = f g.abs) (hx : g2.x = g.x) (hp : g2.place = g.place)
    (hs : Sep (H ++ ((flat w done ++ (g2.cells w ++ flat w (known.drop (i + 1)))) ++ rest))) :
    Done w known f H rest (i + 1) (done ++ [g2]) (H ++ ((flat w done ++ (g2.cells w ++ flat w (known.drop (i + 1)))) ++ rest)) := by
  have e : known.take (i + 1) = known.take i ++ [g] := by rw [List.take_add_one, hg]; rfl
  refine ⟨?_, ?_, ?_, ?_, hs⟩
  · rw [e]; simp only [List.map_append, List.map_cons, List.map_nil, h.abs, ha]
  · rw [e]; simp only [List.map_append, List.map_cons, List.map_nil, h.adr, hx]
  · rw [e]; simp only [List.map_append, List.map_cons, List.map_nil, h.plc, hp]
  · simp [flat]
theorem item_xref {known : List G} {i : Nat} {v : Value} (hv : (known.map xref)[i]? = some v) : ∃ q, known[i]? = some q ∧ v = xref q := by
  simp only [List.getElem?_map, Option.map_eq_some_iff] at hv
  obtain ⟨q, h1, h2⟩ := hv; exact ⟨q, h1, h2.symm⟩
noncomputable def atK (f : P → P) (known : List P) (a : Nat) : List P := known.map fun p => if p.place = a then f p else p
theorem atK_mid {f : P → P} {pre post : List G} {g g' : G} {a : Nat} (hp : PlacesNd ((pre ++ g :: post).map G.abs)) (hg : g.place = a) (e : g'.abs = f g.abs) :
    (pre ++ g' :: post).map G.abs = atK f ((pre ++ g :: post).map G.abs) a := by
  obtain ⟨h1, h2⟩ := places_mid hp
  simp only [atK, List.map_append, List.map_cons, List.map_map, e]
  congr 1
  · exact List.map_congr_left fun q hq => by simp only [Function.comp]; rw [if_neg]; rw [← hg]; exact h1 q hq
  · congr 1
    · rw [if_pos (show g.abs.place = a from hg)]
    · exact List.map_congr_left fun q hq => by simp only [Function.comp]; rw [if_neg]; rw [← hg]; exact h2 q hq
noncomputable def G.has (b : Bts) (q : G) : Bool := (q.chal.map (·.1)).contains b
section
variable {prog : Program} {w : World} {A : Around} {s : Shared} {h₀ : Heap} {L : Addr} {m : Str → Option Value} {env : Env} {ct elt : Expr} {x : Str} {scope : Scope} {cl : List (Str × Addr)} {S : List (Addr × Obj) → Prop} {P : Nat → Value → Prop} {Fin : List Value → List (Addr × Obj) → Prop}
theorem compEnd_mono {s₁ : Shared} {I C D : Addr} {oI oC oD : Obj} {r r' : Value → List (Addr × Obj) → Prop} {y : Value} {s₂ : Shared} (h : LCg.CompEnd h₀ L m s₁ I oI C oC D oD S r y s₂) (hr : ∀ y n, r y n → r' y n) : LCg.CompEnd h₀ L m s₁ I oI C oC D oD S r' y s₂ := by
  obtain ⟨h', tk, n', e, F', N', o, hS, x⟩ := h
  exact ⟨h', tk, n', e, F', N', o, hS, hr _ _ x⟩
theorem compRestT_of {n : Nat} (Acc : Nat → List Value → List (Addr × Obj) → Prop)
    (turn : ∀ i v ys nw I oI C oC D m₂ h tk (E' : Value → Shared → Prop), i < n → P i v → Acc i ys nw → LCg.NsObj oC m₂ → m₂ x = some v → Fr h₀ L h m → News h₀ L h ((I, oI) :: (C, oC) :: (D, LCg.lst ys) :: nw) → LCg.Off3 I C D nw → ((@Ne Nat I C) ∧ (@Ne Nat I D) ∧ (@Ne Nat C D)) →
      wpAny (model prog w) A (isTrue ct (compEnvC scope cl C env) (eval ct (compEnvC scope cl C env))) (fun ok s' => if ok = true then
        wpAny (model prog w) A (eval elt (compEnvC scope cl C env)) (LCg.CompEnd h₀ L m { s with heap := h, toks := tk } I oI C oC D (LCg.lst ys) S (fun y nw' => Acc (i + 1) (ys ++ [y]) nw')) E' s'
        else LCg.CompEnd h₀ L m { s with heap := h, toks := tk } I oI C oC D (LCg.lst ys) S (fun _ nw' => Acc (i + 1) ys nw') Value.none s') E' { s with heap := h, toks := tk })
    (fin : ∀ ys nw, Acc n ys nw → Fin ys nw) {nw : List (Addr × Obj)} (h0 : Acc 0 [] nw) : LCt.CompRestT prog w A h₀ L m env ct elt x scope cl s S P Fin n 0 [] nw := by
  have key : ∀ k i ys nw, i + k = n → Acc i ys nw → LCt.CompRestT prog w A h₀ L m env ct elt x scope cl s S P Fin k i ys nw := by
    intro k
    induction k with
    | zero =>
      intro i ys nw e h
      obtain rfl : i = n := by omega
      exact LCt.CompRestT.zero (fin ys nw h)
    | succ k ih =>
      intro i ys nw e h
      refine LCt.CompRestT.succ ?_
      intro v I oI C oC D m₂ hh tk E' hv hC hx F N off ne
      refine wpAny_mono (turn i v ys nw I oI C oC D m₂ hh tk E' (by omega) hv h hC hx F N off ne) (fun ok s' q => ?_) fun _ _ e => e
      cases ok with
      | true =>
        simp only [if_true] at q ⊢
        exact wpAny_mono q (fun y s2 q2 => compEnd_mono q2 fun y n' a => ih (i + 1) _ n' (by omega) a) fun _ _ e => e
      | false =>
        simp only [Bool.false_eq_true, if_false] at q ⊢
        exact compEnd_mono q fun y n' a => ih (i + 1) _ n' (by omega) a
  exact key n 0 [] nw (by omega) h0
theorem compRest_of {n : Nat} (Acc : Nat → List Value → List (Addr × Obj) → Prop)
    (turn : ∀ i v ys nw I oI C oC D m₂ h tk (E' : Value → Shared → Prop), i < n → P i v → Acc i ys nw → LCg.NsObj oC m₂ → m₂ x = some v → Fr h₀ L h m → News h₀ L h ((I, oI) :: (C, oC) :: (D, LCg.lst ys) :: nw) → LCg.Off3 I C D nw → ((@Ne Nat I C) ∧ (@Ne Nat I D) ∧ (@Ne Nat C D)) →
      wpAny (model prog w) A (eval elt (compEnvC scope cl C env)) (LCg.CompEnd h₀ L m { s with heap := h, toks := tk } I oI C oC D (LCg.lst ys) S (fun y nw' => Acc (i + 1) (ys ++ [y]) nw')) E' { s with heap := h, toks := tk })
    (fin : ∀ ys nw, Acc n ys nw → Fin ys nw) {nw : List (Addr × Obj)} (h0 : Acc 0 [] nw) : LCg.CompRest prog w A h₀ L m env elt x scope cl s S P Fin n 0 [] nw := by
  have key : ∀ k i ys nw, i + k = n → Acc i ys nw → LCg.CompRest prog w A h₀ L m env elt x scope cl s S P Fin k i ys nw := by
    intro k
    induction k with
    | zero =>
      intro i ys nw e h
      obtain rfl : i = n := by omega
      exact LCg.CompRest.zero (fin ys nw h)
    | succ k ih =>
      intro i ys nw e h
      refine LCg.CompRest.succ ?_
      intro v I oI C oC D m₂ hh tk E' hv hC hx F N off ne
      refine wpAny_mono (turn i v ys nw I oI C oC D m₂ hh tk E' (by omega) hv h hC hx F N off ne) (fun y s2 q2 => compEnd_mono q2 fun y n' a => ih (i + 1) _ n' (by omega) a) fun _ _ e => e
  exact key n 0 [] nw (by omega) h0
end
noncomputable def deadsV (gs : List G) : List Value := (gs.filterMap (·.dead)).map fun p => Value.int p.1 p.2
noncomputable def deads (ps : List P) : List Int := ps.filterMap (·.dead)
theorem deadsV_ints : ∀ gs : List G, IntsAre (deadsV gs) (deads (gs.map G.abs))
  | [] => .nil
  | g :: r => by
    have ih := deadsV_ints r
    unfold deadsV deads at *
    simp only [List.map_cons, List.filterMap_cons]
    cases hd : g.dead with
    | none => simp only [G.abs, hd, Option.map_none]; exact ih
    | some p => simp only [G.abs, hd, Option.map_some, List.map_cons]; exact .cons _ _ ih
theorem deadsV_snoc {known : List G} {i : Nat} {q : G} (h : known[i]? = some q) : deadsV (known.take (i + 1)) = deadsV (known.take i) ++ (match q.dead with | some p => [Value.int p.1 p.2] | none => []) := by
  rw [List.take_add_one, h]
  unfold deadsV
  rw [Option.toList_some, List.filterMap_append, List.map_append]
  congr 1
  cases hd : q.dead <;> simp [hd]
noncomputable def IsMin (l : List Int) (v : Value) : Prop := (l = [] ∧ v = .none) ∨ ∃ m t, v = .int m t ∧ m ∈ l ∧ ∀ a ∈ l, m ≤ a
noncomputable def P.expire (now : Int) (p : P) : P := match p.dead with
  | some d => if d ≤ now then p.fail else p
  | none => p
noncomputable def PG.lastOk (known : List G) : Option Addr → Option Nat → Prop
  | none, none => True
  | some x, some c => PG.at known x c
  | _, _ => False
noncomputable def shownP (ps : List P) : Option Nat := ((ps.filter (·.st == .proven)).getLast?).map (·.place)
noncomputable def backP (ps : List P) (last : Option Nat) : Option Nat := match last.bind (fun c => ps.find? (·.place == c)) with
  | some p => if p.free then some p.place else shownP ps
  | none => shownP ps
noncomputable def onTimeP (ps : List P) (b : Nat) (last : Option Nat) : Str × Nat := match ps.find? (·.place == b) with
  | some p => if p.st = .failed then (match backP ps last with
      | some c => (Str.ofString "back", c)
      | none => (Str.ofString "lost", b)) else (Str.ofString "same", b)
  | none => (Str.ofString "same", b)
theorem expire_place (now : Int) (p : P) : (p.expire now).place = p.place := by
  unfold P.expire; split
  · split <;> rfl
  · rfl
noncomputable def shownV (gs : List G) : List Value := (gs.filter (·.st == .proven)).map xref
theorem shownV_snoc {known : List G} {i : Nat} {q : G} (h : known[i]? = some q) : shownV (known.take (i + 1)) = shownV (known.take i) ++ (if (q.st == .proven) = true then [xref q] else []) := by
  rw [List.take_add_one, h]
  unfold shownV
  rw [Option.toList_some, List.filter_append, List.map_append]
  congr 1
  by_cases h : (q.st == .proven) = true <;> simp [h]
theorem shownV_last {gs : List G} {v : Value} (h : (shownV gs).getLast? = some v) : ∃ q ∈ gs, v = xref q ∧ shownP (gs.map G.abs) = some q.place := by
  unfold shownV at h
  rw [List.getLast?_map, Option.map_eq_some_iff] at h
  obtain ⟨q, hq, rfl⟩ := h
  refine ⟨q, (List.mem_filter.mp (List.mem_of_getLast? hq)).1, rfl, ?_⟩
  unfold shownP
  rw [List.filter_map, List.getLast?_map, show ((fun p : P => p.st == PS.proven) ∘ G.abs) = fun q : G => q.st == .proven from rfl, hq]
  rfl
theorem shownV_nil {gs : List G} (h : shownV gs = []) : shownP (gs.map G.abs) = none := by
  unfold shownV at h
  rw [List.map_eq_nil_iff] at h
  unfold shownP
  rw [List.filter_map, show ((fun p : P => p.st == PS.proven) ∘ G.abs) = fun q : G => q.st == .proven from rfl, h]
  rfl

end
section
-- L2
theorem off_L2 : True := by w_top off; trivial
open PySem.MeetsSeq PySem.MeetsSeq2 PySem.SeqRoads2 in
theorem eqGives_bytes (x y : Bts) (t u : Tok) : EqGives (.bytes x t) (.bytes y u) (x == y) := by
  intro prog w A E s Q h
  unfold eqBool
  refine wpAny_holding ?_
  refine wpAny_ite_split (fun hab => ?_) (fun hab => ?_)
  · have e : x = y := by have := eq_of_beq hab; injection this
    subst e
    exact wpAny_bind (wpAny_rule (wpAny_pure (by simpa using h)))
  · have hb : (x == y) = (x.toList == y.toList) := by
      rw [Bool.eq_iff_iff, beq_iff_eq, beq_iff_eq, Array.toList_inj]
    rw [hb] at h
    exact wpAny_bind (richCompare_gives (typeIs_bytes s x t) (typeIs_bytes s y u) FB.slot_bytes_eq FB.entry_bytes_eq (FB.args_bytes_eq_2 _ _) (gives_bytes_eq x y t u) (by simp [Made.takes]) (wpAny_truthy_bool h))

section
variable {prog : Program} {w : World} {A : Around} {E : Value → Shared → Prop} {s : Shared} {h₀ : Heap} {L : Addr}
theorem isListL {h : Heap} {l : Addr} {vs : List Value} {n : Nat} {news : List (Addr × Obj)} (N : News h₀ L h news) (hm : (l, listOf vs.toArray n) ∈ news) : h.IsList l vs.toArray := ⟨_, N.get hm, rfl, n, rfl⟩
noncomputable def isB (b : Bts) : Value → Bool
  | .bytes c _ => c == b
  | _ => false
theorem any_isB (b : Bts) : ∀ chal : List (Bts × Tok), (chal.map bval).any (isB b) = (chal.map (·.1)).contains b
  | [] => rfl
  | c :: r => by
    simp only [List.map_cons, List.any_cons, List.contains_cons]
    rw [show isB b (bval c) = (c.1 == b) from rfl, any_isB b r, BEq.comm]
theorem in_bytes {l : Addr} {chal : List (Bts × Tok)} {n : Nat} {news : List (Addr × Obj)} {b : Bts} {t : Tok} {Q : Value → Shared → Prop} (N : News h₀ L s.heap news) (hm : (l, listOf (chal.map bval).toArray n) ∈ news)
    (h : Q (.bool ((chal.map (·.1)).contains b)) s) : wpAny (model prog w) A (compareOp .In (.bytes b t) (.ref l)) Q E s := by
  refine PySem.SeqInW.in_listW (isB b) (fun y hy => ?_) (isListL N hm) ?_
  · simp only [List.mem_toArray, List.mem_map] at hy
    obtain ⟨c, hc, rfl⟩ := hy
    exact eqGives_bytes c.1 b c.2 t
  · have e : (chal.map bval).toArray.any (isB b) = (chal.map (·.1)).contains b := by
      rw [← Array.any_toList]
      exact any_isB b chal
    rw [e]; exact h
end
section
variable {prog : Program} {w : World} {A : Around} {E : Value → Shared → Prop} {s : Shared} {h₀ : Heap} {L : Addr}
theorem m_len {l : Addr} {vs : List Value} {n : Nat} {news : List (Addr × Obj)} {Q : Value → Shared → Prop} (N : News h₀ L s.heap news) (hm : (l, listOf vs.toArray n) ∈ news) (hz : vs.length ≤ 100000)
    (h : Q (.int (vs.length : Nat) (s.toks + 1)) { s with toks := s.toks + 1 + 1 }) : wpAny (model prog w) A (call (.builtin "len") [.ref l]) Q E s := by
  have e : vs.toArray.size = vs.length := by simp
  refine Calls.call_len_list (isListL N hm) (by omega) ?_
  rw [e]; exact h
theorem m_last {value slice : PySem.Expr} {l : Addr} {vs : List Value} {v : Value} {n : Nat} {u : Tok} {news : List (Addr × Obj)} {Q : Value → Shared → Prop} (N : News h₀ L s.heap news) (hm : (l, listOf vs.toArray n) ∈ news) (hx : vs.getLast? = some v)
    (h : Q v s)
    (hs : subscripted slice false (.ref l) (.int (-1) u) = operate [.ref l, .int (-1) u] (getItem (.ref l) (.int (-1) u)) := by with_unfolding_all rfl) (hg : ∀ r, letTemporaryGo value (.ref l) r = pure () := by intro _; with_unfolding_all rfl) :
    wpAny (model prog w) A (subscriptTail value slice (.ref l) (.int (-1) u)) Q E s := by
  have hl := isListL N hm
  have hne : vs ≠ [] := by intro e; rw [e] at hx; cases hx
  have hpos : 0 < vs.length := List.length_pos_iff.mpr hne
  refine subscriptTail_builtin hl.typeIs slot_list_getitem.lookup (wpAny_getItem_list_neg hl (by omega) (by simp only [List.size_toArray]; omega) (by omega) ?_ h) hs hg
  have e : ((-1 : Int) + (vs.toArray.size : Nat)).toNat = vs.length - 1 := by simp only [List.size_toArray]; omega
  rw [e, List.getElem?_toArray, ← List.getLast?_eq_getElem?]; exact hx
theorem m_item {value slice : PySem.Expr} {l : Addr} {vs : List Value} {v : Value} {n : Nat} {k : Int} {u : Tok} {news : List (Addr × Obj)} {Q : Value → Shared → Prop} (N : News h₀ L s.heap news) (hm : (l, listOf vs.toArray n) ∈ news) (h0 : 0 ≤ k) (h1 : k < 2 ^ 63) (hx : vs[k.toNat]? = some v)
    (h : Q v s)
    (hs : subscripted slice false (.ref l) (.int k u) = operate [.ref l, .int k u] (getItem (.ref l) (.int k u)) := by with_unfolding_all rfl) (hg : ∀ r, letTemporaryGo value (.ref l) r = pure () := by intro _; with_unfolding_all rfl) :
    wpAny (model prog w) A (subscriptTail value slice (.ref l) (.int k u)) Q E s := by
  have hl := isListL N hm
  exact subscriptTail_builtin hl.typeIs slot_list_getitem.lookup (wpAny_getItem_list hl h0 h1 (by simpa using hx) h) hs hg
end
section
variable {prog : Program} {w : World} {A : Around} {E : Value → Shared → Prop} {s : Shared} {h₀ : Heap} {L : Addr} {m : Str → Option Value}
theorem m_add {l b : Addr} {vs ws : List Value} {n n2 : Nat} {news : List (Addr × Obj)} {Q : Value → Shared → Prop} (F : Fr h₀ L s.heap m) (N : News h₀ L s.heap news) (hl : (l, listOf vs.toArray n) ∈ news) (hb : (b, listOf ws.toArray n2) ∈ news) (hz : vs.length + ws.length ≤ 100000)
    (h : ∀ l' h', Fr h₀ L h' m → News h₀ L h' ((l', listOf (vs ++ ws).toArray 0) :: news) → (∀ p ∈ news, p.1 < l') → Q (.ref l') { s with heap := h' }) : wpAny (model prog w) A (binaryOp .Add (.ref l) (.ref b)) Q E s :=
  PyProof.Rows.add_lists F N (isListL N hl) (isListL N hb) (fun h' F' N' => h _ h' F' N' fun p hp => Heap.lt_size (N p hp).1) (by rw [sizeLine_eq]; omega)
end
theorem cut_at {v : Value} : ∀ {vs : List Value} {k : Nat}, vs[k]? = some v → kl_cut vs k = some (vs.take k, v, vs.drop (k + 1))
  | [], k, h => by simp at h
  | x :: r, 0, h => by simp at h; subst h; rfl
  | x :: r, k + 1, h => by
    have ih := cut_at (vs := r) (k := k) (by simpa using h)
    unfold kl_cut
    rw [ih]; rfl
section
variable {prog : Program} {w : World} {A : Around} {E : Value → Shared → Prop} {s : Shared} {h₀ : Heap} {L : Addr} {m : Str → Option Value}
theorem m_popAt {D : Addr} {vs : List Value} {v : Value} {n : Nat} {i : Int} {u : Tok} {news news' : List (Addr × Obj)} {Q : Value → Shared → Prop} (F : Fr h₀ L s.heap m) (N : News h₀ L s.heap news) (h0 : 0 ≤ i) (h1 : i < vs.length) (hx : vs[i.toNat]? = some v)
    (U : Upd D (listOf vs.toArray n) (listOf (vs.eraseIdx i.toNat).toArray (n + 1)) news news') (hz : vs.length ≤ 100000) (h : ∀ h', Fr h₀ L h' m → News h₀ L h' news' → Q v { s with heap := h' }) : wpAny (model prog w) A (call (.builtin "list.pop") [.ref D, .int i u]) Q E s := by
  rw [List.eraseIdx_eq_take_drop_succ] at U
  refine kl_popAt F N ?_ ?_ (cut_at hx) U (by show vs.length ≤ _; rw [sizeLine_eq]; omega) h
  · simp only [Builtin.List.listFitsIndex, Bool.and_eq_true, decide_eq_true_eq]; omega
  · have := PySem.seqIndex_of (k := i) (n := vs.toArray.size) h0 (by simpa using h1)
    exact this
end

end
section
-- L3
theorem off_L3 : True := by w_top off; trivial
noncomputable abbrev PR : Program := PySem.Challenge.rw_sj0113_01.row.prog
/-- a tuple on the line forth: its address, the place, the octets -/
structure FT where
  ta : Addr
  place : Nat
  pt : Tok
  b : Bts
  bt : Tok
  tn : Nat
noncomputable def FT.ref (f : FT) : Value := .ref f.ta
noncomputable abbrev FT.cell (f : FT) : Addr × Obj := (f.ta, { cls := .type "tuple", data := .seq #[.str (placeStr f.place) f.pt, .bytes f.b f.bt] f.tn })
noncomputable def ival (p : Int × Tok) : Value := .int p.1 p.2
/-- the ghost of the law's net -/
structure NG where
  (nd hl fl ol pl od o0 o1 o2 ed fo ba : Addr)
  (nob oob eob : Obj)
  (h0 h1 h2 : Bool)
  hn : Nat
  first : Bool
  failed : List (Int × Tok)
  fn : Nat
  over : List (Bts × Tok)
  on_ : Nat
  proven : List (Int × Tok)
  pn : Nat
  (q0 q1 q2 : List (Bts × Tok))
  (n0 n1 n2 : Nat)
  (v0 v1 v2 : Option (Int × Tok))
  forth : List FT
  fon : Nat
  back : List (Bts × Tok)
  ban : Nat
  count : Int
  ct : Tok
  number : Int
  nt : Tok
  now : Int
  wt : Tok
  active : Nat
  at_ : Tok
noncomputable abbrev NG.kvs (g : NG) : List (Str × Value) := [(Str.ofString "hears", .ref g.hl), (Str.ofString "first", .bool g.first), (Str.ofString "failed", .ref g.fl), (Str.ofString "over", .ref g.ol), (Str.ofString "proven", .ref g.pl), (Str.ofString "open", .ref g.od), (Str.ofString "end", .ref g.ed), (Str.ofString "forth", .ref g.fo), (Str.ofString "back", .ref g.ba), (Str.ofString "count", .int g.count g.ct), (Str.ofString "number", .int g.number g.nt), (Str.ofString "now", .int g.now g.wt), (Str.ofString "active", .int (g.active : Int) g.at_)]
structure NG.Ok (w : World) (g : NG) : Prop where
  net : g.nob.IsDictOf (strKind PR w) g.kvs
  opn : g.oob.IsDictOf (intKind PR w) [(0, .ref g.o0), (1, .ref g.o1), (2, .ref g.o2)]
  end_ : g.eob.IsDictOf (intKind PR w) [(0, deadV g.v0), (1, deadV g.v1), (2, deadV g.v2)]
noncomputable abbrev bl (l : List (Bts × Tok)) (n : Nat) : Obj := listOf (l.map bval).toArray n
noncomputable abbrev il (l : List (Int × Tok)) (n : Nat) : Obj := listOf (l.map ival).toArray n
noncomputable def tups (l : List FT) : List (Addr × Obj) := l.map FT.cell
noncomputable def bvl (b : Bool) : Value := .bool b
noncomputable abbrev NG.cells (g : NG) : List (Addr × Obj) := [(g.nd, g.nob), (g.hl, listOf #[.bool g.h0, .bool g.h1, .bool g.h2] g.hn), (g.fl, il g.failed g.fn), (g.ol, bl g.over g.on_), (g.pl, il g.proven g.pn), (g.od, g.oob), (g.o0, bl g.q0 g.n0), (g.o1, bl g.q1 g.n1), (g.o2, bl g.q2 g.n2), (g.ed, g.eob), (g.fo, listOf (g.forth.map FT.ref).toArray g.fon), (g.ba, bl g.back g.ban)]
noncomputable abbrev NG.bs (g : NG) : List Led := g.cells.map fun c => [c]
/-- the law's net, its plain side -/
structure LN where
  hears : Nat → Bool
  first : Bool
  failed : List Int
  over : List Bts
  proven : List Int
  open_ : Nat → List Bts
  end_ : Nat → Option Int
  forth : List (Nat × Bts)
  back : List Bts
  count : Int
  number : Int
  now : Int
  active : Nat
noncomputable def tri {α : Type} (d x y z : α) : Nat → α
  | 0 => x
  | 1 => y
  | 2 => z
  | _ => d
noncomputable def upd {α : Type} (f : Nat → α) (a : Nat) (v : α) : Nat → α := fun i => if i = a then v else f i
theorem upd_tri0 {α : Type} (d x y z v : α) : upd (tri d x y z) 0 v = tri d v y z := by
  funext i; match i with | 0 => rfl | 1 => rfl | 2 => rfl | _ + 3 => rfl
theorem upd_tri1 {α : Type} (d x y z v : α) : upd (tri d x y z) 1 v = tri d x v z := by
  funext i; match i with | 0 => rfl | 1 => rfl | 2 => rfl | _ + 3 => rfl
theorem upd_tri2 {α : Type} (d x y z v : α) : upd (tri d x y z) 2 v = tri d x y v := by
  funext i; match i with | 0 => rfl | 1 => rfl | 2 => rfl | _ + 3 => rfl
noncomputable abbrev fsts {α β : Type} (l : List (α × β)) : List α := l.map (·.1)
noncomputable def NG.abs (g : NG) : LN := ⟨tri false g.h0 g.h1 g.h2, g.first, fsts g.failed, fsts g.over, fsts g.proven, tri [] (fsts g.q0) (fsts g.q1) (fsts g.q2), tri none (g.v0.map (·.1)) (g.v1.map (·.1)) (g.v2.map (·.1)), g.forth.map (fun f => (f.place, f.b)), fsts g.back, g.count, g.number, g.now, g.active⟩
noncomputable def LN.ended (n : LN) (a : Nat) : LN := { n with over := n.over ++ n.open_ a, open_ := upd n.open_ a [], end_ := upd n.end_ a none }
structure NG.Sm (g : NG) : Prop where
  failed : g.failed.length ≤ 1000
  over : g.over.length ≤ 1000
  proven : g.proven.length ≤ 1000
  q0 : g.q0.length ≤ 1000
  q1 : g.q1.length ≤ 1000
  q2 : g.q2.length ≤ 1000
  forth : g.forth.length ≤ 1000
  back : g.back.length ≤ 1000
/-- the client: a Paths of which only the answers are asked -/
structure CG where
  (p dp al : Addr)
  (t0 t1 t2 t3 t4 t5 t6 : Tok)
  (u0 u1 u2 u3 u4 u5 : Value)
  n : Nat
noncomputable abbrev CG.cells (w : World) (c : CG) : List (Addr × Obj) := [(c.p, instObj 236 c.dp), (c.dp, dictOf [ent w "role" c.t0 c.u0, ent w "may_move" c.t1 c.u1, ent w "known" c.t2 c.u2, ent w "active" c.t3 c.u3, ent w "last_proven" c.t4 c.u4, ent w "highest" c.t5 c.u5, ent w "answers" c.t6 (.ref c.al)] 7), (c.al, listOf #[] c.n)]
noncomputable def fateK (pick : Int) (n : Nat) : Nat := ((pick.fdiv 3).fmod (n : Int)).toNat
noncomputable def fateL {α : Type} (pick : Int) (l : List α) : List α := if pick.fmod 3 = 1 then l else l.eraseIdx (fateK pick l.length)
theorem tups_count (a : Addr) {l l' : List FT} (h : List.Sublist l' l) : ((tups l').map (·.1)).count a ≤ ((tups l).map (·.1)).count a := by
  unfold tups
  exact List.Sublist.count_le a ((h.map _).map _)
theorem fateL_sub {α : Type} (pick : Int) (l : List α) : List.Sublist (fateL pick l) l := by
  unfold fateL; split
  · exact List.Sublist.refl _
  · exact List.eraseIdx_sublist _ _
theorem tups_mem {l : List FT} {f : FT} (h : f ∈ l) : f.cell ∈ tups l := List.mem_map.mpr ⟨f, h, rfl⟩
theorem tups_sub {l l' : List FT} (h : List.Sublist l' l) : ∀ q ∈ tups l', q ∈ tups l := fun q hq => by
  obtain ⟨f, hf, rfl⟩ := List.mem_map.mp hq
  exact tups_mem (h.subset hf)
theorem fateL_map {α β : Type} (f : α → β) (pick : Int) (l : List α) : fateL pick (l.map f) = (fateL pick l).map f := by
  unfold fateL
  rw [List.length_map]
  split
  · rfl
  · simp only [List.eraseIdx_eq_take_drop_succ, List.map_append, List.map_take, List.map_drop]
noncomputable def LN.challengeComes (n : LN) (pick : Int) : LN := { n with
  forth := fateL pick n.forth
  back := if pick.fmod 3 = 1 ∨ pick.fmod 3 = 0 then n.back ++ ((n.forth[fateK pick n.forth.length]?).map (·.2)).toList else n.back }
section
variable {prog : Program} {w : World} {A : Around} {E : Value → Shared → Prop} {s : Shared} {h₀ : Heap} {L : Addr}
theorem m_eq_tup {a b : Addr} {x : Str} {c : Bts} {t1 t2 u1 u2 : Tok} {k1 k2 : Nat} {news : List (Addr × Obj)} {Q : Value → Shared → Prop} (N : News h₀ L s.heap news)
    (ha : (a, ({ cls := .type "tuple", data := .seq #[.str x t1, .bytes c u1] k1 } : Obj)) ∈ news) (hb : (b, ({ cls := .type "tuple", data := .seq #[.str x t2, .bytes c u2] k2 } : Obj)) ∈ news) (hu : A.units < cLine) (h : Q (.bool true) s) :
    wpAny (model prog w) A (compareOp .Eq (.ref a) (.ref b)) Q E s := by
  refine PySem.SeqAt.eq_tupleAt (e := fun _ => true) (items := #[.str x t1, .bytes c u1]) (items2 := #[.str x t2, .bytes c u2]) ⟨_, N.get ha, rfl, _, rfl⟩ ⟨_, N.get hb, rfl, _, rfl⟩ hu ?_ ?_
  · intro j h1 h2
    have hj : j = 0 ∨ j = 1 := by simp at h1; omega
    rcases hj with rfl | rfl
    · have := PySem.SeqAt.EqAt.str_str (A := A.in1) (s := s) x t1 x t2
      rw [beq_self_eq_true] at this
      exact this
    · have := (eqGives_bytes c c u1 u2).at A.in1 s
      rw [beq_self_eq_true] at this
      exact this
  · exact h
end

end
section
-- L4
theorem off_L4 : True := by w_top off; trivial
/-- a row of the law's shape -/
structure SR where
  (ta la : Addr)
  (tn ln : Nat)
  g : G
  rt : Tok
noncomputable def SR.ref (r : SR) : Value := .ref r.ta
noncomputable abbrev SR.cells (r : SR) : List (Addr × Obj) := [(r.ta, { cls := .type "tuple", data := .seq #[.str (placeStr r.g.place) r.g.plt, .str r.g.st.str r.g.stt, .ref r.la, deadV r.g.dead, .bool r.g.wants, roomV r.g.abs r.rt] r.tn }), (r.la, bl r.g.chal r.ln)]
structure SH where
  (ta la : Addr)
  (tn ln : Nat)
  rows : List SR
  place : Nat
  plt : Tok
  nv : Value
noncomputable abbrev rowsC (l : List SR) : List (Addr × Obj) := l.flatMap SR.cells
noncomputable abbrev SH.head (h : SH) : List (Addr × Obj) := [(h.ta, { cls := .type "tuple", data := .seq #[.ref h.la, .str (placeStr h.place) h.plt, h.nv] h.tn }), (h.la, listOf (h.rows.map SR.ref).toArray h.ln)]
theorem rowsC_append (a b : List SR) : rowsC (a ++ b) = rowsC a ++ rowsC b := by simp [rowsC]
section
open PySem.SeqAt
variable {A : Around} {s : Shared}
theorem eq_lists {l b : Addr} {items items2 : Array Value} (hl : s.heap.IsList l items) (hb : s.heap.IsList b items2) (hsz : items.size = items2.size) (hu : A.units < cLine)
    (he : ∀ j (h1 : j < items.size) (h2 : j < items2.size), EqAt A.in1 s items[j] items2[j] true) : EqAt A s (.ref l) (.ref b) true := by
  by_cases hlb : l = b
  · subst hlb; exact EqAt.same _
  · have h9 := RcAt.lists (e := fun _ => true) hl hb hsz hu he
    rw [show (List.range items.size).all (fun _ => true) = true by simp] at h9
    exact EqAt.of_refs hlb h9
theorem eq_tuples {l b : Addr} {items items2 : Array Value} (hl : s.heap.IsTuple l items) (hb : s.heap.IsTuple b items2) (hsz : items.size = items2.size) (hu : A.units < cLine)
    (he : ∀ j (h1 : j < items.size) (h2 : j < items2.size), EqAt A.in1 s items[j] items2[j] true) : EqAt A s (.ref l) (.ref b) true := by
  by_cases hlb : l = b
  · subst hlb; exact EqAt.same _
  · have h9 := RcAt.tuples (e := fun _ => true) hl hb hu he
    rw [show ((List.range (min items.size items2.size)).all (fun _ => true) && items.size == items2.size) = true by simp [hsz]] at h9
    exact EqAt.of_refs hlb h9
theorem eq_str {a b : Str} (t u : Tok) (h : a = b) : EqAt A s (.str a t) (.str b u) true := by
  subst h
  have := EqAt.str_str (A := A) (s := s) a t a u
  rwa [beq_self_eq_true] at this
theorem eq_int {a b : Int} (t u : Tok) (h : a = b) : EqAt A s (.int a t) (.int b u) true := by
  subst h
  have := EqAt.int_int (A := A) (s := s) a t a u
  rwa [beq_self_eq_true] at this
theorem eq_dead {a b : Option (Int × Tok)} (h : a.map (·.1) = b.map (·.1)) : EqAt A s (deadV a) (deadV b) true := by
  match a, b with
  | none, none => exact EqAt.same _
  | none, some _ => simp at h
  | some _, none => simp at h
  | some (i, t), some (j, u) => exact eq_int t u (by simpa using h)
theorem eq_room {p q : P} (t u : Tok) (h : p = q) : EqAt A s (roomV p t) (roomV q u) true := by
  subst h
  unfold roomV
  split
  · exact EqAt.same _
  · exact eq_int _ _ rfl
theorem eq_min {l : List Int} {a b : Value} (ha : IsMin l a) (hb : IsMin l b) : EqAt A s a b true := by
  rcases ha with ⟨rfl, rfl⟩ | ⟨m, t, rfl, hm, hm2⟩
  · rcases hb with ⟨_, rfl⟩ | ⟨m, t, rfl, hm, _⟩
    · exact EqAt.same _
    · cases hm
  · rcases hb with ⟨rfl, rfl⟩ | ⟨k, u, rfl, hk, hk2⟩
    · cases hm
    · exact eq_int _ _ (by have := hm2 k hk; have := hk2 m hm; omega)
theorem eq_row {h₀ : Heap} {L : Addr} {news : List (Addr × Obj)} (N : News h₀ L s.heap news) {r q : SR} (hr : ∀ e ∈ r.cells, e ∈ news) (hq : ∀ e ∈ q.cells, e ∈ news) (h : r.g.abs = q.g.abs) (hu : A.units + 2 < cLine) : EqAt A s r.ref q.ref true := by
  have h1 := congrArg P.place h
  have h2 := congrArg P.st h
  have h3 := congrArg P.chal h
  have h4 := congrArg P.dead h
  have h5 := congrArg P.wants h
  simp only [G.abs] at h1 h2 h3 h4 h5
  refine eq_tuples ⟨_, N.get (hr _ (.head _)), rfl, _, rfl⟩ ⟨_, N.get (hq _ (.head _)), rfl, _, rfl⟩ rfl (by omega) fun j j1 j2 => ?_
  have hj : j = 0 ∨ j = 1 ∨ j = 2 ∨ j = 3 ∨ j = 4 ∨ j = 5 := by simp at j1; omega
  rcases hj with rfl | rfl | rfl | rfl | rfl | rfl
  · exact eq_str _ _ (by rw [h1])
  · exact eq_str _ _ (by rw [h2])
  · have hlen : r.g.chal.length = q.g.chal.length := by
      have := congrArg List.length h3
      simpa using this
    refine eq_lists (isListL N (hr _ (.tail _ (.head _)))) (isListL N (hq _ (.tail _ (.head _)))) (by simpa using hlen) (by show A.units + 1 < cLine; omega) fun i i1 i2 => ?_
    simp only [List.getElem_toArray, List.getElem_map]
    have e : (r.g.chal.map (·.1))[i]'(by simpa using i1) = (q.g.chal.map (·.1))[i]'(by simpa using i2) := by simp only [h3]
    simp only [List.getElem_map] at e
    have := (eqGives_bytes (r.g.chal[i]'(by simpa using i1)).1 (q.g.chal[i]'(by simpa using i2)).1 (r.g.chal[i]'(by simpa using i1)).2 (q.g.chal[i]'(by simpa using i2)).2).at A.in1.in1 s
    rw [show ((r.g.chal[i]'(by simpa using i1)).1 == (q.g.chal[i]'(by simpa using i2)).1) = true from by rw [e]; exact beq_self_eq_true _] at this
    exact this
  · exact eq_dead h4
  · show EqAt _ _ (.bool r.g.wants) (.bool q.g.wants) true
    rw [h5]; exact EqAt.same _
  · exact eq_room _ _ h
theorem m_eq_shape {prog : Program} {w : World} {E : Value → Shared → Prop} {h₀ : Heap} {L : Addr} {news : List (Addr × Obj)} {Q : Value → Shared → Prop} (N : News h₀ L s.heap news) {a b : SH} (ha : ∀ e ∈ a.head ++ rowsC a.rows, e ∈ news) (hb : ∀ e ∈ b.head ++ rowsC b.rows, e ∈ news)
    (hrows : a.rows.map (·.g.abs) = b.rows.map (·.g.abs)) (hpl : a.place = b.place) {l : List Int} (hma : IsMin l a.nv) (hmb : IsMin l b.nv) (hu : A.units + 4 < cLine) (h : Q (.bool true) s) :
    wpAny (model prog w) A (compareOp .Eq (.ref a.ta) (.ref b.ta)) Q E s := by
  refine PySem.SeqAt.eq_tupleAt (e := fun _ => true) (items := #[.ref a.la, .str (placeStr a.place) a.plt, a.nv]) (items2 := #[.ref b.la, .str (placeStr b.place) b.plt, b.nv]) ⟨_, N.get (ha _ (.head _)), rfl, _, rfl⟩ ⟨_, N.get (hb _ (.head _)), rfl, _, rfl⟩ (by omega) ?_ h
  intro j j1 j2
  have hj : j = 0 ∨ j = 1 ∨ j = 2 := by simp at j1; omega
  rcases hj with rfl | rfl | rfl
  · have hlen : a.rows.length = b.rows.length := by
      have := congrArg List.length hrows
      simpa using this
    refine eq_lists (isListL N (ha _ (.tail _ (.head _)))) (isListL N (hb _ (.tail _ (.head _)))) (by simpa using hlen) (by show A.units + 1 < cLine; omega) fun i i1 i2 => ?_
    simp only [List.getElem_toArray, List.getElem_map]
    have e : (a.rows.map (·.g.abs))[i]'(by simpa using i1) = (b.rows.map (·.g.abs))[i]'(by simpa using i2) := by simp only [hrows]
    simp only [List.getElem_map] at e
    refine eq_row N ?_ ?_ e (by show A.units + 1 + 1 + 2 < cLine; omega)
    · intro x hx
      exact ha _ (List.mem_append_right _ (List.mem_flatMap.mpr ⟨_, List.getElem_mem _, hx⟩))
    · intro x hx
      exact hb _ (List.mem_append_right _ (List.mem_flatMap.mpr ⟨_, List.getElem_mem _, hx⟩))
  · exact eq_str _ _ (by rw [hpl])
  · exact eq_min hma hmb
end
theorem m_listOf {prog : Program} {w : World} {A : Around} {E : Value → Shared → Prop} {s : Shared} {h₀ : Heap} {L : Addr} {m : Str → Option Value} {b : Addr} {vs : List Value} {n2 : Nat} {news : List (Addr × Obj)} {Q : Value → Shared → Prop} (F : Fr h₀ L s.heap m) (N : News h₀ L s.heap news) (hb : (b, listOf vs.toArray n2) ∈ news) (hz : vs.length ≤ 100000)
    (h : ∀ D c h', Fr h₀ L h' m → News h₀ L h' ((D, listOf vs.toArray c) :: news) → (∀ q ∈ news, q.1 < D) → Q (.ref D) { s with heap := h' }) : wpAny (model prog w) A (call (.type "list") [.ref b]) Q E s :=
  kup_listOf F N hb rfl h (by rw [sizeLine_eq]; show vs.length ≤ _; omega)
theorem off3_of {I C D : Addr} : ∀ {l : List (Addr × Obj)}, (∀ p ∈ l, (@Ne Nat p.1 I) ∧ (@Ne Nat p.1 C) ∧ (@Ne Nat p.1 D)) → LCg.Off3 I C D l
  | [], _ => trivial
  | _ :: _, h => ⟨h _ (.head _), off3_of fun p hp => h p (.tail _ hp)⟩
theorem shape_end {h₀ : Heap} {L I C D : Addr} {m : Str → Option Value} {s₁ : Shared} {oI oC oD : Obj} {S : List (Addr × Obj) → Prop} {rest : Value → List (Addr × Obj) → Prop} {h' : Heap} {tk : Nat} {all : List (Addr × Obj)}
    (F : Fr h₀ L h' m) (N : News h₀ L h' all) (r : SR) (H B : List (Addr × Obj)) (sub : ∀ p ∈ (I, oI) :: (C, oC) :: (D, oD) :: (H ++ (r.cells ++ B)), p ∈ all) (off : LCg.Off3 I C D (H ++ (r.cells ++ B))) (hS : S (H ++ (r.cells ++ B))) (hr : rest r.ref (H ++ (r.cells ++ B))) :
    LCg.CompEnd h₀ L m s₁ I oI C oC D oD S rest r.ref { s₁ with heap := h', toks := tk } := LCg.CompEnd.intro F N _ sub off hS hr
theorem off1_mem {D : Addr} : ∀ {l : List (Addr × Obj)}, LCg.Off1 D l → ∀ q ∈ l, q.1 ≠ D
  | [], _, _, h => nomatch h
  | _ :: _, x, q, h => by
    rcases List.mem_cons.mp h with rfl | h
    · exact x.1
    · exact off1_mem x.2 q h
section
variable {prog : Program} {w : World} {A : Around} {E : Value → Shared → Prop} {s : Shared} {h₀ : Heap} {L : Addr}
theorem m_eq_nil {a b : Addr} {vs : List Value} {n n2 : Nat} {k : Bool} {news : List (Addr × Obj)} {Q : Value → Shared → Prop} (N : News h₀ L s.heap news) (ha : (a, listOf vs.toArray n) ∈ news) (hb : (b, listOf #[] n2) ∈ news) (hk : vs.isEmpty = k) (hu : A.units < cLine) (h : Q (.bool k) s) :
    wpAny (model prog w) A (compareOp .Eq (.ref a) (.ref b)) Q E s := by
  subst hk
  cases vs with
  | nil => exact PySem.SeqAt.eq_listAt (e := fun _ => true) (isListL N ha) (isListL (vs := []) N hb) rfl hu (fun j h1 => absurd h1 (Nat.not_lt_zero j)) h
  | cons v r => exact PySem.SeqAt.eq_list_lengthsAt (isListL N ha) (isListL (vs := []) N hb) rfl hu h
theorem m_ne_nil {a b : Addr} {vs : List Value} {n n2 : Nat} {k : Bool} {news : List (Addr × Obj)} {Q : Value → Shared → Prop} (N : News h₀ L s.heap news) (ha : (a, listOf vs.toArray n) ∈ news) (hb : (b, listOf #[] n2) ∈ news) (hk : vs.isEmpty = k) (hu : A.units < cLine) (h : Q (.bool (!k)) s) :
    wpAny (model prog w) A (compareOp .NotEq (.ref a) (.ref b)) Q E s := by
  subst hk
  cases vs with
  | nil => exact PySem.SeqAt.RcNeAt.lists (e := fun _ => true) (isListL N ha) (isListL (vs := []) N hb) rfl hu (fun j h1 => absurd h1 (Nat.not_lt_zero j)) prog w E Q h
  | cons v r => exact PySem.SeqAt.RcNeAt.lists_lengths (isListL N ha) (isListL (vs := []) N hb) rfl hu prog w E Q h
end
/-- what lies at an index that is no numeral -/
structure Item9 (vs : List Value) (k : Int) (v : Value) : Prop where
  pos : 0 ≤ k
  lt : k < 2 ^ 63
  get : vs[k.toNat]? = some v
theorem m_item9 {prog : Program} {w : World} {A : Around} {E : Value → Shared → Prop} {s : Shared} {h₀ : Heap} {L : Addr} {value slice : PySem.Expr} {l : Addr} {vs : List Value} {v : Value} {n : Nat} {k : Int} {u : Tok} {news : List (Addr × Obj)} {Q : Value → Shared → Prop} (hx : Item9 vs k v) (N : News h₀ L s.heap news) (hm : (l, listOf vs.toArray n) ∈ news)
    (hs : subscripted slice false (.ref l) (.int k u) = operate [.ref l, .int k u] (getItem (.ref l) (.int k u))) (h : Q v s) :
    wpAny (model prog w) A (subscriptTail value slice (.ref l) (.int k u)) Q E s := by
  have hl := isListL N hm
  exact subscriptTail_builtinR hl.typeIs slot_list_getitem.lookup (wpAny_getItem_list hl hx.pos hx.lt (by simpa using hx.get) ⟨rfl, h⟩) hs

end
section
-- L5
theorem off_L5 : True := by w_top off; trivial
/-- the law's state, its plain side -/
structure LS where
  n : LN
  ps : List P
  act : Nat
  last : Option Nat
  high : Int
structure LN.Sm (n : LN) : Prop where
  failed : n.failed.length ≤ 500
  over : n.over.length ≤ 500
  proven : n.proven.length ≤ 500
  q0 : (n.open_ 0).length ≤ 500
  q1 : (n.open_ 1).length ≤ 500
  q2 : (n.open_ 2).length ≤ 500
  forth : n.forth.length ≤ 500
  back : n.back.length ≤ 500
structure St (w : World) (g : NG) (pg : PG) (S : LS) : Prop where
  ok : g.Ok w
  nabs : g.abs = S.n
  kabs : pg.known.map G.abs = S.ps
  pat : PG.at pg.known pg.ax S.act
  lst : PG.lastOk pg.known pg.last S.last
  high : pg.high = S.high
theorem sm_of {g : NG} {n : LN} (e : g.abs = n) (h : n.Sm) : g.Sm := by
  subst e
  obtain ⟨h1, h2, h3, h4, h5, h6, h7, h8⟩ := h
  simp only [NG.abs, fsts, List.length_map, tri] at h1 h2 h3 h4 h5 h6 h7 h8
  exact ⟨by omega, by omega, by omega, by omega, by omega, by omega, by omega, by omega⟩
noncomputable abbrev W0 (w : World) (g : NG) (pg : PG) (T : List (Addr × Obj)) : List (Addr × Obj) := g.cells ++ (pg.hdr w ++ (flat w pg.known ++ T))
noncomputable abbrev PostW (w : World) (g : NG) (pg : PG) (T : List (Addr × Obj)) (S : LS) (v : Value) (news' : List (Addr × Obj)) : Prop :=
  ∃ (g' : NG) (pg' : PG) , v = .bool true ∧ news' = W0 w g' pg' T ∧ St w g' pg' S ∧ g'.nd = g.nd ∧ pg'.p = pg.p ∧ g'.forth = g.forth ∧ Sep (W0 w g' pg' T)
/-- what the law asks of its state at all times -/
structure LS.Good (S : LS) : Prop where
  sm : S.n.Sm
  k3 : ∀ p ∈ S.ps, p.place < 3
  len : S.ps.length ≤ 3
  nd : PlacesNd S.ps
  rcv : ∀ p ∈ S.ps, 0 ≤ p.recv ∧ p.recv ≤ 1000000
  chal : ∀ p ∈ S.ps, p.chal.length ≤ 500
noncomputable def P.has (b : Bts) (p : P) : Bool := p.chal.contains b
theorem has_abs (b : Bts) (q : G) : q.has b = q.abs.has b := rfl
theorem find_abs {known : List G} {ps : List P} (h : known.map G.abs = ps) (b : Bts) : ps.find? (P.has b) = (known.find? (G.has b)).map G.abs := by
  subst h; rw [List.find?_map]; rfl
structure Facts (pg : PG) : Prop where
  k3 : ∀ q ∈ pg.known, q.place < 3
  len : pg.known.length ≤ 3
  nd : PlacesNd (pg.known.map G.abs)
  rcv : ∀ q ∈ pg.known, 0 ≤ q.recv ∧ q.recv ≤ 1000000
  chal : ∀ q ∈ pg.known, q.chal.length ≤ 1000
theorem facts_of {w : World} {g : NG} {pg : PG} {S : LS} (st : St w g pg S) (hg : S.Good) : Facts pg := by
  obtain ⟨_, h2, h3, h4, h5, h6⟩ := hg
  have e := st.kabs
  have key : ∀ q ∈ pg.known, q.abs ∈ S.ps := fun q hq => e ▸ List.mem_map.mpr ⟨q, hq, rfl⟩
  refine ⟨fun q hq => h2 _ (key q hq), ?_, e ▸ h4, fun q hq => h5 _ (key q hq), fun q hq => ?_⟩
  · have := congrArg List.length e
    simp at this; omega
  · have := h6 _ (key q hq)
    simp only [G.abs, List.length_map] at this
    omega
theorem ints_nil {ys : List Value} (h : IntsAre ys []) : ys = [] := by cases h; rfl
theorem ints_one {ys : List Value} {d : Int} (h : IntsAre ys [d]) : ∃ t, ys = [.int d t] := by
  cases h with
  | cons i t r => cases r; exact ⟨_, rfl⟩
theorem ints_snoc : ∀ {ys : List Value} {l : List Int} (d : Int) (t : Tok), IntsAre ys l → IntsAre (ys ++ [.int d t]) (l ++ [d])
  | _, _, d, t, .nil => .cons _ _ .nil
  | _, _, d, t, .cons _ _ r => .cons _ _ (ints_snoc d t r)
noncomputable def due (n : LN) (x : Bts) (k : Nat) : List Nat := (List.range k).filter fun a => (n.open_ a).contains x
theorem due_succ (n : LN) (x : Bts) (k : Nat) : due n x (k + 1) = due n x k ++ (if (n.open_ k).contains x then [k] else []) := by
  unfold due
  rw [List.range_succ, List.filter_append]
  congr 1
  cases h : (n.open_ k).contains x
  · simp only [List.filter_cons, List.filter_nil, h]
  · simp only [List.filter_cons, List.filter_nil, h]
noncomputable def LN.answered (n : LN) (pick : Int) : LN := { n with back := fateL pick n.back }
noncomputable def LS.answer (S : LS) (pick : Int) : LS :=
  if pick.fmod 3 = 1 ∨ pick.fmod 3 = 0 then
    match S.n.back[fateK pick S.n.back.length]? with
    | some x => match due S.n x 3 with
      | d :: _ => { S with n := ({ S.n.answered pick with proven := S.n.proven ++ [(d : Int)] } : LN).ended d, ps := atK P.prove S.ps d, last := if d = S.act then some d else S.last }
      | [] => { S with n := S.n.answered pick }
    | none => { S with n := S.n.answered pick }
  else { S with n := S.n.answered pick }
/-- what holds of an octet string that comes back -/
noncomputable def LS.Hit (S : LS) (x : Bts) : Prop := (due S.n x 3 = [] ∧ ∀ p ∈ S.ps, p.has x = false) ∨ ∃ d q, due S.n x 3 = [d] ∧ S.ps.find? (P.has x) = some q ∧ q.place = d
theorem sep_cells2 {L : Addr} {l : List (Addr × Obj)} (h : Sep l) (hl : ∀ q ∈ l, q.1 < L) (o1 o2 : Obj) : Sep ((L + 1 + 1, o1) :: (L + 1, o2) :: l) := by
  refine ⟨fun q hq => ?_, fun q hq => ?_, h⟩
  · rcases List.mem_cons.mp hq with rfl | hq
    · exact Nat.ne_of_lt (Nat.lt_succ_self _)
    · exact Nat.ne_of_lt (Nat.lt_trans (hl q hq) (Nat.lt_succ_of_lt (Nat.lt_succ_self _)))
  · exact Nat.ne_of_lt (Nat.lt_succ_of_lt (hl q hq))
theorem sep_cells1 {L : Addr} {l : List (Addr × Obj)} (h : Sep l) (hl : ∀ q ∈ l, q.1 < L) (o1 : Obj) : Sep ((L + 1, o1) :: l) :=
  ⟨fun q hq => Nat.ne_of_lt (Nat.lt_succ_of_lt (hl q hq)), h⟩
theorem push_ival (l : List (Int × Tok)) (i : Int) (t : Tok) : (l.map ival).toArray.push (.int i t) = ((l ++ [(i, t)]).map ival).toArray := by simp [ival]
theorem at_of {known gs : List G} {x : Addr} {c : Nat} (h : PG.at known x c) (ha : ∀ r ∈ known, PG.at gs r.x r.place) : PG.at gs x c := by
  obtain ⟨q, hq, rfl, rfl⟩ := h
  exact ha q hq
theorem lastOk_of {known gs : List G} {l : Option Addr} {c : Option Nat} (h : PG.lastOk known l c) (ha : ∀ r ∈ known, PG.at gs r.x r.place) : PG.lastOk gs l c := by
  match l, c, h with
  | none, none, _ => trivial
  | some x, some c, h => exact at_of h ha
theorem due_lt {n : LN} {x : Bts} {d : Nat} (h : due n x 3 = [d]) : d < 3 := by
  have h1 : d ∈ due n x 3 := by rw [h]; exact .head _
  exact List.mem_range.mp (List.mem_filter.mp h1).1
noncomputable def b8 (c : Int) : Bts := (List.replicate 8 c.toNat.toUInt8).toArray
noncomputable def b9 : Bts := ([0, 0, 0, 0, 0, 0, 0, 9] : List UInt8).toArray
section
variable {prog : Program} {w : World} {A : Around} {E : Value → Shared → Prop} {s : Shared} {h₀ : Heap} {L : Addr} {m : Str → Option Value} {news : List (Addr × Obj)}
theorem m_bytes8 {l : Addr} {c : Int} {t : Tok} {n : Nat} {Q : Value → Shared → Prop} (F : Fr h₀ L s.heap m) (N : News h₀ L s.heap news) (hm : (l, listOf (List.replicate (Int.toNat 8) [Value.int c t]).flatten.toArray n) ∈ news) (h0 : 0 ≤ c) (h1 : c < 256) (hh : A.handled = none)
    (h : ∀ h' t k, Fr h₀ L h' m → News h₀ L h' news → Q (.bytes (b8 c) t) { s with heap := h', toks := k }) : wpAny (model prog w) A (call (.type "bytes") [.ref l]) Q E s := by
  refine bytes_K (vs := List.replicate 8 (.int c t)) (ns := List.replicate 8 c) F N (isListL N hm) ?_ ?_ ?_ hh ?_
  · exact .cons _ _ (.cons _ _ (.cons _ _ (.cons _ _ (.cons _ _ (.cons _ _ (.cons _ _ (.cons _ _ .nil)))))))
  · intro x hx
    rw [List.eq_of_mem_replicate hx]
    omega
  · rw [sizeLine_eq]; simp
  · intro h' t' k F' N' _
    have := h h' t' k F' N'
    exact this
theorem m_bytes9 {l : Addr} {t u : Tok} {n : Nat} {Q : Value → Shared → Prop} (F : Fr h₀ L s.heap m) (N : News h₀ L s.heap news) (hm : (l, listOf ((List.replicate (Int.toNat 7) [Value.int 0 t]).flatten ++ [Value.int 9 u]).toArray n) ∈ news) (hh : A.handled = none)
    (h : ∀ h' t k, Fr h₀ L h' m → News h₀ L h' news → Q (.bytes b9 t) { s with heap := h', toks := k }) : wpAny (model prog w) A (call (.type "bytes") [.ref l]) Q E s := by
  refine bytes_K (vs := (List.replicate (Int.toNat 7) [Value.int 0 t]).flatten ++ [Value.int 9 u]) (ns := [0, 0, 0, 0, 0, 0, 0, 9]) F N (isListL N hm) ?_ ?_ ?_ hh ?_
  · exact .cons _ _ (.cons _ _ (.cons _ _ (.cons _ _ (.cons _ _ (.cons _ _ (.cons _ _ (.cons _ _ .nil)))))))
  · decide
  · rw [sizeLine_eq]
    have : ((List.replicate (Int.toNat 7) [Value.int 0 t]).flatten ++ [Value.int 9 u]).length = 8 := rfl
    omega
  · intro h' t' k F' N' _
    have := h h' t' k F' N'
    exact this
end
theorem lies_pack {h₀ h : Heap} {L l : Addr} {over : List (Bts × Tok)} {a b c : Bts} {t u v : Tok} {n : Nat} {rest : List (Addr × Obj)} (N : News h₀ L h ((l, listOf (over.map bval ++ [Value.bytes a t, Value.bytes b u, Value.bytes c v]).toArray n) :: rest)) :
    ∃ s9 : List (Bts × Tok), s9.map (·.1) = over.map (·.1) ++ [a, b, c] ∧ s9.length = over.length + 3 ∧ News h₀ L h ((l, bl s9 n) :: rest) :=
  ⟨over ++ [(a, t), (b, u), (c, v)], by simp, by simp, by rw [show bl (over ++ [(a, t), (b, u), (c, v)]) n = listOf (over.map bval ++ [Value.bytes a t, Value.bytes b u, Value.bytes c v]).toArray n by simp [bval]]; exact N⟩
theorem sep_ins {w : World} {g : NG} {pg : PG} {T0 : List (Addr × Obj)} {a : Addr} {o : Obj} (h : Sep (W0 w g pg T0)) (ha : ∀ q ∈ W0 w g pg T0, q.1 ≠ a) : Sep (pg.hdr w ++ (flat w pg.known ++ ((a, o) :: (g.cells ++ T0)))) := by
  have h1 : Sep ((a, o) :: W0 w g pg T0) := ⟨ha, h⟩
  exact h1.of_count fun x => by
    simp only [W0, NG.cells, PG.hdr, List.cons_append, List.nil_append, List.map_cons, List.map_append, List.count_cons, List.count_append]; omega
noncomputable def LN.moved (n : LN) (a : Nat) : LN := { n with number := n.number + 1, active := a, failed := if a ≠ n.active then n.failed.filter (fun o => o != (a : Int)) else n.failed }
noncomputable def LS.moves (S : LS) (a : Nat) : LS :=
  { n := S.n.moved a, ps := if a = S.act then recvK (openK S.ps a) a 100 else renewK (recvK (openK S.ps a) a 100) a, act := a,
    last := if a ≠ S.act ∧ ((recvK (openK S.ps a) a 100).find? (·.place == S.act)).map (·.st) = some .proven then some S.act else S.last, high := S.n.number + 1 }
theorem places_lt {n : Nat} (h : n < 3) : n = 0 ∨ n = 1 ∨ n = 2 := by omega
theorem item_place (a : Nat) (h : a < 3) (x0 x1 x2 : Tok) : Item9 [.str (placeStr 0) x0, .str (placeStr 1) x1, .str (placeStr 2) x2] (a : Int) (.str (placeStr a) (tri 0 x0 x1 x2 a)) := by
  refine ⟨by omega, by omega, ?_⟩
  obtain rfl | rfl | rfl := places_lt h
  all_goals rfl
theorem openK_mem {ps : List P} {a : Nat} {p : P} (h : p ∈ openK ps a) : p ∈ ps ∨ p = P.new a := by
  unfold openK at h
  split at h
  · exact .inl h
  · rcases List.mem_append.mp h with h | h
    · exact .inl h
    · exact .inr (List.mem_singleton.mp h)
theorem openK_nd {ps : List P} {a : Nat} (h : PlacesNd ps) : PlacesNd (openK ps a) := by
  unfold openK
  split
  · exact h
  · rename_i hn
    unfold PlacesNd at h ⊢
    rw [List.map_append, List.nodup_append]
    refine ⟨h, List.nodup_cons.mpr ⟨List.not_mem_nil, List.nodup_nil⟩, fun x hx y hy => ?_⟩
    simp only [List.map_cons, List.map_nil, List.mem_singleton] at hy
    subst hy
    intro e
    subst e
    obtain ⟨q, hq, hq2⟩ := List.mem_map.mp hx
    exact hn (List.any_eq_true.mpr ⟨q, hq, by rw [hq2]; exact beq_self_eq_true _⟩)
theorem recvK_places (ps : List P) (a : Nat) (n : Int) : (recvK ps a n).map (·.place) = ps.map (·.place) := by
  unfold recvK
  rw [List.map_map]
  refine List.map_congr_left fun p _ => ?_
  simp only [Function.comp]
  split <;> rfl
theorem openK_lt {ps : List P} {a : Nat} (ha : a < 3) (h : ∀ p ∈ ps, p.place < 3) : ∀ p ∈ openK ps a, p.place < 3 := fun p hp => by
  rcases openK_mem hp with h1 | rfl
  · exact h p h1
  · exact ha
theorem item_ival {l : List (Int × Tok)} {i : Nat} {v : Value} (h : (l.map ival)[i]? = some v) : ∃ p, l[i]? = some p ∧ v = .int p.1 p.2 := by
  rw [List.getElem?_map, Option.map_eq_some_iff] at h
  obtain ⟨p, hp, rfl⟩ := h
  exact ⟨p, hp, rfl⟩
noncomputable def keep (a : Int) (l : List (Int × Tok)) : List (Int × Tok) := l.filter fun o => o.1 != a
theorem keep_fsts (a : Int) (l : List (Int × Tok)) : fsts (keep a l) = (fsts l).filter fun o => o != a := by
  unfold keep fsts
  rw [List.filter_map]; rfl
theorem keep_snoc {a : Int} {l : List (Int × Tok)} {i : Nat} {p : Int × Tok} (h : l[i]? = some p) : keep a (l.take (i + 1)) = keep a (l.take i) ++ (if (p.1 != a) = true then [p] else []) := by
  unfold keep
  rw [List.take_add_one, h, Option.toList_some, List.filter_append]
  congr 1
  cases hp : (p.1 != a)
  · simp only [List.filter_cons, List.filter_nil, hp]
  · simp only [List.filter_cons, List.filter_nil, hp]

end
section
-- L6
theorem off_L6 : True := by w_top off; trivial
section
variable {prog : Program} {w : World} {A : Around} {E : Value → Shared → Prop} {s : Shared} {h₀ : Heap} {L : Addr}
noncomputable def isI (x : Int) : Value → Bool
  | .int c _ => c == x
  | _ => false
noncomputable def AllInt (vs : List Value) : Prop := ∀ y ∈ vs, ∃ a t, y = .int a t
theorem allInt_map (l : List (Int × Tok)) : AllInt (l.map ival) := fun y hy => by
  obtain ⟨p, _, rfl⟩ := List.mem_map.mp hy
  exact ⟨p.1, p.2, rfl⟩
theorem allInt_append {a b : List Value} (ha : AllInt a) (hb : AllInt b) : AllInt (a ++ b) := fun y hy => (List.mem_append.mp hy).elim (ha y) (hb y)
theorem any_isI (x : Int) : ∀ l : List (Int × Tok), (l.map ival).any (isI x) = (fsts l).contains x
  | [] => rfl
  | c :: r => by
    simp only [fsts, List.map_cons, List.any_cons, List.contains_cons]
    rw [show isI x (ival c) = (c.1 == x) from rfl, any_isI x r, BEq.comm]
theorem in_ints {l : Addr} {vs : List Value} {n : Nat} {news : List (Addr × Obj)} {x : Int} {t : Tok} {Q : Value → Shared → Prop} (N : News h₀ L s.heap news) (hm : (l, listOf vs.toArray n) ∈ news) (hv : AllInt vs)
    (h : Q (.bool (vs.any (isI x))) s) : wpAny (model prog w) A (compareOp .In (.int x t) (.ref l)) Q E s := by
  refine PySem.SeqInW.in_listW (isI x) (fun y hy => ?_) (isListL N hm) ?_
  · obtain ⟨a, u, rfl⟩ := hv y (by simpa using hy)
    exact PySem.MeetsSeq.EqGives.int a x u t
  · rw [← Array.any_toList]; exact h
theorem notin_ints {l : Addr} {vs : List Value} {n : Nat} {news : List (Addr × Obj)} {x : Int} {t : Tok} {Q : Value → Shared → Prop} (N : News h₀ L s.heap news) (hm : (l, listOf vs.toArray n) ∈ news) (hv : AllInt vs)
    (h : Q (.bool (!vs.any (isI x))) s) : wpAny (model prog w) A (compareOp .NotIn (.int x t) (.ref l)) Q E s := by
  refine PySem.SeqInW.notIn_listW (isI x) (fun y hy => ?_) (isListL N hm) ?_
  · obtain ⟨a, u, rfl⟩ := hv y (by simpa using hy)
    exact PySem.MeetsSeq.EqGives.int a x u t
  · rw [← Array.any_toList]; exact h
theorem in_intsK {l : Addr} {vs : List Value} {n : Nat} {news : List (Addr × Obj)} {x : Int} {t : Tok} {k : Bool} {Q : Value → Shared → Prop} (N : News h₀ L s.heap news) (hm : (l, listOf vs.toArray n) ∈ news) (hv : AllInt vs) (hk : vs.any (isI x) = k)
    (h : Q (.bool k) s) : wpAny (model prog w) A (compareOp .In (.int x t) (.ref l)) Q E s := in_ints N hm hv (by rw [hk]; exact h)
theorem notin_intsK {l : Addr} {vs : List Value} {n : Nat} {news : List (Addr × Obj)} {x : Int} {t : Tok} {k : Bool} {Q : Value → Shared → Prop} (N : News h₀ L s.heap news) (hm : (l, listOf vs.toArray n) ∈ news) (hv : AllInt vs) (hk : vs.any (isI x) = k)
    (h : Q (.bool (!k)) s) : wpAny (model prog w) A (compareOp .NotIn (.int x t) (.ref l)) Q E s := notin_ints N hm hv (by rw [hk]; exact h)
theorem any_ints {l : List (Int × Tok)} {x : Int} (h : x ∈ fsts l) : (l.map ival).any (isI x) = true := by
  rw [any_isI]; simpa using h
theorem any_intsN {l : List (Int × Tok)} {x : Int} (h : x ∉ fsts l) : (l.map ival).any (isI x) = false := by
  rw [any_isI]; simpa using h
end
noncomputable def LS.wantsB (S : LS) : Bool := match S.ps.find? (·.place == S.act) with
  | some p => decide (p.st = .unproven ∨ (p.st = .trying ∧ p.wants = true))
  | none => false
noncomputable def LN.asked (n : LN) : LN := { n with count := n.count + 1, end_ := if n.end_ n.active = none then upd n.end_ n.active (some (n.now + 60)) else n.end_, open_ := upd n.open_ n.active (n.open_ n.active ++ [b8 n.count]), forth := if n.hears n.active = true then n.forth ++ [(n.active, b8 n.count)] else n.forth }
noncomputable def LS.asks (S : LS) : LS := if S.wantsB = true then { S with n := S.n.asked, ps := atK (fun p => p.challenge (b8 S.n.count) (S.n.now + 60)) S.ps S.act } else S
noncomputable abbrev PostA (w : World) (g : NG) (pg : PG) (T : List (Addr × Obj)) (S : LS) (v : Value) (news' : List (Addr × Obj)) : Prop :=
  ∃ (g' : NG) (pg' : PG) (more : List FT) , v = .bool true ∧ news' = W0 w g' pg' (tups more ++ T) ∧ St w g' pg' S ∧ g'.nd = g.nd ∧ pg'.p = pg.p ∧ g'.forth = g.forth ++ more ∧ Sep (W0 w g' pg' (tups more ++ T))
theorem push_ft (l : List FT) (f : FT) : (l.map FT.ref).toArray.push (.ref f.ta) = ((l ++ [f]).map FT.ref).toArray := by rw [List.map_append, List.push_toArray]; rfl
theorem ft_pack {h₀ h : Heap} {L D : Addr} {pt bt : Tok} {b : Bts} {n : Nat} {rest : List (Addr × Obj)} (a : Nat) (N : News h₀ L h ((D, { cls := .type "tuple", data := .seq #[.str (placeStr a) pt, .bytes b bt] n }) :: rest)) :
    ∃ f : FT, D = f.ta ∧ f.place = a ∧ f.b = b ∧ News h₀ L h (f.cell :: rest) := ⟨⟨D, a, pt, b, bt, n⟩, rfl, rfl, rfl, N⟩

end
section
-- L7
theorem off_L7 : True := by w_top off; trivial
section
variable {prog : Program} {w : World} {A : Around} {E : Value → Shared → Prop} {s : Shared} {env : Env} {h₀ : Heap} {x : Str} {body : List Stmt} {Q : Flow → Shared → Prop}
/-- a loop over a range: J i holds of the ledger ahead of turn i -/
theorem rangeRest_of {I : Addr} {a : Int} {n : Nat} {m₀ : Str → Option Value} (J : Nat → List (Addr × Obj) → Prop)
    (turn : ∀ i t it h tk nw, i < n → J i nw → (∀ p ∈ nw, p.1 ≠ I) → Fr h₀ env.locals h (fun y => if y = x then some (.int (a + (i : Int)) t) else m₀ y) → News h₀ env.locals h ((I, it) :: nw) →
      wpAny (model prog w) A (execs body env) (UnrPost h₀ env.locals { s with heap := h, toks := tk } I it (fun m' n' => (∃ u, m' = fun y => if y = x then u else m₀ y) ∧ J (i + 1) n') Q) E { s with heap := h, toks := tk })
    (done : ∀ h tk u nw, J n nw → Fr h₀ env.locals h (fun y => if y = x then u else m₀ y) → News h₀ env.locals h nw → Q .next { s with heap := h, toks := tk })
    (news : List (Addr × Obj)) (hj : J 0 news) (hI : ∀ p ∈ news, p.1 < I) : RangeRest prog w A E h₀ env x body Q s I a n n 0 m₀ news := by
  have key : ∀ (k i : Nat) (u : Option Value) (nw : List (Addr × Obj)), i + k = n → J i nw → (∀ p ∈ nw, p.1 ≠ I) → RangeRest prog w A E h₀ env x body Q s I a n k i (fun y => if y = x then u else m₀ y) nw := by
    intro k
    induction k with
    | zero =>
      intro i u nw hi hJ hI
      have e : i = n := by omega
      subst e
      exact RangeRest.zero fun h tk F N => done h tk u nw hJ F N
    | succ k ih =>
      intro i u nw hi hJ hI
      refine RangeRest.succ fun t h tk F N => ?_
      have e : (fun y => if y = x then some (.int (a + (i : Int)) t) else if y = x then u else m₀ y) = fun y => if y = x then some (Value.int (a + (i : Int)) t) else m₀ y := by
        funext y; by_cases hy : y = x <;> simp [hy]
      rw [e] at F
      refine wpAny_mono (turn i t _ h tk nw (by omega) hJ hI F N) (fun f s₂ hp => ?_) fun _ _ e => e
      cases f with
      | ret v => exact hp
      | brk => exact hp
      | next =>
        obtain ⟨h', tk, m', n', e, F', N', o, ⟨u', rfl⟩, x3⟩ := hp
        exact ⟨h', tk, _, n', e, F', N', o, ih (i + 1) u' n' (by omega) x3 o⟩
      | cont =>
        obtain ⟨h', tk, m', n', e, F', N', o, ⟨u', rfl⟩, x3⟩ := hp
        exact ⟨h', tk, _, n', e, F', N', o, ih (i + 1) u' n' (by omega) x3 o⟩
  have e0 : m₀ = fun y => if y = x then m₀ x else m₀ y := by funext y; by_cases hy : y = x <;> simp [hy]
  rw [e0]
  exact key n 0 (m₀ x) news (by omega) hj fun p hp => Nat.ne_of_lt (hI p hp)
end
theorem tri_map {α β : Type} (f : α → β) (d : Option α) (x y z : Option α) (i : Nat) : tri (d.map f) (x.map f) (y.map f) (z.map f) i = (tri d x y z i).map f := by
  match i with | 0 => rfl | 1 => rfl | 2 => rfl | _ + 3 => rfl
theorem valueAt3 (x y z d : Value) {i : Nat} (h : i < 3) : PySem.valueAt [((0 : Int), x), (1, y), (2, z)] (i : Int) = some (tri d x y z i) := by
  rcases places_lt h with rfl | rfl | rfl <;> rfl
noncomputable def LN.lapse (n : LN) (k : Nat) : LN := match n.end_ k with
  | some d => if d ≤ n.now then { (n.ended k) with failed := n.failed ++ [(k : Int)] } else n
  | none => n
noncomputable def LN.lapses (n : LN) : Nat → LN
  | 0 => n
  | k + 1 => (n.lapses k).lapse k
theorem lapse_now (n : LN) (k : Nat) : (n.lapse k).now = n.now ∧ (n.lapse k).active = n.active ∧ (n.lapse k).forth = n.forth ∧ (n.lapse k).proven = n.proven := by
  unfold LN.lapse
  split
  · split <;> exact ⟨rfl, rfl, rfl, rfl⟩
  · exact ⟨rfl, rfl, rfl, rfl⟩
theorem lapses_now (n : LN) : ∀ k, (n.lapses k).now = n.now ∧ (n.lapses k).active = n.active ∧ (n.lapses k).forth = n.forth ∧ (n.lapses k).proven = n.proven
  | 0 => ⟨rfl, rfl, rfl, rfl⟩
  | k + 1 => by
    obtain ⟨a, b, c, d⟩ := lapses_now n k
    obtain ⟨a', b', c', d'⟩ := lapse_now (n.lapses k) k
    exact ⟨a'.trans a, b'.trans b, c'.trans c, d'.trans d⟩
noncomputable def LN.later (n : LN) (wait : Int) : LN := { n with now := n.now + wait }
noncomputable def LS.passN (S : LS) (wait : Int) : LN := (S.n.later wait).lapses 3
noncomputable def LS.passR (S : LS) (wait : Int) : Str × Nat := onTimeP (S.ps.map (P.expire (S.n.now + wait))) S.act S.last
noncomputable def LS.passes (S : LS) (wait : Int) : LS :=
  ⟨{ S.passN wait with active := if (S.n.active : Int) ∈ (S.passN wait).failed then (S.passR wait).2 else S.n.active }, (S.ps.map (P.expire (S.n.now + wait))).map P.again, (S.passR wait).2, S.last, S.high⟩
/-- what on_time tells is what the law holds to be due -/
noncomputable def LS.PassOk (S : LS) (wait : Int) : Prop :=
  if (S.n.active : Int) ∈ (S.passN wait).failed then (if S.n.proven = [] then (S.passR wait).1 = Str.ofString "lost" else (S.passR wait).1 = Str.ofString "back" ∧ ((S.passR wait).2 : Int) ∈ S.n.proven) else (S.passR wait).1 = Str.ofString "same"
section
variable {prog : Program} {w : World} {A : Around} {E : Value → Shared → Prop} {s : Shared} {h₀ : Heap} {L : Addr}
noncomputable def isS (x : Str) : Value → Bool
  | .str c _ => c == x
  | _ => false
theorem m_placeIndex {D : Addr} {n b : Nat} {x0 x1 x2 t : Tok} {news : List (Addr × Obj)} {Q : Value → Shared → Prop} (N : News h₀ L s.heap news) (hm : (D, listOf [Value.str (placeStr 0) x0, .str (placeStr 1) x1, .str (placeStr 2) x2].toArray n) ∈ news) (hb : b < 3)
    (h : Q (.int (b : Int) s.toks) { s with toks := s.toks + 1 }) : wpAny (model prog w) A (call (.builtin "list.index") [.ref D, .str (placeStr b) t]) Q E s := by
  refine call_meets PySem.F.slot_list_index ⟨_, (N _ hm).1, rfl⟩ PySem.F.entry_list_index (PySem.F.args_list_index_2 _ _)
    (MeetsSeq.list_index D [Value.str (placeStr 0) x0, .str (placeStr 1) x1, .str (placeStr 2) x2].toArray n (.str (placeStr b) t) (isS (placeStr b)) ?_ b (by simp; omega) (by omega) ?_ ?_) ⟨(N _ hm).1, h⟩
  · intro y hy
    simp only [List.mem_toArray, List.mem_cons, List.not_mem_nil, or_false] at hy
    rcases hy with rfl | rfl | rfl
    all_goals exact PyProof.Rows.eqGives_str _ _ _ _
  · rcases places_lt hb with rfl | rfl | rfl
    all_goals exact beq_self_eq_true _
  · intro m hm2 hlt
    have h2 : m < 3 := by omega
    have e : isS (placeStr b) [Value.str (placeStr 0) x0, .str (placeStr 1) x1, .str (placeStr 2) x2].toArray[m] = (placeStr m == placeStr b) := by
      rcases places_lt h2 with rfl | rfl | rfl <;> rfl
    rw [e, placeStr_beq h2 hb]
    simp; omega
end

end
section
-- L8
theorem off_L8 : True := by w_top off; trivial
noncomputable def provens (gs : List G) : List Int := (gs.filter (·.st == .proven)).map fun q => (q.place : Int)
theorem provens_snoc {known : List G} {i : Nat} {q : G} (h : known[i]? = some q) : provens (known.take (i + 1)) = provens (known.take i) ++ (if (q.st == .proven) = true then [(q.place : Int)] else []) := by
  rw [List.take_add_one, h]
  unfold provens
  rw [Option.toList_some, List.filter_append, List.map_append]
  congr 1
  by_cases h : (q.st == .proven) = true <;> simp [h]
theorem provens_abs (gs : List G) : provens gs = ((gs.map G.abs).filter (·.st == .proven)).map fun p => (p.place : Int) := by
  unfold provens
  rw [List.filter_map, List.map_map]
  rfl
theorem ints_map : ∀ l : List (Int × Tok), IntsAre (l.map ival) (fsts l)
  | [] => .nil
  | _ :: r => .cons _ _ (ints_map r)
theorem ints_item : ∀ {ys : List Value} {l : List Int} {i : Nat} {v : Value}, IntsAre ys l → ys[i]? = some v → ∃ d t, v = .int d t ∧ d ∈ l
  | _, _, 0, v, .cons i t r, h => by
    simp only [List.getElem?_cons_zero, Option.some.injEq] at h
    exact ⟨_, _, h.symm, .head _⟩
  | _, _, i + 1, v, .cons _ _ r, h => by
    obtain ⟨d, t, e, m⟩ := ints_item (i := i) r (by simpa using h)
    exact ⟨d, t, e, .tail _ m⟩
theorem sorted_eq : ∀ {a b : List Int}, a.Perm b → a.Pairwise (· ≤ ·) → b.Pairwise (· ≤ ·) → a = b := fun h ha hb => h.eq_of_pairwise (fun _ _ _ _ h1 h2 => Int.le_antisymm h1 h2) ha hb
section
variable {prog : Program} {w : World} {A : Around} {E : Value → Shared → Prop} {s : Shared} {h₀ : Heap} {L : Addr}
theorem ints_at {a b : List Value} {l : List Int} (h1 : IntsAre a l) (h2 : IntsAre b l) : ∀ j (j1 : j < a.toArray.size) (j2 : j < b.toArray.size), PySem.SeqAt.EqAt A s a.toArray[j] b.toArray[j] true := by
  have key : ∀ {a b : List Value} {l : List Int}, IntsAre a l → IntsAre b l → ∀ j (j1 : j < a.length) (j2 : j < b.length), PySem.SeqAt.EqAt A s a[j] b[j] true := by
    intro a b l h1
    induction h1 generalizing b with
    | nil => intro h2 j j1; exact absurd j1 (Nat.not_lt_zero j)
    | cons i t r ih =>
      intro h2 j j1 j2
      cases h2 with
      | cons _ u q =>
        cases j with
        | zero => exact eq_int t u rfl
        | succ j => exact ih q j (by simpa using j1) (by simpa using j2)
  intro j j1 j2
  simp only [List.getElem_toArray]
  exact key h1 h2 j (by simpa using j1) (by simpa using j2)
theorem m_ne_ints {a b : Addr} {vs ws : List Value} {l : List Int} {n n2 : Nat} {news : List (Addr × Obj)} {Q : Value → Shared → Prop} (N : News h₀ L s.heap news) (ha : (a, listOf vs.toArray n) ∈ news) (hb : (b, listOf ws.toArray n2) ∈ news) (h1 : IntsAre vs l) (h2 : IntsAre ws l) (hu : A.units < cLine) (h : Q (.bool false) s) :
    wpAny (model prog w) A (compareOp .NotEq (.ref a) (.ref b)) Q E s := by
  have e1 := IntsAre.length h1
  have e2 := IntsAre.length h2
  have h9 := PySem.SeqAt.RcNeAt.lists (A := A) (e := fun _ => true) (isListL N ha) (isListL N hb) (by simp only [List.size_toArray]; omega) hu (ints_at h1 h2) prog w E Q
  rw [show (List.range vs.toArray.size).all (fun _ => true) = true by simp] at h9
  exact h9 h
end
noncomputable def SortOf (ns l : List Int) : Prop := l.Perm ns ∧ l.Pairwise (· ≤ ·)
theorem sortOf_some (ns : List Int) : ∃ l, SortOf ns l := ⟨ns.mergeSort (fun a b => decide (a ≤ b)), List.mergeSort_perm _ _, by
  have h := List.pairwise_mergeSort (le := fun (a b : Int) => decide (a ≤ b)) (fun a b c h1 h2 => by simp at *; omega) (fun a b => by simp; omega) ns
  exact h.imp fun h => by simpa using h⟩
section
variable {prog : Program} {w : World} {A : Around} {E : Value → Shared → Prop} {s : Shared} {h₀ : Heap} {L : Addr} {m : Str → Option Value}
theorem m_sorted {l : Addr} {vs : List Value} {ns k : List Int} {n : Nat} {news : List (Addr × Obj)} {Q : Value → Shared → Prop} (F : Fr h₀ L s.heap m) (N : News h₀ L s.heap news) (hm : (l, listOf vs.toArray n) ∈ news) (hi : IntsAre vs ns) (hk : SortOf ns k) (h64 : ns.length < 64)
    (h : ∀ D vs' c h', Fr h₀ L h' m → News h₀ L h' ((D, listOf vs'.toArray c) :: news) → (∀ q ∈ news, q.1 < D) → IntsAre vs' k → Q (.ref D) { s with heap := h' }) :
    wpAny (model prog w) A (call (.builtin "sorted") [.ref l]) Q E s :=
  kso_sorted F N (isListL N hm) hi h64 fun D vs' ns' c h' F' N' l1 i' _ p' o' _ => h D vs' c h' F' N' l1 (by rw [← sorted_eq (p'.trans hk.1.symm) o' hk.2]; exact i')
end
noncomputable def endsTo (n : LN) (k : Nat) : List Int := (List.range k).filterMap n.end_
theorem endsTo_succ (n : LN) (k : Nat) : endsTo n (k + 1) = endsTo n k ++ (n.end_ k).toList := by
  unfold endsTo
  rw [List.range_succ, List.filterMap_append]
  cases h : n.end_ k <;> simp [h]
theorem endsTo_mem {n : LN} {k : Nat} {d : Int} : d ∈ endsTo n k ↔ ∃ a < k, n.end_ a = some d := by
  unfold endsTo
  simp only [List.mem_filterMap, List.mem_range]
theorem isMin_eq {l k : List Int} {m d : Int} (h : ∀ x, x ∈ l ↔ x ∈ k) (h1 : m ∈ l) (h2 : ∀ a ∈ l, m ≤ a) (h3 : d ∈ k) (h4 : ∀ a ∈ k, d ≤ a) : m = d :=
  Int.le_antisymm (h2 d ((h d).mpr h3)) (h4 m ((h m).mp h1))

end
set_option compiler.extract_closed false
local macro_rules | `(tactic| walk_at "m mem") => `(tactic| ((repeat (first | (with_reducible exact List.mem_cons_self) | (with_reducible refine List.mem_cons_of_mem _ ?_) | (with_reducible refine List.mem_append_right _ ?_))); done))
local macro_rules | `(tactic| k_ne) => `(tactic| first | (with_reducible assumption) | (with_reducible exact Ne.symm (by with_reducible assumption)) | (with_reducible exact Nat.ne_of_lt (by with_reducible assumption)) | (with_reducible exact Nat.ne_of_gt (by with_reducible assumption)) | (refine neN ?_; (try dsimp only); omega))
local macro_rules | `(tactic| k_all) => `(tactic| first | (with_reducible exact List.forall_mem_nil _) | ((with_reducible refine' List.forall_mem_cons.mpr ⟨?a, ?b⟩); (case a => k_ne); (case b => k_all)) | (with_reducible assumption) | (with_reducible exact allLt_ne (by with_reducible assumption)) | (with_reducible exact allLt_ne2 (by with_reducible assumption) (by with_reducible assumption)))
local macro_rules | `(tactic| walk_at "m ands") => `(tactic| (refine hide ?_; intro G9 k9; (repeat (rename _ ∧ _ => hh9; obtain ⟨_, _⟩ := hh9)); refine k9 ?_; clear k9 G9))
local macro_rules | `(tactic| walk_at "m sep") => `(tactic| ((walk_at "m ands"); (simp only [G.cells, Sep, List.cons_append, List.nil_append, List.forall_mem_cons]); repeat' (first | assumption | (exact allLt_ne (by assumption)) | (exact allLt_ne2 (by assumption) (by assumption)) | (exact Ne.symm (by assumption)) | (exact Nat.ne_of_lt (by assumption)) | (exact Nat.ne_of_gt (by assumption)) | (apply And.intro) | exact True.intro | (refine neN ?_; omega))))
local macro_rules | `(tactic| walk_at "m absurd") => `(tactic| (exfalso; first | exact absurd ‹(_ != _) = false› (by decide) | exact absurd ‹(_ != _) = true› (by decide) | exact absurd ‹(_ == _) = true› (by decide) | exact absurd ‹(_ == _) = false› (by decide) | exact absurd ‹_ = true› (by decide) | exact absurd ‹_ = false› (by decide)))
local macro_rules | `(tactic| walk_at "exec For Name Attribute cons nil") => `(tactic| (k_here; (rename Fr _ _ _ _ => lF'); (with_unfolding_all refine' For_invVF lF' ?k1 ?k2 ?_; (case k1 => exact rfl); (case k2 => exact rfl); k_whole)))
local macro_rules | `(tactic| walk_at "pyIter ref") => `(tactic| ((with_reducible show wpAny _ _ (pyIter (Value.ref _)) (fun it s₂ => LoopAtV _ _ _ _ _ _ _ _ _ it s₂) _ _); refine halt ?_))
local macro_rules | `(tactic| walk_at "UnrEnd") => `(tactic| refine halt ?_)
local macro_rules | `(tactic| walk_at "m sub") => `(tactic| k_dflt (repeat' (first | (with_reducible assumption) | (with_reducible exact sub_rfl) | (with_reducible exact List.forall_mem_nil _) | (with_reducible refine sub_append ?_ ?_) | refine sub_cons ?_ ?_ | refine sub_weak ?_ | k_mem | ((walk_at "m mem"); done) | exact sub_rfl | exact fun _ hq9 => List.mem_append_left _ hq9 | exact fun _ hq9 => List.mem_append_right _ hq9 | (intro q9 hq9; simp only [List.mem_append, List.mem_cons]; simp only [hq9, true_or, or_true]))))
local macro_rules | `(tactic| walk_at "call ref") => `(tactic| ((with_reducible refine' halt_at ?e ?_); (case e => k_dflt (exact rfl))))
local macro_rules | `(tactic| k_room) => `(tactic| ktr_room)
local macro_rules | `(tactic| walk_at "compareOp In bytes ref") => `(tactic| (k_here; k_dflt (refine' in_bytes ?k1 ?k2 ?_; (case k1 => k_asm); (case k2 => k_mem); k_whole)))
local macro_rules | `(tactic| walk_at "CompSrcT") => `(tactic| refine halt ?_)
local macro_rules | `(tactic| walk_at "CompSrc") => `(tactic| refine halt ?_)
local macro_rules | `(tactic| walk_at "CompEnd") => `(tactic| refine halt ?_)
local macro_rules | `(tactic| walk_at "call builtin:len") => `(tactic| (k_dflt (refine' m_len ?k1 ?k2 ?k3 ?_; (case k1 => k_asm); (case k2 => k_mem); (case k3 => first | assumption | ((simp only [List.length_map]); omega) | ((simp only [List.length_append, List.length_map]); omega)); k_whole)))
local macro_rules | `(tactic| walk_at "subscriptTail Name UnaryOp ref int") => `(tactic| (k_dflt (refine' m_last ?k1 ?k2 ?k3 ?_; (case k1 => k_asm); (case k2 => k_mem); (case k3 => assumption); k_whole)))
local macro_rules | `(tactic| walk_at "binaryOp Add ref ref") => `(tactic| (k_dflt (refine' m_add ?k1 ?k2 ?k3 ?k4 ?k5 ?_; (case k1 => k_asm); (case k2 => k_asm); (case k3 => k_mem); (case k4 => k_mem); (case k5 => first | assumption | ((simp only [List.length_map, List.length_append, List.length_cons, List.length_nil]); omega)); k_whole); intro l' h' F' N' l1; (try k_lt l1); (try k_sweep)))
local macro_rules | `(tactic| walk_at "execs cons") => `(tactic| (k_here; (try ((with_reducible refine gen_toks ?_); intro tk)); (with_reducible refine execs_let ?_); intro qk))
local macro_rules | `(tactic| walk_at "execs nil") => `(tactic| (k_here; (with_reducible refine gen_toks ?_); intro tk))
local macro_rules | `(tactic| walk_at "call builtin:list.pop") => `(tactic| (k_dflt (refine' m_popAt ?k1 ?k2 ?k3 ?k4 ?k5 ?k6 ?k7 ?_; (case k1 => k_asm); (case k2 => k_asm); (case k6 => k_upd); (case k3 => assumption); (case k4 => assumption); (case k5 => assumption); (case k7 => first | assumption | omega | ((simp only [List.length_map, List.length_append, List.length_cons, List.length_nil]); omega)); k_whole); intro h' F' N'; (try k_sweep)))
local macro_rules | `(tactic| walk_at "subscriptTail Name Name ref int") => `(tactic| (k_dflt (refine' m_item ?k1 ?k2 ?k3 ?k4 ?k5 ?_; (case k1 => k_asm); (case k2 => k_mem); (case k3 => first | assumption | omega); (case k4 => omega); (case k5 => assumption); k_whole)))
local macro_rules | `(tactic| walk_at "compareOp Eq ref ref") => `(tactic| ((with_reducible show wpAny _ _ (compareOp _ (Value.ref _) (Value.ref _)) _ _ _); first | (k_dflt (refine' m_eq_nil ?k1 ?k2 ?k3 ?k4 ?k5 ?_; (case k1 => k_asm); (case k3 => k_mem); (case k2 => k_mem); (case k4 => first | (with_reducible assumption) | exact (rfl : _ = true) | exact (rfl : _ = false)); (case k5 => ktr_units); k_whole)) | (k_dflt (refine' m_eq_tup ?k1 ?k2 ?k3 ?k4 ?_; (case k1 => k_asm); (case k2 => k_mem); (case k3 => k_mem); (case k4 => ktr_units); k_whole)) | (with_reducible refine halt ?_)))
local macro_rules | `(tactic| walk_at "compareOp NotEq ref ref") => `(tactic| ((with_reducible show wpAny _ _ (compareOp _ (Value.ref _) (Value.ref _)) _ _ _); first | (k_dflt (refine' m_ne_nil ?k1 ?k2 ?k3 ?k4 ?k5 ?_; (case k1 => k_asm); (case k3 => k_mem); (case k2 => k_mem); (case k4 => first | (with_reducible assumption) | exact (rfl : _ = true) | exact (rfl : _ = false)); (case k5 => ktr_units); k_whole)) | (with_reducible refine halt ?_)))
local macro_rules | `(tactic| walk_at "call type:list") => `(tactic| (k_dflt (refine' m_listOf ?k1 ?k2 ?k3 ?k4 ?_; (case k1 => k_asm); (case k2 => k_asm); (case k3 => k_mem); (case k4 => assumption); k_whole); intro D' c' h' F' N' l1; (try k_lt l1); (try k_sweep)))
local macro_rules | `(tactic| walk_at "m offs") => `(tactic| repeat' (first | assumption | (exact Nat.ne_of_lt (by assumption)) | (exact Nat.ne_of_gt (by assumption)) | (exact Ne.symm (by assumption)) | (apply And.intro) | exact True.intro))
local macro_rules | `(tactic| walk_at "subscriptTail Call") => `(tactic| ((with_reducible show wpAny _ _ (subscriptTail _ _ (Value.ref _) (Value.int _ _)) _ _ _); (with_reducible rename Item9 _ _ _ => hit9); k_dflt (refine' m_item9 hit9 ?k1 ?k2 ?k3 ?_; (case k1 => k_asm); (case k2 => k_mem); (case k3 => with_unfolding_all rfl); k_whole)))
local macro_rules | `(tactic| walk_at "callWith ref nil nil") => `(tactic| (k_here; (with_reducible show wpAny _ _ (callWith _ (Value.ref _) [] (backTo _ (starEach [] _)) []) _ _ _); refine' callWith_K0 ?k1 ?k2 ?_; (case k1 => with_reducible exact Frag.In.keeps (by with_reducible assumption) (Fr.keep (by with_reducible assumption))); (case k2 => k_is); k_whole))
local macro_rules | `(tactic| walk_at "call type:bytes") => `(tactic| (k_here; (with_reducible show wpAny _ _ (call (Value.type "bytes") [Value.ref _]) _ _ _); k_dflt (first | (refine' m_bytes8 ?k1 ?k2 ?k3 ?k4 ?k5 ?k6 ?_; (case k1 => k_asm); (case k2 => k_asm); (case k3 => k_mem); (case k4 => omega); (case k5 => omega); (case k6 => rfl); k_whole) | (refine' m_bytes9 ?k1 ?k2 ?k3 ?k6 ?_; (case k1 => k_asm); (case k2 => k_asm); (case k3 => k_mem); (case k6 => rfl); k_whole)); intro h' t' k' F' N'; (try k_sweep)))
local macro_rules | `(tactic| walk_at "subscriptTail Name Constant ref str") => `(tactic| (k_here; kda_here; (with_reducible show wpAny _ _ (subscriptTail _ _ (Value.ref _) (Value.str _ _)) _ _ _); k_dflt (refine kda_item (knd := PySem.strKind _ _) (by k_asm) (by k_mem) (by k_asm) (strKind_is _ _ _ _) (by rfl) ?_)))
local macro_rules | `(tactic| walk_at "getItem ref int") => `(tactic| (k_here; kda_here; k_dflt (refine kdt_getItem (knd := PySem.intKind _ _) (by k_asm) (by k_mem) (by k_asm) (intKind_is _ _ _ _) (by first | assumption | rfl) ?_)))
local macro_rules | `(tactic| walk_at "subscriptTail Subscript Name Constant Name ref int") => `(tactic| (k_here; first
  | (kda_here; k_dflt (refine kdt_tail (knd := PySem.intKind _ _) (by k_asm) (by k_mem) (by k_asm) ?_))
  | (k_dflt (refine' m_item9 ?hx ?k1 ?k2 (by with_unfolding_all rfl) ?_; (case k1 => k_asm); (case k2 => k_mem); (case hx => first | (with_reducible assumption) | exact ⟨by decide, by decide, rfl⟩); k_whole))))
local macro_rules | `(tactic| walk_at "setItem ref int") => `(tactic| (k_here; kda_here; k_dflt (refine' kda_set (knd := PySem.intKind _ _) ?F ?N ?U ?d (intKind_is _ _ _ _) ?z ?_; (case F => k_asm); (case N => k_asm); (case U => k_updF); (case d => k_asm); (case z => kob_size)); intro h' o' F' N' hd'; (try kob_lit); (try dsimp only at N'); (try k_sweep)))
local macro_rules | `(tactic| walk_at "setItem ref str") => `(tactic| (k_here; kda_here; k_dflt (refine' kda_set (knd := PySem.strKind _ _) ?F ?N ?U ?d (strKind_is _ _ _ _) ?z ?_; (case F => k_asm); (case N => k_asm); (case U => k_updF); (case d => k_asm); (case z => kob_size)); intro h' o' F' N' hd'; (try kob_lit); (try dsimp only at N'); (try k_sweep)))
local macro_rules | `(tactic| walk_at "call builtin:list.append") => `(tactic| (k_dflt (refine' append_K ?k1 ?k2 ?k3 ?_ ?z; (case k1 => k_asm); (case k2 => k_asm); (case k3 => k_upd); (case z => (simp only [List.size_toArray, List.length_map]; rw [sizeLine_eq]; omega)); k_whole); intro h' F' N'; (try k_sweep)))
local macro_rules | `(tactic| walk_at "compareOp NotIn int ref") => `(tactic| (k_here; k_dflt (first | (refine' notin_intsK ?k1 ?k2 ?k3 ?k4 ?_; (case k1 => k_asm); (case k2 => k_mem); (case k4 => with_reducible assumption); (case k3 => first | exact allInt_map _ | exact allInt_append (allInt_map _) (allInt_map _)); k_whole) | refine' notin_ints ?k1 ?k2 ?k3 ?_; (case k1 => k_asm); (case k2 => k_mem); (case k3 => first | exact allInt_map _ | exact allInt_append (allInt_map _) (allInt_map _)); k_whole)))
local macro_rules | `(tactic| walk_at "compareOp In int ref") => `(tactic| (k_here; k_dflt (first | (refine' in_intsK ?k1 ?k2 ?k3 ?k4 ?_; (case k1 => k_asm); (case k2 => k_mem); (case k4 => with_reducible assumption); (case k3 => first | exact allInt_map _ | exact allInt_append (allInt_map _) (allInt_map _)); k_whole) | refine' in_ints ?k1 ?k2 ?k3 ?_; (case k1 => k_asm); (case k2 => k_mem); (case k3 => first | exact allInt_map _ | exact allInt_append (allInt_map _) (allInt_map _)); k_whole)))
local macro_rules | `(tactic| walk_at "call builtin:list.index") => `(tactic| (k_dflt (refine' m_placeIndex ?k1 ?k2 ?k3 ?_; (case k1 => k_asm); (case k2 => k_mem); (case k3 => assumption); k_whole)))
local macro_rules | `(tactic| walk_at "call builtin:sorted") => `(tactic| (k_dflt (refine' m_sorted ?k1 ?k2 ?k3 ?k4 ?k5 ?k6 ?_; (case k1 => k_asm); (case k2 => k_asm); (case k3 => k_mem); (case k4 => k_asm); (case k5 => k_asm); (case k6 => omega); k_whole); intro D' v' c' h' F' N' l1 i'; (try k_lt l1); (try k_sweep)))
local macro_rules | `(tactic| walk_at "compareOp NotEq ref ref") => `(tactic| (k_dflt (refine' m_ne_ints ?k1 ?k2 ?k3 ?k4 ?k5 ?k6 ?_; (case k1 => k_asm); (case k2 => k_mem); (case k3 => k_mem); (case k4 => k_asm); (case k5 => k_asm); (case k6 => ktr_units); k_whole)))
local macro_rules | `(tactic| walk_at "exec While Compare") => `(tactic| refine halt ?_)
local macro_rules | `(tactic| walk_at "getMethod ref") => `(tactic| (k_here; (with_reducible show wpAny _ _ (getMethod (Value.ref _) (PySem.Str.ofString "update") _) _ _ _); k_dflt (refine kob_method (knd := PySem.strKind _ _) PySem.F.slot_dict_update PySem.F.type_dict_update (by k_asm) (by k_mem) (by k_asm) ?_)))
local macro_rules | `(tactic| walk_at "callWith builtin:dict.update cons nil") => `(tactic| refine callWith_method1 ?_)
local macro_rules | `(tactic| walk_at "callWith ref cons nil") => `(tactic| (k_here; (with_reducible show wpAny _ _ (callWith _ (Value.ref _) [_] (backTo _ (starEach [] _)) []) _ _ _); refine' callWith_K0 ?k1 ?k2 ?_; (case k1 => with_reducible exact Frag.In.keeps (by with_reducible assumption) (Fr.keep (by with_reducible assumption))); (case k2 => k_is); k_whole))
local macro_rules | `(tactic| walk_at "m set") => `(tactic| ((try intro o9); dsimp only [setL]; try exact rfl))
local macro_rules | `(tactic| k_updF) => `(tactic| ((with_reducible rename List.Nodup _ => hnd9); k_dflt (first | exact updI 0 hnd9 rfl rfl (by walk_at "m set") | exact updI 1 hnd9 rfl rfl (by walk_at "m set") | exact updI 2 hnd9 rfl rfl (by walk_at "m set") | exact updI 3 hnd9 rfl rfl (by walk_at "m set") | exact updI 4 hnd9 rfl rfl (by walk_at "m set") | exact updI 5 hnd9 rfl rfl (by walk_at "m set") | exact updI 6 hnd9 rfl rfl (by walk_at "m set") | exact updI 7 hnd9 rfl rfl (by walk_at "m set") | exact updI 8 hnd9 rfl rfl (by walk_at "m set") | exact updI 9 hnd9 rfl rfl (by walk_at "m set") | exact updI 10 hnd9 rfl rfl (by walk_at "m set") | exact updI 11 hnd9 rfl rfl (by walk_at "m set") | exact updI 12 hnd9 rfl rfl (by walk_at "m set") | exact updI 13 hnd9 rfl rfl (by walk_at "m set"))))
local macro_rules | `(tactic| k_upd) => `(tactic| ((with_reducible rename List.Nodup _ => hnd9); k_dflt (first | exact upI 0 hnd9 rfl rfl (by walk_at "m set") | exact upI 1 hnd9 rfl rfl (by walk_at "m set") | exact upI 2 hnd9 rfl rfl (by walk_at "m set") | exact upI 3 hnd9 rfl rfl (by walk_at "m set") | exact upI 4 hnd9 rfl rfl (by walk_at "m set") | exact upI 5 hnd9 rfl rfl (by walk_at "m set") | exact upI 6 hnd9 rfl rfl (by walk_at "m set") | exact upI 7 hnd9 rfl rfl (by walk_at "m set") | exact upI 8 hnd9 rfl rfl (by walk_at "m set") | exact upI 9 hnd9 rfl rfl (by walk_at "m set") | exact upI 10 hnd9 rfl rfl (by walk_at "m set") | exact upI 11 hnd9 rfl rfl (by walk_at "m set") | exact upI 12 hnd9 rfl rfl (by walk_at "m set") | exact upI 13 hnd9 rfl rfl (by walk_at "m set"))))
local macro_rules | `(tactic| k_lt $h:ident) => `(tactic| ((with_reducible rename List.Nodup _ => hnd9); k_dflt (replace hnd9 := ndC $h hnd9 rfl)))
local macro_rules | `(tactic| k_lt2 $h:ident) => `(tactic| ((with_reducible rename List.Nodup _ => hnd9); k_dflt (replace hnd9 := ndC2 $h (by with_reducible assumption) hnd9 rfl)))
local macro_rules | `(tactic| ktr_room) => `(tactic| ((with_reducible rename _ + _ < recursionLimit => hR9); k_dflt (first | exact roomK 0 hR9 rfl rfl | exact roomK 1 hR9 rfl rfl | exact roomK 2 hR9 rfl rfl | exact roomK 3 hR9 rfl rfl | exact roomK 4 hR9 rfl rfl | exact roomK 5 hR9 rfl rfl)))
local macro_rules | `(tactic| ktr_units) => `(tactic| ((with_reducible rename _ + _ < cLine => hU9); k_dflt (first | exact unitK 3 hU9 rfl rfl | exact unitK 11 hU9 rfl rfl | exact unitK 19 hU9 rfl rfl | exact unitK 27 hU9 rfl rfl | exact unitK 35 hU9 rfl rfl | exact unitK 7 hU9 rfl rfl | exact unitK 4 hU9 rfl rfl)))
local macro_rules | `(tactic| walk_at "m tails") => `(tactic| (intro q9 hq9; repeat (first | exact hq9 | refine List.Mem.tail _ ?_)))
local macro_rules | `(tactic| walk_at "subscriptTail Name BinOp") => `(tactic| ((with_reducible show wpAny _ _ (subscriptTail _ _ (Value.ref _) (Value.int _ _)) _ _ _); (with_reducible rename Item9 _ _ _ => hit9); k_dflt (refine' m_item9 hit9 ?k1 ?k2 ?k3 ?_; (case k1 => k_asm); (case k2 => k_mem); (case k3 => with_unfolding_all rfl); k_whole)))

section
-- N2
theorem off_N2 : True := by w_top off; trivial
theorem c_fate (w : World) (a : Addr) (vs : List Value) (n : Nat) (rest : List (Addr × Obj)) (hsep : Sep ((a, listOf vs.toArray n) :: rest)) (hz : vs.length ≤ 100000) (hpos : 0 < vs.length) (pick : Int) (pt : Tok) :
    Con w 261 1 ((a, listOf vs.toArray n) :: rest) [.ref a, .int pick pt]
      (fun v news' => ∃ x n', vs[fateK pick vs.length]? = some x ∧ v = (if pick.fmod 3 = 1 then x else if pick.fmod 3 = 0 then x else .none) ∧ news' = (a, listOf (if pick.fmod 3 = 1 then vs else vs.eraseIdx (fateK pick vs.length)).toArray n') :: rest) := by
  unfold Con; k_fill; intro mean mg mb dep un gd cn cs fa ccd cl outer A₀ base h₀ L m s Q E B F X N T hk hdep hun hret
  simp only [List.cons_append, List.nil_append, Sep, List.forall_mem_cons] at hsep; refine hide ?_; intro G9 k9; obtain ⟨_, hsepR⟩ := hsep; refine k9 ?_; clear k9 G9
  have hk0 : 0 ≤ (pick.fdiv 3).fmod (vs.length : Int) := Int.fmod_nonneg_of_pos _ (by omega)
  have hk1 : (pick.fdiv 3).fmod (vs.length : Int) < vs.length := Int.fmod_lt_of_pos _ (by omega)
  obtain ⟨x, hx⟩ : ∃ x, vs[((pick.fdiv 3).fmod (vs.length : Int)).toNat]? = some x := ⟨_, List.getElem?_eq_getElem (by omega)⟩
  refine wpAny_call ?_; k_dflt ktr_enter
  k_steps
  all_goals (rename News _ _ _ _ => Nf)
  · have h1 : pick.fmod 3 = 1 := by assumption
    exact hret _ ((a, listOf vs.toArray n) :: rest) _ _ ⟨x, n, hx, by rw [if_pos h1], by rw [if_pos h1]⟩ (by k_asm) (cb_drop Nf (by walk_at "m sub"))
  · have h1 : pick.fmod 3 ≠ 1 := by assumption
    have h2 : pick.fmod 3 = 0 := by assumption
    exact hret _ ((a, listOf (vs.eraseIdx (fateK pick vs.length)).toArray (n + 1)) :: rest) _ _ ⟨x, n + 1, hx, by rw [if_neg h1, if_pos h2], by rw [if_neg h1]⟩ (by k_asm) (cb_drop Nf (by walk_at "m sub"))
  · have h1 : pick.fmod 3 ≠ 1 := by assumption
    have h2 : pick.fmod 3 ≠ 0 := by assumption
    exact hret _ ((a, listOf (vs.eraseIdx (fateK pick vs.length)).toArray (n + 1)) :: rest) _ _ ⟨x, n + 1, hx, by rw [if_neg h1, if_neg h2], by rw [if_neg h1]⟩ (by k_asm) (cb_drop Nf (by walk_at "m sub"))

end
section
-- N4
theorem off_N4 : True := by w_top off; trivial
local macro_rules | `(tactic| k_mem) => `(tactic| ((with_reducible rename (_ : Addr × Obj) ∈ _ => hm9); (repeat (with_reducible refine List.mem_cons_of_mem _ ?_)); with_reducible assumption))
theorem c_fateK (w : World) (a : Addr) (vs : List Value) (n : Nat) (rest : List (Addr × Obj)) (hsep : Sep ((a, listOf vs.toArray n) :: rest)) (hz : vs.length ≤ 100000) (hpos : 0 < vs.length) (pick : Int) (pt : Tok) :
    ConK w 261 1 ((a, listOf vs.toArray n) :: rest) [.ref a, .int pick pt]
      (fun R => ∀ x n', vs[fateK pick vs.length]? = some x → R (if pick.fmod 3 = 1 then x else if pick.fmod 3 = 0 then x else .none) ((a, listOf (if pick.fmod 3 = 1 then vs else vs.eraseIdx (fateK pick vs.length)).toArray n') :: rest)) :=
  (c_fate w a vs n rest hsep hz hpos pick pt).toK (by rintro R k v nw ⟨x, n', h, e1, e2⟩; rw [e1, e2]; exact k x n' h)
theorem Sep.tups {A A' C C' rest : Led} {l l' : List FT} (h : Sep (A ++ (C ++ (tups l ++ rest)))) (hs : List.Sublist l' l) (e : A'.map (·.1) = A.map (·.1)) (e2 : C'.map (·.1) = C.map (·.1)) : Sep (A' ++ (C' ++ (tups l' ++ rest))) :=
  h.of_count fun a => by
    have h9 := tups_count a hs
    simp only [List.map_append, List.count_append, e, e2]
    omega
theorem sub_tups {A C rest X : Led} {l l' : List FT} (h : ∀ q ∈ A ++ (C ++ (tups l ++ rest)), q ∈ X) (hs : List.Sublist l' l) : ∀ q ∈ A ++ (C ++ (tups l' ++ rest)), q ∈ X := fun q hq => by
  refine h q ?_
  rcases List.mem_append.mp hq with h1 | h1
  · exact List.mem_append_left _ h1
  rcases List.mem_append.mp h1 with h2 | h2
  · exact List.mem_append_right _ (List.mem_append_left _ h2)
  rcases List.mem_append.mp h2 with h3 | h3
  · exact List.mem_append_right _ (List.mem_append_right _ (List.mem_append_left _ (tups_sub hs q h3)))
  · exact List.mem_append_right _ (List.mem_append_right _ (List.mem_append_right _ h3))
theorem c_challenge_comes (w : World) (g : NG) (ok : g.Ok w) (sm : g.Sm) (c : CG) (rest : List (Addr × Obj)) (hsep : Sep (g.cells ++ (c.cells w ++ (tups g.forth ++ rest)))) (hpos : 0 < g.forth.length) (pick : Int) (pt : Tok) :
    Con w 280 2 (g.cells ++ (c.cells w ++ (tups g.forth ++ rest))) [.ref g.nd, .ref c.p, .int pick pt]
      (fun v news' => ∃ (g' : NG) (n' : Nat), v = .bool true ∧ news' = g'.cells ++ (({ c with n := n' } : CG).cells w ++ (tups g'.forth ++ rest)) ∧ g'.Ok w ∧ g'.abs = g.abs.challengeComes pick ∧ g'.nd = g.nd ∧ Sep (g'.cells ++ (({ c with n := n' } : CG).cells w ++ (tups g'.forth ++ rest)))) := by
  unfold Con; k_fill; intro mean mg mb dep un gd cn cs fa ccd cl outer A₀ base h₀ L m s Q E B F X N T hk hdep hun hret
  have hnet := ok.net
  have hfl := sm.forth
  have hbl := sm.back
  clear sm
  obtain ⟨R, hR⟩ : ∃ R, R = catB ([1, 2, 3, 4, 5, 6, 7, 8, 9, 15, 16].map (nthB (headB 15 (g.cells ++ (c.cells w ++ (tups g.forth ++ rest))) [tups g.forth, rest]))) := ⟨_, rfl⟩
  have hS : Sep ((g.fo, listOf (g.forth.map FT.ref).toArray g.fon) :: (g.nd, g.nob) :: (g.ba, bl g.back g.ban) :: (c.cells w ++ R)) := by
    rw [hR]; exact hsep.selY 15 [tups g.forth, rest] [10, 0, 11, 12, 13, 14, 1, 2, 3, 4, 5, 6, 7, 8, 9, 15, 16] rfl rfl
  replace N : News h₀ L s.heap ((g.fo, listOf (g.forth.map FT.ref).toArray g.fon) :: (g.nd, g.nob) :: (g.ba, bl g.back g.ban) :: (c.cells w ++ R)) := by
    rw [hR]; exact News.selY N 15 [tups g.forth, rest] [10, 0, 11, 12, 13, 14, 1, 2, 3, 4, 5, 6, 7, 8, 9, 15, 16] rfl
  have hR9 : ∀ f ∈ g.forth, f.cell ∈ R := fun f hf => by rw [hR]; exact mem_catB.mpr ⟨tups g.forth, List.mem_map.mpr ⟨15, by decide, rfl⟩, tups_mem hf⟩
  dsimp only [CG.cells, List.cons_append, List.nil_append] at N hS
  have hnd := ndOf hS
  dsimp only [List.map] at hnd
  refine wpAny_call ?_; k_dflt ktr_enter
  k_steps
  unfold Halt
  rename News _ _ _ _ => Nf
  rename Fr _ _ _ _ => Ff
  k_dflt (refine ConK.use (c_fateK w g.fo (g.forth.map FT.ref) g.fon _ hS (by rw [List.length_map]; omega) (by rw [List.length_map]; exact hpos) pick _) (by k_asm) Ff (by k_asm) Nf (by k_asm) rfl (by ktr_room) (by ktr_units) ?_)
  intro x n' hx h1 tk1 F1 N1
  rw [List.length_map, List.getElem?_map, Option.map_eq_some_iff] at hx
  obtain ⟨f, hf, rfl⟩ := hx
  have hcell := hR9 f (List.mem_of_getElem? hf)
  rw [show (if pick.fmod 3 = 1 then g.forth.map FT.ref else (g.forth.map FT.ref).eraseIdx (fateK pick (g.forth.map FT.ref).length)) = (fateL pick g.forth).map FT.ref from fateL_map FT.ref pick g.forth] at N1
  have hsub := fateL_sub pick g.forth
  clear Nf Ff hR9
  by_cases h3 : pick.fmod 3 = 1 ∨ pick.fmod 3 = 0
  · rw [show (if pick.fmod 3 = 1 then f.ref else if pick.fmod 3 = 0 then f.ref else Value.none) = .ref f.ta by
      rcases h3 with h | h
      · rw [if_pos h]; rfl
      · rw [h]; rfl]
    k_steps
    rename News _ _ _ _ => Nf
    rw [push_bval, hR] at Nf
    refine hret _ _ _ _ ⟨{ g with forth := fateL pick g.forth, fon := n', back := g.back ++ [(f.b, f.bt)], ban := g.ban + 1 }, c.n + 1 + 1, rfl, rfl, ⟨hnet, ok.opn, ok.end_⟩, ?_, rfl, Sep.tups hsep hsub rfl rfl⟩ (by k_asm) (cb_drop (News.selY Nf 7 ([1, 2, 3, 4, 5, 6, 7, 8, 9, 15, 16].map (nthB (headB 15 (g.cells ++ (c.cells w ++ (tups g.forth ++ rest))) [tups g.forth, rest]))) [2, 7, 8, 9, 10, 11, 12, 13, 14, 15, 1, 3, 4, 5, 6, 16, 17] rfl) (sub_tups (fun q hq => hq) hsub))
    · simp only [NG.abs, LN.challengeComes, fsts, List.map_append, List.length_map, List.getElem?_map, hf, Option.map_some, Option.toList_some, List.map_cons, List.map_nil, if_pos h3, fateL_map]
  · rw [show (if pick.fmod 3 = 1 then f.ref else if pick.fmod 3 = 0 then f.ref else Value.none) = .none by
      rw [if_neg (fun h => h3 (.inl h)), if_neg (fun h => h3 (.inr h))]]
    k_steps
    rename News _ _ _ _ => Nf
    rw [hR] at Nf
    refine hret _ _ _ _ ⟨{ g with forth := fateL pick g.forth, fon := n' }, c.n, rfl, rfl, ⟨hnet, ok.opn, ok.end_⟩, ?_, rfl, Sep.tups hsep hsub rfl rfl⟩ (by k_asm) (cb_drop (News.selY Nf 6 ([1, 2, 3, 4, 5, 6, 7, 8, 9, 15, 16].map (nthB (headB 15 (g.cells ++ (c.cells w ++ (tups g.forth ++ rest))) [tups g.forth, rest]))) [1, 6, 7, 8, 9, 10, 11, 12, 13, 14, 0, 2, 3, 4, 5, 15, 16] rfl) (sub_tups (fun q hq => hq) hsub))
    · simp only [NG.abs, LN.challengeComes, fsts, if_neg h3, fateL_map]

end
theorem back_N4 {M : Model} {A : Around} {E : Value → Shared → Prop} {s : Shared} {Q : Unit → Shared → Prop} (h : wpAny M A (PySem.setItem .none .none .none) Q E s) : wpAny M A (PySem.setItem .none .none .none) Q E s := by first | (walk1; fail) | exact h
section
-- L9
theorem off_L9 : True := by w_top off; trivial
noncomputable def LS.lieSet (S : LS) : List Bts := S.n.over ++ [b8 255, b8 S.n.count, b9]
/-- what the law's contracts ask of a state -/
structure LS.Ready (S : LS) : Prop where
  good : S.Good
  act : S.n.active = S.act
  act3 : S.act < 3
  num : S.high < S.n.number + 1
  c0 : 0 ≤ S.n.count
  c1 : S.n.count < 255
  free : S.wantsB = true → (S.act : Int) ∉ S.n.proven ++ S.n.failed
  psm : ∀ wait, 0 ≤ wait → ∀ k < 4, ((S.n.later wait).lapses k).Sm
  p3 : ∀ wait, 0 ≤ wait → (S.passR wait).2 < 3
  pok : ∀ wait, 0 ≤ wait → S.PassOk wait
  lie : ∀ x ∈ S.lieSet, ∀ p ∈ S.ps, p.has x = false
  hit : ∀ x ∈ S.n.back, S.Hit x
  perm : ((S.ps.filter (·.st == .proven)).map fun p => (p.place : Int)).Perm S.n.proven
  hears : ∀ p ∈ S.ps, p.st = .proven → S.n.hears p.place = true ∨ (p.place = 1 ∧ S.n.first = true)
  ends : ∀ d, d ∈ deads S.ps ↔ ∃ a < 3, S.n.end_ a = some d
noncomputable def LS.comes (S : LS) (pick : Int) : LS := { S with n := S.n.challengeComes pick }
noncomputable def LS.deed (S : LS) (form pick : Int) : LS :=
  if form = 0 then (if S.n.forth = [] then S else S.comes pick)
  else if form = 1 then S.passes (10 + 10 * pick.fmod 4)
  else if form = 2 then S.asks
  else if form = 3 then S.moves ((pick.fdiv 3).fmod 3).toNat
  else if form = 4 then S
  else if S.n.back = [] then S else S.answer pick
/-- the whole ledger of the law: net, paths, client, line, and what else lies there -/
noncomputable abbrev WL (w : World) (g : NG) (pg : PG) (c : CG) (rest : List (Addr × Obj)) : List (Addr × Obj) := W0 w g pg (c.cells w ++ (tups g.forth ++ rest))
noncomputable abbrev PostL (w : World) (g : NG) (pg : PG) (c : CG) (rest : List (Addr × Obj)) (S : LS) (v : Value) (news' : List (Addr × Obj)) : Prop :=
  ∃ (g' : NG) (pg' : PG) (n' : Nat), v = .bool true ∧ news' = WL w g' pg' { c with n := n' } rest ∧ St w g' pg' S ∧ g'.nd = g.nd ∧ pg'.p = pg.p ∧ Sep (WL w g' pg' { c with n := n' } rest)
theorem fateK_zero (n : Nat) : fateK 0 n = 0 := by
  unfold fateK
  simp
theorem comes0 {S : LS} (h : S.n.forth ≠ []) : (S.comes 0).n.forth.length + 1 = S.n.forth.length := by
  unfold LS.comes LN.challengeComes
  dsimp only
  rw [fateL, if_neg (by decide), fateK_zero, List.length_eraseIdx, if_pos (List.length_pos_iff.mpr h)]
  have := List.length_pos_iff.mpr h
  omega
theorem answered0 {n : LN} (h : n.back ≠ []) : (n.answered 0).back.length + 1 = n.back.length := by
  unfold LN.answered
  dsimp only
  rw [fateL, if_neg (by decide), fateK_zero, List.length_eraseIdx, if_pos (List.length_pos_iff.mpr h)]
  have := List.length_pos_iff.mpr h
  omega
theorem answer_back (S : LS) (pick : Int) : (S.answer pick).n.back = (S.n.answered pick).back := by
  unfold LS.answer
  split
  · split
    · split <;> rfl
    · rfl
  · rfl
theorem answer_forth (S : LS) (pick : Int) : (S.answer pick).n.forth = S.n.forth := by
  unfold LS.answer
  split
  · split
    · split <;> rfl
    · rfl
  · rfl
noncomputable def LS.forthAll : Nat → LS → LS
  | 0, S => S
  | k + 1, S => LS.forthAll k (S.comes 0)
noncomputable def LS.backAll : Nat → LS → LS
  | 0, S => S
  | k + 1, S => LS.backAll k (S.answer 0)
noncomputable def LS.allCome (S : LS) : LS := LS.backAll (LS.forthAll S.n.forth.length S).n.back.length (LS.forthAll S.n.forth.length S)

end
section
-- L10
theorem off_L10 : True := by w_top off; trivial
section
variable {prog : Program} {w : World} {K : Type} [DecidableEq K] {knd : KeyKind prog w K} {A : Around} {E : Value → Shared → Prop} {s : Shared} {h₀ : Heap} {L d : Addr} {m : Str → Option Value} {news : List (Addr × Obj)} {g : Obj → List (Addr × Obj)} {o : Obj} {kvs : List (K × Value)}
theorem m_update {o₂ : Addr} {ob2 : Obj} {more : List (K × Value)} {Q : Value → Shared → Prop} (F : Fr h₀ L s.heap m) (N : News h₀ L s.heap news) (U : UpdF d o news g) (hm2 : (o₂, ob2) ∈ news) (hd : o.IsDictOf knd kvs) (hd2 : ob2.IsDictOf knd more) (hne : d ≠ o₂) (lo : (o₂ == sysModules) = false) (hsz : kvs.length + more.length ≤ sizeLine)
    (h : ∀ h' o', Fr h₀ L h' m → News h₀ L h' (g o') → o'.IsDictOf knd (merged kvs more) → Q .none { s with heap := h' }) : wpAny (model prog w) A (call (.builtin "dict.update") [.ref d, .ref o₂]) Q E s := by
  obtain ⟨pre, post, rfl, hg, a, b⟩ := U.split
  have hm := N (d, o) (List.mem_append_right _ (.head _))
  have hD : s.heap.DictOf knd d kvs := Heap.dictOf_iff.mpr ⟨o, hm.1, hd⟩
  have hD2 : s.heap.DictOf knd o₂ more := Heap.dictOf_iff.mpr ⟨ob2, (N _ hm2).1, hd2⟩
  refine call_meetsIn PySem.F.slot_dict_update hD.typeIs PySem.F.entry_dict_update (PySem.F.args_dict_update_2 _ _) (meets_dict_update knd d o₂ hne lo) ⟨kvs, more, hD, hD2, hsz, fun h' hmm _ hs => ?_⟩
  obtain ⟨o', ho', hd'⟩ := Heap.dictOf_iff.mp hmm
  exact h h' o' (F.change hs hm.2.1 hm.2.2) (hg o' ▸ N.setIn a b hs ho') hd'
end
theorem merged1 (t1 t2 t3 t4 t5 t6 t7 : Tok) (v1 v2 v3 v4 v5 v6 v7 : Value) :
    merged (strPairs [(.str (Str.ofString "hears") t1, v1), (.str (Str.ofString "first") t2, v2), (.str (Str.ofString "failed") t3, v3), (.str (Str.ofString "over") t4, v4)]) (strPairs [(.str (Str.ofString "proven") t5, v5), (.str (Str.ofString "open") t6, v6), (.str (Str.ofString "end") t7, v7)])
      = [(Str.ofString "hears", v1), (Str.ofString "first", v2), (Str.ofString "failed", v3), (Str.ofString "over", v4), (Str.ofString "proven", v5), (Str.ofString "open", v6), (Str.ofString "end", v7)] := by rfl
theorem merged2 (t1 t2 t3 t4 t5 t6 : Tok) (v1 v2 v3 v4 v5 v6 v7 w1 w2 w3 w4 w5 w6 : Value) :
    merged [(Str.ofString "hears", v1), (Str.ofString "first", v2), (Str.ofString "failed", v3), (Str.ofString "over", v4), (Str.ofString "proven", v5), (Str.ofString "open", v6), (Str.ofString "end", v7)] (strPairs [(.str (Str.ofString "forth") t1, w1), (.str (Str.ofString "back") t2, w2), (.str (Str.ofString "count") t3, w3), (.str (Str.ofString "number") t4, w4), (.str (Str.ofString "now") t5, w5), (.str (Str.ofString "active") t6, w6)])
      = [(Str.ofString "hears", v1), (Str.ofString "first", v2), (Str.ofString "failed", v3), (Str.ofString "over", v4), (Str.ofString "proven", v5), (Str.ofString "open", v6), (Str.ofString "end", v7), (Str.ofString "forth", w1), (Str.ofString "back", w2), (Str.ofString "count", w3), (Str.ofString "number", w4), (Str.ofString "now", w5), (Str.ofString "active", w6)] := by rfl

end
section
-- L22
theorem off_L22 : True := by w_top off; trivial
/-! the net at a place that is not written -/
noncomputable def NG.oAt (g : NG) : Nat → Addr := tri 0 g.o0 g.o1 g.o2
noncomputable def NG.qAt (g : NG) : Nat → List (Bts × Tok) := tri [] g.q0 g.q1 g.q2
noncomputable def NG.nAt (g : NG) : Nat → Nat := tri 0 g.n0 g.n1 g.n2
noncomputable def NG.vAt (g : NG) : Nat → Option (Int × Tok) := tri none g.v0 g.v1 g.v2
noncomputable def NG.hAt (g : NG) : Nat → Bool := tri false g.h0 g.h1 g.h2
noncomputable def NG.oRest (g : NG) : Nat → Led
  | 0 => [(g.o1, bl g.q1 g.n1), (g.o2, bl g.q2 g.n2)]
  | 1 => [(g.o0, bl g.q0 g.n0), (g.o2, bl g.q2 g.n2)]
  | _ => [(g.o0, bl g.q0 g.n0), (g.o1, bl g.q1 g.n1)]
noncomputable def NG.setQ (g : NG) : Nat → List (Bts × Tok) → Nat → NG
  | 0, q, n => { g with q0 := q, n0 := n }
  | 1, q, n => { g with q1 := q, n1 := n }
  | _, q, n => { g with q2 := q, n2 := n }
noncomputable def NG.setV (g : NG) : Nat → Option (Int × Tok) → NG
  | 0, v => { g with v0 := v }
  | 1, v => { g with v1 := v }
  | _, v => { g with v2 := v }
/-- the cells but the three queues -/
noncomputable abbrev NG.base (g : NG) : Led := [(g.nd, g.nob), (g.hl, listOf #[.bool g.h0, .bool g.h1, .bool g.h2] g.hn), (g.fl, il g.failed g.fn), (g.ol, bl g.over g.on_), (g.pl, il g.proven g.pn), (g.od, g.oob), (g.ed, g.eob), (g.fo, listOf (g.forth.map FT.ref).toArray g.fon), (g.ba, bl g.back g.ban)]
noncomputable abbrev NG.cellAt (g : NG) (a : Nat) : Addr × Obj := (g.oAt a, bl (g.qAt a) (g.nAt a))
theorem sep_at {g : NG} {a : Nat} (ha : a < 3) {X : Led} (h : Sep (g.cells ++ X)) : Sep (g.base ++ (g.cellAt a :: (g.oRest a ++ X))) := by
  rcases places_lt ha with rfl | rfl | rfl
  · exact h.selY 12 [X] [0, 1, 2, 3, 4, 5, 9, 10, 11, 6, 7, 8, 12] rfl rfl
  · exact h.selY 12 [X] [0, 1, 2, 3, 4, 5, 9, 10, 11, 7, 6, 8, 12] rfl rfl
  · exact h.selY 12 [X] [0, 1, 2, 3, 4, 5, 9, 10, 11, 8, 6, 7, 12] rfl rfl
theorem sep_of {g : NG} {a : Nat} (ha : a < 3) {X : Led} (h : Sep (g.base ++ (g.cellAt a :: (g.oRest a ++ X)))) : Sep (g.cells ++ X) := by
  rcases places_lt ha with rfl | rfl | rfl
  · exact h.selY 12 [X] [0, 1, 2, 3, 4, 5, 9, 10, 11, 6, 7, 8, 12] rfl rfl
  · exact h.selY 12 [X] [0, 1, 2, 3, 4, 5, 10, 9, 11, 6, 7, 8, 12] rfl rfl
  · exact h.selY 12 [X] [0, 1, 2, 3, 4, 5, 10, 11, 9, 6, 7, 8, 12] rfl rfl
theorem news_at {h₀ h : Heap} {L : Addr} {g : NG} {a : Nat} (ha : a < 3) {X : Led} (N : News h₀ L h (g.cells ++ X)) : News h₀ L h (g.base ++ (g.cellAt a :: (g.oRest a ++ X))) := by
  rcases places_lt ha with rfl | rfl | rfl
  · exact News.selY N 12 [X] [0, 1, 2, 3, 4, 5, 9, 10, 11, 6, 7, 8, 12] rfl
  · exact News.selY N 12 [X] [0, 1, 2, 3, 4, 5, 9, 10, 11, 7, 6, 8, 12] rfl
  · exact News.selY N 12 [X] [0, 1, 2, 3, 4, 5, 9, 10, 11, 8, 6, 7, 12] rfl
theorem news_of {h₀ h : Heap} {L : Addr} {g : NG} {a : Nat} (ha : a < 3) {X : Led} (N : News h₀ L h (g.base ++ (g.cellAt a :: (g.oRest a ++ X)))) : News h₀ L h (g.cells ++ X) := by
  rcases places_lt ha with rfl | rfl | rfl
  · exact News.selY N 12 [X] [0, 1, 2, 3, 4, 5, 9, 10, 11, 6, 7, 8, 12] rfl
  · exact News.selY N 12 [X] [0, 1, 2, 3, 4, 5, 10, 9, 11, 6, 7, 8, 12] rfl
  · exact News.selY N 12 [X] [0, 1, 2, 3, 4, 5, 10, 11, 9, 6, 7, 8, 12] rfl
/-- what a change at one place leaves -/
structure Same (g g' : NG) (a : Nat) : Prop where
  base : g'.base = g.base
  oAt : g'.oAt a = g.oAt a
  rest : g'.oRest a = g.oRest a
theorem same_q (g : NG) {a : Nat} (ha : a < 3) (q : List (Bts × Tok)) (n : Nat) : Same g (g.setQ a q n) a := by rcases places_lt ha with rfl | rfl | rfl <;> exact ⟨rfl, rfl, rfl⟩
theorem same_v (g : NG) {a : Nat} (ha : a < 3) (v : Option (Int × Tok)) : Same g (g.setV a v) a := by rcases places_lt ha with rfl | rfl | rfl <;> exact ⟨rfl, rfl, rfl⟩
theorem at_q (g : NG) {a : Nat} (ha : a < 3) (q : List (Bts × Tok)) (n : Nat) : (g.setQ a q n).cellAt a = (g.oAt a, bl q n) := by rcases places_lt ha with rfl | rfl | rfl <;> rfl
theorem at_v (g : NG) {a : Nat} (ha : a < 3) (v : Option (Int × Tok)) : (g.setV a v).cellAt a = g.cellAt a := by rcases places_lt ha with rfl | rfl | rfl <;> rfl
theorem abs_q (g : NG) {a : Nat} (ha : a < 3) (q : List (Bts × Tok)) (n : Nat) : (g.setQ a q n).abs = { g.abs with open_ := upd g.abs.open_ a (fsts q) } := by
  rcases places_lt ha with rfl | rfl | rfl
  · simp only [NG.abs, upd_tri0]; rfl
  · simp only [NG.abs, upd_tri1]; rfl
  · simp only [NG.abs, upd_tri2]; rfl
theorem abs_v (g : NG) {a : Nat} (ha : a < 3) (v : Option (Int × Tok)) : (g.setV a v).abs = { g.abs with end_ := upd g.abs.end_ a (v.map (·.1)) } := by
  rcases places_lt ha with rfl | rfl | rfl
  · simp only [NG.abs, upd_tri0]; rfl
  · simp only [NG.abs, upd_tri1]; rfl
  · simp only [NG.abs, upd_tri2]; rfl
theorem open_at (g : NG) {a : Nat} (ha : a < 3) : g.abs.open_ a = fsts (g.qAt a) := by rcases places_lt ha with rfl | rfl | rfl <;> rfl
theorem end_at (g : NG) {a : Nat} (ha : a < 3) : g.abs.end_ a = (g.vAt a).map (·.1) := by rcases places_lt ha with rfl | rfl | rfl <;> rfl
theorem hears_at (g : NG) (a : Nat) : g.abs.hears a = g.hAt a := rfl
theorem val_o (g : NG) {a : Nat} (ha : a < 3) : PySem.valueAt [((0 : Int), Value.ref g.o0), (1, .ref g.o1), (2, .ref g.o2)] (a : Int) = some (.ref (g.oAt a)) := by rcases places_lt ha with rfl | rfl | rfl <;> rfl
theorem val_v (g : NG) {a : Nat} (ha : a < 3) : PySem.valueAt [((0 : Int), deadV g.v0), (1, deadV g.v1), (2, deadV g.v2)] (a : Int) = some (deadV (g.vAt a)) := by rcases places_lt ha with rfl | rfl | rfl <;> rfl
theorem item_h (g : NG) {a : Nat} (ha : a < 3) : Item9 [.bool g.h0, .bool g.h1, .bool g.h2] (a : Int) (.bool (g.hAt a)) := by
  refine ⟨by omega, by omega, ?_⟩
  rcases places_lt ha with rfl | rfl | rfl <;> rfl
theorem stored_v (g : NG) {a : Nat} (ha : a < 3) (v : Option (Int × Tok)) : PySem.stored [((0 : Int), deadV g.v0), (1, deadV g.v1), (2, deadV g.v2)] (a : Int) (deadV v) = [(0, deadV (g.setV a v).v0), (1, deadV (g.setV a v).v1), (2, deadV (g.setV a v).v2)] := by
  rcases places_lt ha with rfl | rfl | rfl <;> rfl
theorem ok_q {w : World} {g : NG} (ok : g.Ok w) {a : Nat} (ha : a < 3) (q : List (Bts × Tok)) (n : Nat) : (g.setQ a q n).Ok w := by
  obtain ⟨h1, h2, h3⟩ := ok
  rcases places_lt ha with rfl | rfl | rfl <;> exact ⟨h1, h2, h3⟩
theorem qAt_len {g : NG} (sm : g.Sm) {a : Nat} (ha : a < 3) : (g.qAt a).length ≤ 1000 := by
  rcases places_lt ha with rfl | rfl | rfl
  · exact sm.q0
  · exact sm.q1
  · exact sm.q2

/-- the contracts' answers, said by what they are put into -/
noncomputable def KS (V : Value) (W : Led) (R : Value → Led → Prop) : Prop := R V W
noncomputable def KW (w : World) (g : NG) (pg : PG) (T : Led) (S : LS) (R : Value → Led → Prop) : Prop :=
  ∀ (g' : NG) (pg' : PG), St w g' pg' S → g'.nd = g.nd → pg'.p = pg.p → g'.forth = g.forth → Sep (W0 w g' pg' T) → R (.bool true) (W0 w g' pg' T)
noncomputable def KA (w : World) (g : NG) (pg : PG) (T : Led) (S : LS) (R : Value → Led → Prop) : Prop :=
  ∀ (g' : NG) (pg' : PG) (more : List FT), St w g' pg' S → g'.nd = g.nd → pg'.p = pg.p → g'.forth = g.forth ++ more → Sep (W0 w g' pg' (tups more ++ T)) → R (.bool true) (W0 w g' pg' (tups more ++ T))
noncomputable def KL (w : World) (g : NG) (pg : PG) (c : CG) (rest : Led) (S : LS) (R : Value → Led → Prop) : Prop :=
  ∀ (g' : NG) (pg' : PG) (n' : Nat), St w g' pg' S → g'.nd = g.nd → pg'.p = pg.p → Sep (WL w g' pg' { c with n := n' } rest) → R (.bool true) (WL w g' pg' { c with n := n' } rest)
theorem Con.toKS {w : World} {f : Addr} {dd : Nat} {news : Led} {vs : List Value} {V : Value} {W : Led} (h : Con w f dd news vs (fun v n => v = V ∧ n = W)) : ConK w f dd news vs (KS V W) :=
  h.toK (by rintro R k v n ⟨e1, e2⟩; rw [e1, e2]; exact k)
theorem Con.toKW {w : World} {f : Addr} {dd : Nat} {news : Led} {vs : List Value} {g : NG} {pg : PG} {T : Led} {S : LS} (h : Con w f dd news vs (PostW w g pg T S)) : ConK w f dd news vs (KW w g pg T S) :=
  h.toK (by rintro R k v n ⟨g', pg', e1, e2, a, b, c, d, e⟩; rw [e1, e2]; exact k g' pg' a b c d e)
theorem Con.toKA {w : World} {f : Addr} {dd : Nat} {news : Led} {vs : List Value} {g : NG} {pg : PG} {T : Led} {S : LS} (h : Con w f dd news vs (PostA w g pg T S)) : ConK w f dd news vs (KA w g pg T S) :=
  h.toK (by rintro R k v n ⟨g', pg', more, e1, e2, a, b, c, d, e⟩; rw [e1, e2]; exact k g' pg' more a b c d e)
theorem Con.toKL {w : World} {f : Addr} {dd : Nat} {news : Led} {vs : List Value} {g : NG} {pg : PG} {c : CG} {rest : Led} {S : LS} (h : Con w f dd news vs (PostL w g pg c rest S)) : ConK w f dd news vs (KL w g pg c rest S) :=
  h.toK (by rintro R k v n ⟨g', pg', n', e1, e2, a, b, d, e⟩; rw [e1, e2]; exact k g' pg' n' a b d e)
theorem v_self (g : NG) {a : Nat} (ha : a < 3) : (g.setV a (g.vAt a)).v0 = g.v0 ∧ (g.setV a (g.vAt a)).v1 = g.v1 ∧ (g.setV a (g.vAt a)).v2 = g.v2 := by rcases places_lt ha with rfl | rfl | rfl <;> exact ⟨rfl, rfl, rfl⟩
theorem news_set {h₀ h : Heap} {L : Addr} {g : NG} {a : Nat} (ha : a < 3) {X : Led} {v : Option (Int × Tok)} {q : List (Bts × Tok)} {n : Nat} (N : News h₀ L h (g.base ++ ((g.oAt a, bl q n) :: (g.oRest a ++ X)))) : News h₀ L h (((g.setV a v).setQ a q n).cells ++ X) := by
  rcases places_lt ha with rfl | rfl | rfl
  · exact News.selY N 12 [X] [0, 1, 2, 3, 4, 5, 9, 10, 11, 6, 7, 8, 12] rfl
  · exact News.selY N 12 [X] [0, 1, 2, 3, 4, 5, 10, 9, 11, 6, 7, 8, 12] rfl
  · exact News.selY N 12 [X] [0, 1, 2, 3, 4, 5, 10, 11, 9, 6, 7, 8, 12] rfl
theorem sep_set {g : NG} {a : Nat} (ha : a < 3) {X : Led} {v : Option (Int × Tok)} {q : List (Bts × Tok)} {n : Nat} (S : Sep (g.base ++ ((g.oAt a, bl q n) :: (g.oRest a ++ X)))) : Sep (((g.setV a v).setQ a q n).cells ++ X) := by
  rcases places_lt ha with rfl | rfl | rfl
  · exact S.selY 12 [X] [0, 1, 2, 3, 4, 5, 9, 10, 11, 6, 7, 8, 12] rfl rfl
  · exact S.selY 12 [X] [0, 1, 2, 3, 4, 5, 10, 9, 11, 6, 7, 8, 12] rfl rfl
  · exact S.selY 12 [X] [0, 1, 2, 3, 4, 5, 10, 11, 9, 6, 7, 8, 12] rfl rfl
theorem setV_congr {g g1 : NG} (a : Nat) (v : Option (Int × Tok)) (h0 : g1.v0 = g.v0) (h1 : g1.v1 = g.v1) (h2 : g1.v2 = g.v2) : (g1.setV a v).v0 = (g.setV a v).v0 ∧ (g1.setV a v).v1 = (g.setV a v).v1 ∧ (g1.setV a v).v2 = (g.setV a v).v2 := by
  match a with
  | 0 => exact ⟨rfl, h1, h2⟩
  | 1 => exact ⟨h0, rfl, h2⟩
  | n + 2 => exact ⟨h0, h1, rfl⟩
theorem ok_set {w : World} {g : NG} {a : Nat} (ha : a < 3) {v : Option (Int × Tok)} {q : List (Bts × Tok)} {n : Nat} (h1 : g.nob.IsDictOf (strKind PR w) g.kvs) (h2 : g.oob.IsDictOf (intKind PR w) [(0, .ref g.o0), (1, .ref g.o1), (2, .ref g.o2)])
    (h3 : g.eob.IsDictOf (intKind PR w) [(0, deadV (g.setV a v).v0), (1, deadV (g.setV a v).v1), (2, deadV (g.setV a v).v2)]) : ((g.setV a v).setQ a q n).Ok w := by
  rcases places_lt ha with rfl | rfl | rfl <;> exact ⟨h1, h2, h3⟩
theorem upd_self {α : Type} (f : Nat → α) (a : Nat) : upd f a (f a) = f := by
  funext i; unfold upd; split
  · rename_i h; rw [h]
  · rfl

end
section
-- L23
theorem off_L23 : True := by w_top off; trivial
theorem asked_abs (g g1 : NG) {a : Nat} (ha : a < 3) (hg : g.active = a) (e1 : g1.abs = { g.abs with count := g.count + 1, forth := g.abs.forth ++ (if g.hAt a = true then [(a, b8 g.count)] else []) }) (vv : Option (Int × Tok))
    (hv : vv.map (·.1) = if (g.vAt a).map (·.1) = none then some (g.now + 60) else (g.vAt a).map (·.1)) (tb : Tok) (n : Nat) : ((g1.setV a vv).setQ a (g.qAt a ++ [(b8 g.count, tb)]) n).abs = g.abs.asked := by
  subst hg
  rw [abs_q _ ha, abs_v _ ha, e1, hv]
  unfold LN.asked
  rw [show g.abs.active = g.active from rfl, show g.abs.hears g.active = g.hAt g.active from rfl, end_at g ha, open_at g ha, show g.abs.now = g.now from rfl, show g.abs.count = g.count from rfl]
  have h1 : (if (g.vAt g.active).map (·.1) = none then upd g.abs.end_ g.active (some (g.now + 60)) else g.abs.end_) = upd g.abs.end_ g.active (if (g.vAt g.active).map (·.1) = none then some (g.now + 60) else (g.vAt g.active).map (·.1)) := by
    split
    · rfl
    · rw [← end_at g ha, upd_self]
  rw [h1, show fsts (g.qAt g.active ++ [(b8 g.count, tb)]) = fsts (g.qAt g.active) ++ [b8 g.count] by simp [fsts]]
  cases g.hAt g.active
  · simp only [Bool.false_eq_true, if_false, List.append_nil]; rfl
  · simp only [if_true]; rfl
theorem set_nd (g : NG) {a : Nat} (ha : a < 3) (v : Option (Int × Tok)) (q : List (Bts × Tok)) (n : Nat) : ((g.setV a v).setQ a q n).nd = g.nd ∧ ((g.setV a v).setQ a q n).forth = g.forth := by rcases places_lt ha with rfl | rfl | rfl <;> exact ⟨rfl, rfl⟩
theorem Sep.pre {A A' R : Led} (S : Sep (A ++ R)) (e : A'.map (·.1) = A.map (·.1)) : Sep (A' ++ R) := S.congr (by rw [List.map_append, List.map_append, e])
theorem sep_nd {h₀ h : Heap} {L : Addr} {l : Led} {as : List Addr} (_N : News h₀ L h l) (hn : as.Nodup) (e : l.map (·.1) = as) : Sep l := sep_of_nd (e ▸ hn)

end
section
-- N1
theorem off_N1 : True := by w_top off; trivial
/-- the net behind an end at a place -/
noncomputable def NG.fin (g : NG) (a : Nat) (nob oob eob : Obj) (D x : Addr) (n k : Nat) : NG := match a with
  | 0 => { g with nob := nob, ol := D, over := g.over ++ g.q0, on_ := n, oob := oob, eob := eob, o0 := x, q0 := [], n0 := k, v0 := none }
  | 1 => { g with nob := nob, ol := D, over := g.over ++ g.q1, on_ := n, oob := oob, eob := eob, o1 := x, q1 := [], n1 := k, v1 := none }
  | _ => { g with nob := nob, ol := D, over := g.over ++ g.q2, on_ := n, oob := oob, eob := eob, o2 := x, q2 := [], n2 := k, v2 := none }
section
variable {w : World} {h₀ h : Heap} {L : Addr} {g : NG} {a : Nat} {nob oob eob : Obj} {D x : Addr} {n k : Nat}
theorem fin_news (ha : a < 3) {X : Led} (N : News h₀ L h ((g.nd, nob) :: (g.hl, listOf #[.bool g.h0, .bool g.h1, .bool g.h2] g.hn) :: (g.fl, il g.failed g.fn) :: (D, bl (g.over ++ g.qAt a) n) :: (g.pl, il g.proven g.pn) :: (g.od, oob) :: (g.ed, eob) :: (g.fo, listOf (g.forth.map FT.ref).toArray g.fon) :: (g.ba, bl g.back g.ban) :: (x, bl [] k) :: (g.oRest a ++ X))) : News h₀ L h ((g.fin a nob oob eob D x n k).cells ++ X) := by
  rcases places_lt ha with rfl | rfl | rfl
  · exact News.selY N 12 [X] [0, 1, 2, 3, 4, 5, 9, 10, 11, 6, 7, 8, 12] rfl
  · exact News.selY N 12 [X] [0, 1, 2, 3, 4, 5, 10, 9, 11, 6, 7, 8, 12] rfl
  · exact News.selY N 12 [X] [0, 1, 2, 3, 4, 5, 10, 11, 9, 6, 7, 8, 12] rfl
theorem fin_sep (ha : a < 3) {X : Led} (S : Sep ((g.nd, nob) :: (g.hl, listOf #[.bool g.h0, .bool g.h1, .bool g.h2] g.hn) :: (g.fl, il g.failed g.fn) :: (D, bl (g.over ++ g.qAt a) n) :: (g.pl, il g.proven g.pn) :: (g.od, oob) :: (g.ed, eob) :: (g.fo, listOf (g.forth.map FT.ref).toArray g.fon) :: (g.ba, bl g.back g.ban) :: (x, bl [] k) :: (g.oRest a ++ X))) : Sep ((g.fin a nob oob eob D x n k).cells ++ X) := by
  rcases places_lt ha with rfl | rfl | rfl
  · exact S.selY 12 [X] [0, 1, 2, 3, 4, 5, 9, 10, 11, 6, 7, 8, 12] rfl rfl
  · exact S.selY 12 [X] [0, 1, 2, 3, 4, 5, 10, 9, 11, 6, 7, 8, 12] rfl rfl
  · exact S.selY 12 [X] [0, 1, 2, 3, 4, 5, 10, 11, 9, 6, 7, 8, 12] rfl rfl
theorem fin_ok (ha : a < 3) {ov : Value} (_e : ov = .ref D) (h1 : nob.IsDictOf (strKind PR w) ({ g with ol := D } : NG).kvs) (h2 : oob.IsDictOf (intKind PR w) (PySem.stored [((0 : Int), Value.ref g.o0), (1, .ref g.o1), (2, .ref g.o2)] (a : Int) (.ref x)))
    (h3 : eob.IsDictOf (intKind PR w) (PySem.stored [((0 : Int), deadV g.v0), (1, deadV g.v1), (2, deadV g.v2)] (a : Int) .none)) : (g.fin a nob oob eob D x n k).Ok w := by
  rcases places_lt ha with rfl | rfl | rfl <;> exact ⟨h1, h2, h3⟩
theorem fin_abs (ha : a < 3) : (g.fin a nob oob eob D x n k).abs = g.abs.ended a ∧ (g.fin a nob oob eob D x n k).nd = g.nd ∧ (g.fin a nob oob eob D x n k).forth = g.forth := by
  rcases places_lt ha with rfl | rfl | rfl
  · exact ⟨by simp only [NG.fin, NG.abs, LN.ended, upd_tri0, fsts, List.map_append, List.map_nil, Option.map_none]; rfl, rfl, rfl⟩
  · exact ⟨by simp only [NG.fin, NG.abs, LN.ended, upd_tri1, fsts, List.map_append, List.map_nil, Option.map_none]; rfl, rfl, rfl⟩
  · exact ⟨by simp only [NG.fin, NG.abs, LN.ended, upd_tri2, fsts, List.map_append, List.map_nil, Option.map_none]; rfl, rfl, rfl⟩
end
theorem c_ended (w : World) (g : NG) (ok : g.Ok w) (sm : g.Sm) (rest : List (Addr × Obj)) (hsep : Sep (g.cells ++ rest)) (a : Nat) (ha : a < 3) (t : Tok) :
    Con w 273 1 (g.cells ++ rest) [.ref g.nd, .int (a : Int) t] (fun v news' => ∃ g' : NG, v = .none ∧ news' = g'.cells ++ rest ∧ g'.Ok w ∧ g'.abs = g.abs.ended a ∧ g'.nd = g.nd ∧ g'.forth = g.forth ∧ Sep (g'.cells ++ rest)) := by
  unfold Con; k_fill; intro mean mg mb dep un gd cn cs fa ccd cl outer A₀ base h₀ L m s Q E B F X N T hk hdep hun hret
  have hnet := ok.net
  have hopn := ok.opn
  have hend := ok.end_
  have hvo := val_o g ha
  have hvv := val_v g ha
  have hov := sm.over
  have hql := qAt_len sm ha
  obtain ⟨R, hR, N1, S1⟩ : ∃ R, R = catB [[(g.hl, listOf #[.bool g.h0, .bool g.h1, .bool g.h2] g.hn)], [(g.fl, il g.failed g.fn)], [(g.pl, il g.proven g.pn)], [(g.fo, listOf (g.forth.map FT.ref).toArray g.fon)], [(g.ba, bl g.back g.ban)], g.oRest a, rest] ∧ News h₀ L s.heap ((g.nd, g.nob) :: (g.od, g.oob) :: (g.ed, g.eob) :: (g.ol, bl g.over g.on_) :: g.cellAt a :: R) ∧ Sep ((g.nd, g.nob) :: (g.od, g.oob) :: (g.ed, g.eob) :: (g.ol, bl g.over g.on_) :: g.cellAt a :: R) :=
    ⟨_, rfl, News.selY (news_at ha N) 10 [g.oRest a, rest] [0, 5, 6, 3, 9, 1, 2, 4, 7, 8, 10, 11] rfl, Sep.selY (sep_at ha hsep) 10 [g.oRest a, rest] [0, 5, 6, 3, 9, 1, 2, 4, 7, 8, 10, 11] rfl rfl⟩
  clear N
  have hnd := ndOf S1
  dsimp only [List.map] at hnd
  clear S1
  refine wpAny_call ?_; k_dflt ktr_enter
  k_steps
  with_reducible rename News h₀ _ _ _ => Nf
  with_reducible rename List.Nodup _ => hnd9
  have S2 := sep_nd Nf hnd9 rfl
  clear hnd9
  rw [hR, ← List.map_append] at Nf S2
  have N3 := fin_news ha (News.selY Nf 8 [[_], [_], [_], [_], [_], g.oRest a, rest] [3, 8, 9, 2, 10, 4, 5, 11, 12, 1, 13, 14] rfl)
  exact hret _ _ _ _ ⟨_, rfl, rfl, fin_ok ha (ov := .ref _) rfl (by assumption) (by assumption) (by assumption), (fin_abs ha).1, (fin_abs ha).2.1, (fin_abs ha).2.2, fin_sep ha (S2.selY 8 [[_], [_], [_], [_], [_], g.oRest a, rest] [3, 8, 9, 2, 10, 4, 5, 11, 12, 1, 13, 14] rfl rfl)⟩ (by k_asm) N3

end
section
-- C2
theorem off_C2 : True := by w_top off; trivial
theorem c_is_proven (w : World) (g : G) (rest : List (Addr × Obj)) :
    Con w 62 1 (g.cells w ++ rest) [.ref g.x] (fun v news' => v = .bool (g.st == .proven) ∧ news' = g.cells w ++ rest) := by
  unfold Con; k_fill; intro mean mg mb dep un gd cn cs fa ccd cl outer A₀ base h₀ L m s Q E B F X N T hk hdep hun hret
  obtain ⟨x, d, c, t0, t1, t2, t3, t4, t5, t6, t7, place, plt, st, stt, free, recv, rct, sent, snt, chal, ep, dead, wants⟩ := g
  dsimp only [G.cells, G.dict, List.cons_append, List.nil_append] at N ⊢
  refine wpAny_call ?_; k_dflt ktr_enter
  k_steps
  · rename News _ _ _ _ => Nf
    have e : (st.str == Str.ofString "proven") = (st == .proven) := by cases st <;> decide
    rw [e]
    exact hret _ _ _ _ ⟨rfl, rfl⟩ (by k_asm) (cb_drop Nf (by walk_at "m sub"))

theorem c_renew (w : World) (g : G) (rest : List (Addr × Obj)) (hsep : Sep (g.cells w ++ rest)) :
    Con w 118 1 (g.cells w ++ rest) [.ref g.x] (fun v news' => ∃ g' : G, v = .none ∧ news' = g'.cells w ++ rest ∧ g'.abs = g.abs.renew ∧ g'.x = g.x ∧ g'.d = g.d ∧ Sep (g'.cells w ++ rest)) := by
  unfold Con; k_fill; intro mean mg mb dep un gd cn cs fa ccd cl outer A₀ base h₀ L m s Q E B F X N T hk hdep hun hret
  obtain ⟨x, d, c, t0, t1, t2, t3, t4, t5, t6, t7, place, plt, st, stt, free, recv, rct, sent, snt, chal, ep, dead, wants⟩ := g
  dsimp only [G.cells, G.dict, List.cons_append, List.nil_append] at N hsep ⊢
  simp only [List.cons_append, List.nil_append, Sep, List.forall_mem_cons] at hsep; refine hide ?_; intro G9 k9; obtain ⟨⟨_, _, _⟩, ⟨_, _⟩, _, hsepR⟩ := hsep; refine k9 ?_; clear k9 G9
  refine wpAny_call ?_; k_dflt ktr_enter
  k_steps
  · rename News _ _ _ _ => Nf
    refine hret _ _ _ _ ⟨G.mk x d c t0 t1 t2 t3 t4 t5 t6 t7 place plt .unproven _ free recv rct sent snt chal ep dead wants, rfl, rfl, ?_, rfl, rfl, ?_⟩ (by k_asm) (cb_drop Nf (by walk_at "m sub"))
    · cases st <;> first | rfl | walk_at "m absurd"
    · walk_at "m sep"
  · rename News _ _ _ _ => Nf
    refine hret _ _ _ _ ⟨G.mk x d c t0 t1 t2 t3 t4 t5 t6 t7 place plt st stt free recv rct sent snt chal ep dead wants, rfl, rfl, ?_, rfl, rfl, ?_⟩ (by k_asm) (cb_drop Nf (by walk_at "m sub"))
    · cases st <;> first | walk_at "m absurd" | rfl
    · walk_at "m sep"

theorem c_on_received (w : World) (g : G) (rest : List (Addr × Obj)) (hsep : Sep (g.cells w ++ rest)) (size : Int) (szt : Tok) :
    Con w 83 1 (g.cells w ++ rest) [.ref g.x, .int size szt] (fun v news' => ∃ g' : G, v = .none ∧ news' = g'.cells w ++ rest ∧ g'.abs = { g.abs with recv := g.recv + size } ∧ g'.x = g.x ∧ g'.d = g.d ∧ Sep (g'.cells w ++ rest)) := by
  unfold Con; k_fill; intro mean mg mb dep un gd cn cs fa ccd cl outer A₀ base h₀ L m s Q E B F X N T hk hdep hun hret
  obtain ⟨x, d, c, t0, t1, t2, t3, t4, t5, t6, t7, place, plt, st, stt, free, recv, rct, sent, snt, chal, ep, dead, wants⟩ := g
  dsimp only [G.cells, G.dict, List.cons_append, List.nil_append] at N hsep ⊢
  simp only [List.cons_append, List.nil_append, Sep, List.forall_mem_cons] at hsep; refine hide ?_; intro G9 k9; obtain ⟨⟨_, _, _⟩, ⟨_, _⟩, _, hsepR⟩ := hsep; refine k9 ?_; clear k9 G9
  refine wpAny_call ?_; k_dflt ktr_enter
  k_steps
  · rename News _ _ _ _ => Nf
    refine hret _ _ _ _ ⟨G.mk x d c t0 t1 t2 t3 t4 t5 t6 t7 place plt st stt free (recv + size) _ sent snt chal ep dead wants, rfl, rfl, ?_, rfl, rfl, ?_⟩ (by k_asm) (cb_drop Nf (by walk_at "m sub"))
    · rfl
    · walk_at "m sep"

theorem c_prove (w : World) (g : G) (rest : List (Addr × Obj)) (hsep : Sep (g.cells w ++ rest)) :
    Con w 97 1 (g.cells w ++ rest) [.ref g.x] (fun v news' => ∃ g' : G, v = .none ∧ news' = g'.cells w ++ rest ∧ g'.abs = g.abs.prove ∧ g'.x = g.x ∧ g'.d = g.d ∧ Sep (g'.cells w ++ rest)) := by
  unfold Con; k_fill; intro mean mg mb dep un gd cn cs fa ccd cl outer A₀ base h₀ L m s Q E B F X N T hk hdep hun hret
  obtain ⟨x, d, c, t0, t1, t2, t3, t4, t5, t6, t7, place, plt, st, stt, free, recv, rct, sent, snt, chal, ep, dead, wants⟩ := g
  dsimp only [G.cells, G.dict, List.cons_append, List.nil_append] at N hsep ⊢
  simp only [List.cons_append, List.nil_append, Sep, List.forall_mem_cons] at hsep; refine hide ?_; intro G9 k9; obtain ⟨⟨_, _, _⟩, ⟨_, _⟩, _, hsepR⟩ := hsep; refine k9 ?_; clear k9 G9
  refine wpAny_call ?_; k_dflt ktr_enter
  k_steps
  · rename News _ _ _ _ => Nf
    refine hret _ _ _ _ ⟨G.mk x d _ t0 t1 t2 t3 t4 t5 t6 t7 place plt .proven _ true recv rct sent snt [] _ none false, rfl, rfl, ?_, rfl, rfl, ?_⟩ (by k_asm) (cb_drop Nf (by walk_at "m sub"))
    · rfl
    · walk_at "m sep"

theorem c_fail (w : World) (g : G) (rest : List (Addr × Obj)) (hsep : Sep (g.cells w ++ rest)) (h0 : 0 ≤ g.recv) (h1 : g.recv ≤ 1000000) :
    Con w 111 1 (g.cells w ++ rest) [.ref g.x] (fun v news' => ∃ g' : G, v = .none ∧ news' = g'.cells w ++ rest ∧ g'.abs = g.abs.fail ∧ g'.x = g.x ∧ g'.d = g.d ∧ Sep (g'.cells w ++ rest)) := by
  unfold Con; k_fill; intro mean mg mb dep un gd cn cs fa ccd cl outer A₀ base h₀ L m s Q E B F X N T hk hdep hun hret
  obtain ⟨x, d, c, t0, t1, t2, t3, t4, t5, t6, t7, place, plt, st, stt, free, recv, rct, sent, snt, chal, ep, dead, wants⟩ := g
  dsimp only [G.cells, G.dict, List.cons_append, List.nil_append] at N hsep h0 h1 ⊢
  simp only [List.cons_append, List.nil_append, Sep, List.forall_mem_cons] at hsep; refine hide ?_; intro G9 k9; obtain ⟨⟨_, _, _⟩, ⟨_, _⟩, _, hsepR⟩ := hsep; refine k9 ?_; clear k9 G9
  refine wpAny_call ?_; k_dflt ktr_enter
  k_steps
  · rename News _ _ _ _ => Nf
    refine hret _ _ _ _ ⟨G.mk x d _ t0 t1 t2 t3 t4 t5 t6 t7 place plt .failed _ false recv rct (if 3 * recv < sent then 3 * recv else sent) _ [] _ none false, rfl, rfl, ?_, rfl, rfl, ?_⟩ (by k_asm) (cb_drop Nf (by walk_at "m sub"))
    · have e : (if 3 * recv < sent then 3 * recv else sent) = min sent (3 * recv) := by rw [Int.min_def]; split <;> split <;> omega
      simp only [G.abs, P.fail, e, List.map_nil, Option.map_none]
    · walk_at "m sep"

theorem c_room (w : World) (g : G) (rest : List (Addr × Obj)) (h0 : 0 ≤ g.recv) (h1 : g.recv ≤ 1000000) :
    Con w 69 1 (g.cells w ++ rest) [.ref g.x] (fun v news' => (∃ t, v = roomV g.abs t) ∧ news' = g.cells w ++ rest) := by
  unfold Con; k_fill; intro mean mg mb dep un gd cn cs fa ccd cl outer A₀ base h₀ L m s Q E B F X N T hk hdep hun hret
  obtain ⟨x, d, c, t0, t1, t2, t3, t4, t5, t6, t7, place, plt, st, stt, free, recv, rct, sent, snt, chal, ep, dead, wants⟩ := g
  dsimp only [G.cells, G.dict, List.cons_append, List.nil_append] at N h0 h1 ⊢
  refine wpAny_call ?_; k_dflt ktr_enter
  k_steps
  · rename News _ _ _ _ => Nf
    have hf : free = true := by first | assumption | (cases free <;> first | rfl | walk_at "m absurd")
    subst hf
    exact hret _ _ _ _ ⟨⟨0, rfl⟩, rfl⟩ (by k_asm) (cb_drop Nf (by walk_at "m sub"))
  · rename News _ _ _ _ => Nf
    have hf : free = false := by first | assumption | (cases free <;> first | rfl | walk_at "m absurd")
    subst hf
    have e : (if 3 * recv - sent > 0 then 3 * recv - sent else 0) = max 0 (3 * recv - sent) := by rw [Int.max_def]; split <;> split <;> omega
    rw [e]
    exact hret _ _ _ _ ⟨⟨_, rfl⟩, rfl⟩ (by k_asm) (cb_drop Nf (by walk_at "m sub"))

end
section
-- P8
theorem off_P8 : True := by w_top off; trivial
theorem c_next_time (w : World) (g : PG) (rest : List (Addr × Obj)) (hl : g.known.length ≤ 3) :
    Con w 228 1 (g.hdr w ++ (flat w g.known ++ rest)) [.ref g.p]
      (fun v news' => IsMin (deads (g.known.map G.abs)) v ∧ news' = g.hdr w ++ (flat w g.known ++ rest)) := by
  unfold Con; k_fill; intro mean mg mb dep un gd cn cs fa ccd cl outer A₀ base h₀ L m s Q E B F X N T hk hdep hun hret
  obtain ⟨p, dp, kl, al, t0, t1, t2, t3, t4, t5, t6, rlt, known, kn, ax, last, high, hit⟩ := g
  dsimp only [PG.hdr, PG.dict, List.cons_append, List.nil_append] at N hl
  generalize hR : flat w known ++ rest = R at N
  refine wpAny_call ?_; k_dflt ktr_enter
  k_steps
  unfold Halt
  rename Fr _ _ _ _ => lF
  rename News _ _ _ _ => lN
  refine LCt.CompSrcT.ledger (by rfl) lF lN (.tail _ (.tail _ (.head _))) (by size_fits) ?_
  intro g1
  refine compRestT_of (fun i ys nw => nw = _ ∧ ys = deadsV (known.take i)) ?_ ?_ ⟨rfl, rfl⟩
  · rintro i v ys nw I oI C oC D m₂ h tk E' hi hv ⟨rfl, rfl⟩ hC hx F1 N1 off ne
    obtain ⟨q, hq, rfl⟩ := item_xref (by simpa using hv)
    have hqm := List.mem_of_getElem? hq
    have hsub : ∀ e ∈ q.cells w, e ∈ R := fun e he => by rw [← hR]; exact List.mem_append_left _ (List.mem_flatMap.mpr ⟨q, hqm, he⟩)
    have N2 := News.more3 (H := [_, _, _, _, _, _]) N1 hsub
    clear N1 lN
    have hsn := deadsV_snoc hq
    dsimp only [G.cells, G.dict, List.cons_append, List.nil_append, xref] at N2 F1 hx
    cases hd : q.dead
    all_goals
      simp only [hd, deadV] at N2 hsn
      k_steps
      all_goals
        unfold Halt
        rename Fr _ _ _ _ => Ff
        rename News _ _ _ _ => Nf
        refine LCg.CompEnd.intro Ff Nf _ (by walk_at "m sub") off (.inr ⟨_, .tail _ (.tail _ (.head _)), rfl, _, rfl⟩) ⟨rfl, by first | (rw [hsn]; done) | (rw [hsn]; simp; done)⟩
  · rintro ys nw ⟨rfl, rfl⟩
    intro D h tk F1 N1 off
    have hsz : (List.map xref known).toArray.size = known.length := by simp
    rw [hsz, List.take_length] at N1
    have hints := deadsV_ints known
    have hlen : (deads (known.map G.abs)).length ≤ known.length := by
      unfold deads
      exact Nat.le_trans (List.length_filterMap_le _ _) (by simp)
    clear lN
    k_steps
    all_goals (rename News _ _ _ _ => Nf; subst hR)
    · exact hret _ _ _ _ ⟨.inr ⟨_, _, rfl, by assumption, by assumption⟩, rfl⟩ (by k_asm) (cb_drop Nf (by walk_at "m sub"))
    · refine hret _ _ _ _ ⟨.inl ⟨?_, rfl⟩, rfl⟩ (by k_asm) (cb_drop Nf (by walk_at "m sub"))
      have h9 : (deads (known.map G.abs)).length = 0 := by omega
      exact List.eq_nil_of_length_eq_zero h9

end
section
-- N5
theorem off_N5 : True := by w_top off; trivial
theorem c_shape (w : World) (g : PG) (rest : List (Addr × Obj)) (hsep : Sep (g.hdr w ++ (flat w g.known ++ rest))) (hl : g.known.length ≤ 3) (hrec : ∀ q ∈ g.known, 0 ≤ q.recv ∧ q.recv ≤ 1000000) (hch : ∀ q ∈ g.known, q.chal.length ≤ 1000) (b : Nat) (hact : PG.at g.known g.ax b) :
    Con w 266 2 (g.hdr w ++ (flat w g.known ++ rest)) [.ref g.p]
      (fun v news' => ∃ (sh : SH) (A : List (Addr × Obj)), v = .ref sh.ta ∧ sh.rows.map (·.g.abs) = g.known.map G.abs ∧ sh.place = b ∧ IsMin (deads (g.known.map G.abs)) sh.nv ∧ (∀ e ∈ sh.head ++ rowsC sh.rows, e ∈ A) ∧ news' = g.hdr w ++ (flat w g.known ++ (A ++ rest))
        ∧ Sep (g.hdr w ++ (flat w g.known ++ (A ++ rest)))) := by
  unfold Con; k_fill; intro mean mg mb dep un gd cn cs fa ccd cl outer A₀ base h₀ L m s Q E B F X N T hk hdep hun hret
  obtain ⟨p, dp, kl, al, t0, t1, t2, t3, t4, t5, t6, rlt, known, kn, ax, last, high, hit⟩ := g
  dsimp only [PG.hdr, PG.dict, List.cons_append, List.nil_append] at N hl hsep hch hact hrec
  generalize hR : flat w known ++ rest = R at N hsep
  refine wpAny_call ?_; k_dflt ktr_enter
  k_steps
  unfold Halt
  rename Fr _ _ _ _ => lF
  rename News _ _ _ _ => lN
  refine LCg.CompSrc.ledger (by rfl) lF lN (.tail _ (.tail _ (.head _))) (by size_fits) ?_
  intro g1
  refine compRest_of (fun i ys nw => ∃ (rs : List SR) (A : List (Addr × Obj)), ys = rs.map SR.ref ∧ rs.map (·.g) = known.take i ∧ (∀ e ∈ rowsC rs, e ∈ A) ∧ nw = (p, instObj 236 dp) :: (dp, PG.dict w ⟨p, dp, kl, al, t0, t1, t2, t3, t4, t5, t6, rlt, known, kn, ax, last, high, hit⟩) :: (kl, listOf (known.map xref).toArray kn) :: (A ++ R) ∧ Sep nw) ?_ ?_ ⟨[], [], rfl, rfl, fun e h => h, rfl, hsep⟩
  · rintro i v ys nw I oI C oC D m₂ h tk E' hi hv ⟨rs, A, rfl, hrs, hA, rfl, hsp⟩ hC hx F1 N1 off ne
    obtain ⟨q, hq, rfl⟩ := item_xref (by simpa using hv)
    have hqm := List.mem_of_getElem? hq
    have hsub : ∀ e ∈ q.cells w, e ∈ A ++ R := fun e he => by rw [← hR]; exact List.mem_append_right _ (List.mem_append_left _ (List.mem_flatMap.mpr ⟨q, hqm, he⟩))
    have N3 := News.more3 (H := [_, _, _, _, _, _]) (R := A ++ R) N1 hsub
    have hch9 := hch q hqm
    have hz9 : (q.chal.map bval).length ≤ 100000 := by rw [List.length_map]; omega
    first | ((with_reducible refine hideW ?_); intro G9 k9; obtain ⟨hr0, hr1⟩ := hrec q hqm; refine k9 ?_; clear k9 G9) | (obtain ⟨hr0, hr1⟩ := hrec q hqm)
    clear N1 lN
    generalize hR1 : A ++ R = R1 at N3 hsub hsp off
    dsimp only [G.cells, G.dict, List.cons_append, List.nil_append, xref] at N3 F1 hx
    rcases hd : q.dead with _ | ⟨dv, dt⟩
    all_goals
      simp only [hd, deadV] at N3
      k_steps
      unfold Halt
      rename News _ _ _ _ => Nf
      rename Fr _ _ _ _ => Ff
      k_dflt (refine Con.use (c_room w q ((_, listOf (q.chal.map bval).toArray _) :: (I, oI) :: (C, oC) :: (D, LCg.lst (rs.map SR.ref)) :: (PG.hdr w ⟨p, dp, kl, al, t0, t1, t2, t3, t4, t5, t6, rlt, known, kn, ax, last, high, hit⟩ ++ R1)) hr0 hr1) (by k_asm) Ff (by k_asm) (cb_drop Nf (by dsimp only [PG.hdr, PG.dict, G.cells, G.dict, List.cons_append, List.nil_append]; simp only [hd, deadV]; walk_at "m sub")) (by k_asm) rfl (by ktr_room) (by ktr_units) ?_)
      intro v nw h2 tk2 hp9; refine hide ?_; intro G9 k9; obtain ⟨⟨rt, e91⟩, e92⟩ := hp9; refine k9 ?_; clear k9 G9; refine subst2 e91 e92 ?_; clear e91 e92; clear v nw; intro F2 N2
      clear Nf Ff
      dsimp only [PG.hdr, PG.dict, G.cells, G.dict, List.cons_append, List.nil_append] at N2
      k_steps
      unfold Halt
      rename Fr _ _ _ _ => Ff
      rename News _ _ _ _ => Nf
      have hst : ∀ r : SR, r.g = q → Sep ([(p, instObj 236 dp), (dp, PG.dict w ⟨p, dp, kl, al, t0, t1, t2, t3, t4, t5, t6, rlt, known, kn, ax, last, high, hit⟩), (kl, listOf (known.map xref).toArray kn)] ++ (r.cells ++ R1)) →
          (∃ (rs' : List SR) (A' : List (Addr × Obj)), rs.map SR.ref ++ [r.ref] = rs'.map SR.ref ∧ rs'.map (·.g) = known.take (i + 1) ∧ (∀ e ∈ rowsC rs', e ∈ A') ∧
            [(p, instObj 236 dp), (dp, PG.dict w ⟨p, dp, kl, al, t0, t1, t2, t3, t4, t5, t6, rlt, known, kn, ax, last, high, hit⟩), (kl, listOf (known.map xref).toArray kn)] ++ (r.cells ++ R1) = (p, instObj 236 dp) :: (dp, PG.dict w ⟨p, dp, kl, al, t0, t1, t2, t3, t4, t5, t6, rlt, known, kn, ax, last, high, hit⟩) :: (kl, listOf (known.map xref).toArray kn) :: (A' ++ R) ∧ Sep ([(p, instObj 236 dp), (dp, PG.dict w ⟨p, dp, kl, al, t0, t1, t2, t3, t4, t5, t6, rlt, known, kn, ax, last, high, hit⟩), (kl, listOf (known.map xref).toArray kn)] ++ (r.cells ++ R1))) := fun r hg hs => by
        refine ⟨rs ++ [r], r.cells ++ A, by rw [List.map_append]; rfl, ?_, ?_, by rw [← hR1]; rfl, hs⟩
        · rw [List.map_append, hrs, List.take_add_one, hq]
          simp only [List.map_cons, List.map_nil, hg, Option.toList_some]
        · intro e he
          rw [rowsC_append] at he
          rcases List.mem_append.mp he with he | he
          · exact List.mem_append_right _ (hA e he)
          · exact List.mem_append_left _ (by simpa [rowsC] using he)
      simp only [List.cons_append, List.nil_append, Sep, List.forall_mem_cons] at hsp; refine hide ?_; intro G9 k9; obtain ⟨⟨_, _, _⟩, ⟨_, _⟩, _, hsepR⟩ := hsp; refine k9 ?_; clear k9 G9
      simp only [LCg.Off3] at off
      walk_at "m ands"
      refine shape_end Ff Nf ⟨_, _, 0, _, q, rt⟩ [_, _, _] R1 (by dsimp only [SR.cells, List.cons_append, List.nil_append]; simp only [hd, deadV]; walk_at "m sub") ?_ (.inr ⟨_, .tail _ (.tail _ (.head _)), rfl, _, rfl⟩) (hst _ rfl ?_)
      · dsimp only [SR.cells, List.cons_append, List.nil_append, LCg.Off3]
        walk_at "m offs"
      · dsimp only [SR.cells]
        walk_at "m sep"
  · rintro ys nw ⟨rs, A, rfl, hrs, hA, rfl, hsp⟩
    intro D h tk F1 N1 off
    have hsz : (List.map xref known).toArray.size = known.length := by simp
    rw [hsz, List.take_length] at hrs
    first | ((with_reducible refine hideW ?_); intro G9 k9; obtain ⟨qk, hqk, hqx, hqp⟩ := hact; refine k9 ?_; clear k9 G9) | (obtain ⟨qk, hqk, hqx, hqp⟩ := hact)
    subst hqx
    have hsub : ∀ e ∈ qk.cells w, e ∈ A ++ R := fun e he => by rw [← hR]; exact List.mem_append_right _ (List.mem_append_left _ (List.mem_flatMap.mpr ⟨qk, hqk, he⟩))
    have N3 := News.more3 (H := [_, _, _, _]) (R := A ++ R) N1 hsub
    clear lN N1
    have ha1 : ∀ e ∈ flat w known, e ∈ A ++ R := fun e he => by rw [← hR]; exact List.mem_append_right _ (List.mem_append_left _ he)
    have ha2 : ∀ e ∈ A, e ∈ A ++ R := fun e he => List.mem_append_left _ he
    have ha3 : ∀ e ∈ rest, e ∈ A ++ R := fun e he => by rw [← hR]; exact List.mem_append_right _ (List.mem_append_right _ he)
    generalize hR1 : A ++ R = R1 at N3 hsub hsp off ha1 ha2 ha3
    dsimp only [G.cells, G.dict, List.cons_append, List.nil_append] at N3
    simp only [LCg.Off1] at off
    have ho2 : ∀ q ∈ flat w known ++ (A ++ rest), q.1 ≠ D := fun q hq => off1_mem off.2.2.2 q (sub_append ha1 (sub_append ha2 ha3) q hq)
    have hsp2 : Sep ((p, instObj 236 dp) :: (dp, PG.dict w ⟨p, dp, kl, al, t0, t1, t2, t3, t4, t5, t6, rlt, known, kn, qk.x, last, high, hit⟩) :: (kl, listOf (known.map xref).toArray kn) :: (flat w known ++ (A ++ rest))) := hsp.of_count fun a => by
      rw [← hR1, ← hR]
      simp only [List.map_cons, List.map_append, List.count_cons, List.count_append]
      omega
    simp only [List.cons_append, List.nil_append, Sep, List.forall_mem_cons] at hsp; refine hide ?_; intro G9 k9; obtain ⟨⟨_, _, _⟩, ⟨_, _⟩, _, hsepR⟩ := hsp; refine k9 ?_; clear k9 G9
    k_steps
    unfold Halt
    rename News _ _ _ _ => Nf
    rename Fr _ _ _ _ => Ff
    k_dflt (refine Con.use (c_next_time w ⟨p, dp, kl, al, t0, t1, t2, t3, t4, t5, t6, rlt, known, kn, qk.x, last, high, hit⟩ ((D, LCg.lst (rs.map SR.ref)) :: (A ++ rest)) hl) (by k_asm) Ff (by k_asm) (cb_drop Nf (by dsimp only [PG.hdr, PG.dict, List.cons_append, List.nil_append]; walk_at "m sub")) (by k_asm) rfl (by ktr_room) (by ktr_units) ?_)
    rintro v nw h2 tk2 ⟨hmin, rfl⟩ F2 N2
    clear Nf Ff
    dsimp only [PG.hdr, PG.dict, List.cons_append, List.nil_append] at N2
    have N3 := cb_drop N2 (show ∀ q ∈ (D, _) :: (p, instObj 236 dp) :: (dp, PG.dict w ⟨p, dp, kl, al, t0, t1, t2, t3, t4, t5, t6, rlt, known, kn, qk.x, last, high, hit⟩) :: (kl, listOf (known.map xref).toArray kn) :: (flat w known ++ (A ++ rest)), q ∈ _ from by walk_at "m sub")
    clear N2
    have hst : ∀ sh : SH, sh.rows = rs → sh.place = b → sh.nv = v → Sep ([(p, instObj 236 dp), (dp, PG.dict w ⟨p, dp, kl, al, t0, t1, t2, t3, t4, t5, t6, rlt, known, kn, qk.x, last, high, hit⟩), (kl, listOf (known.map xref).toArray kn)] ++ (sh.head ++ (flat w known ++ (A ++ rest)))) →
        (∃ (sh' : SH) (A' : List (Addr × Obj)), Value.ref sh.ta = .ref sh'.ta ∧ sh'.rows.map (·.g.abs) = known.map G.abs ∧ sh'.place = b ∧ IsMin (deads (known.map G.abs)) sh'.nv ∧ (∀ e ∈ sh'.head ++ rowsC sh'.rows, e ∈ A') ∧
          [(p, instObj 236 dp), (dp, PG.dict w ⟨p, dp, kl, al, t0, t1, t2, t3, t4, t5, t6, rlt, known, kn, qk.x, last, high, hit⟩), (kl, listOf (known.map xref).toArray kn)] ++ (flat w known ++ ((sh.head ++ A) ++ rest)) = [(p, instObj 236 dp), (dp, PG.dict w ⟨p, dp, kl, al, t0, t1, t2, t3, t4, t5, t6, rlt, known, kn, qk.x, last, high, hit⟩), (kl, listOf (known.map xref).toArray kn)] ++ (flat w known ++ (A' ++ rest)) ∧
          Sep ([(p, instObj 236 dp), (dp, PG.dict w ⟨p, dp, kl, al, t0, t1, t2, t3, t4, t5, t6, rlt, known, kn, qk.x, last, high, hit⟩), (kl, listOf (known.map xref).toArray kn)] ++ (flat w known ++ (A' ++ rest)))) := fun sh h1 h2 h3 hs => by
      refine ⟨sh, sh.head ++ A, rfl, ?_, h2, by rw [h3]; exact hmin, ?_, rfl, ?_⟩
      · rw [h1, ← hrs, List.map_map]; rfl
      · rw [h1]; exact sub_append (fun e he => List.mem_append_left _ he) (fun e he => List.mem_append_right _ (hA e he))
      · exact hs.of_count fun a => by
          simp only [List.map_cons, List.map_append, List.map_nil, List.count_cons, List.count_append, List.count_nil]
          omega
    have hb1 : ∀ e ∈ flat w known, e ∈ flat w known ++ (A ++ rest) := fun e he => List.mem_append_left _ he
    have hb2 : ∀ e ∈ A, e ∈ flat w known ++ (A ++ rest) := fun e he => List.mem_append_right _ (List.mem_append_left _ he)
    have hb3 : ∀ e ∈ rest, e ∈ flat w known ++ (A ++ rest) := fun e he => List.mem_append_right _ (List.mem_append_right _ he)
    generalize hR2 : flat w known ++ (A ++ rest) = R2 at N3 hsp2 ho2 hst hb1 hb2 hb3
    simp only [List.cons_append, List.nil_append, Sep, List.forall_mem_cons] at hsp2; refine hide ?_; intro G9 k9; obtain ⟨⟨_, _, _⟩, ⟨_, _⟩, _, hsepR⟩ := hsp2; refine k9 ?_; clear k9 G9
    dsimp only [PG.dict] at N3
    k_steps
    rename News _ _ _ _ => Nf
    walk_at "m ands"
    refine hret _ _ _ _ (hst ⟨_, D, 0, _, rs, qk.place, qk.plt, v⟩ rfl hqp rfl ?_) (by k_asm) (cb_drop Nf (by dsimp only [PG.hdr, PG.dict, SH.head, List.cons_append, List.nil_append]; walk_at "m sub"))
    dsimp only [SH.head]
    walk_at "m sep"

end
section
-- P7
theorem off_P7 : True := by w_top off; trivial
theorem c_proveK (w : World) (g : G) (rest : Led) (hsep : Sep (g.cells w ++ rest)) : ConK w 97 1 (g.cells w ++ rest) [.ref g.x] (fun R => ∀ g' : G, g'.abs = g.abs.prove → g'.x = g.x → Sep (g'.cells w ++ rest) → R .none (g'.cells w ++ rest)) :=
  (c_prove w g rest hsep).toK (by rintro R k v n ⟨g', e1, e2, a, b, _, c⟩; rw [e1, e2]; exact k g' a b c)
theorem c_take_response (w : World) (g : PG) (rest : List (Addr × Obj)) (hsep : Sep (g.hdr w ++ (flat w g.known ++ rest))) (hk3 : ∀ q ∈ g.known, q.place < 3) (hnd : PlacesNd (g.known.map G.abs)) (qb : G) (hqb : qb ∈ g.known) (hax : qb.x = g.ax) (b : Bts) (bt : Tok) :
    Con w 216 2 (g.hdr w ++ (flat w g.known ++ rest)) [.ref g.p, .bytes b bt]
      (fun v news' => match g.known.find? (G.has b) with
        | none => v = .none ∧ news' = g.hdr w ++ (flat w g.known ++ rest)
        | some q => ∃ (gs : List G) (last' : Option Addr), v = .ref q.x ∧ news' = ({ g with known := gs, last := last' } : PG).hdr w ++ (flat w gs ++ rest) ∧ gs.map G.abs = atK P.prove (g.known.map G.abs) q.place ∧ (∀ r ∈ g.known, PG.at gs r.x r.place) ∧ last' = (if q.place = qb.place then some q.x else g.last) ∧ Sep (({ g with known := gs, last := last' } : PG).hdr w ++ (flat w gs ++ rest))) := by
  unfold Con; k_fill; intro mean mg mb dep un gd cn cs fa ccd cl outer A₀ base h₀ L m s Q E B F X N T hk hdep hun hret
  obtain ⟨R0, hR0⟩ : ∃ R0, R0 = flat w g.known ++ rest := ⟨_, rfl⟩
  have hsep0 := hsep
  rw [← hR0] at N hsep0
  dsimp only [PG.hdr, PG.dict, List.cons_append, List.nil_append] at N
  refine wpAny_call ?_; k_dflt ktr_enter
  k_steps
  unfold Halt
  rename Fr _ _ _ _ => lF
  rename News _ _ _ _ => lN
  refine iter_listUnr (by rfl) lF lN (List.Mem.tail _ (List.Mem.tail _ (List.Mem.head _))) rfl rfl ?_
  intro I hI
  refine listRest_of (fun i nw => nw = g.hdr w ++ R0 ∧ ∀ q ∈ g.known.take i, G.has b q = false) ?_ ?_ _ ⟨rfl, by simp⟩ (List.Mem.tail _ (List.Mem.tail _ (List.Mem.head _))) hI
  · clear hI
    intro i v it h tk nw hv hc hex hl hoff F1 N1
    first | ((with_reducible refine hideW ?_); intro G9 k9; obtain ⟨e1, hno⟩ := hex; refine k9 ?_; clear k9 G9) | (obtain ⟨e1, hno⟩ := hex)
    subst e1
    first | ((with_reducible refine hideW ?_); intro G9 k9; obtain ⟨q, hq, ev⟩ := item_xref hv; refine k9 ?_; clear k9 G9) | (obtain ⟨q, hq, ev⟩ := item_xref hv)
    subst ev
    have hqm := List.mem_of_getElem? hq
    have sp1 : Sep ((I, it) :: (g.hdr w ++ R0)) := ⟨hoff, hsep0⟩
    obtain ⟨pre, post, hkn⟩ : ∃ pre post, g.known = pre ++ q :: post := ⟨_, _, mem_split hq⟩
    have hf : R0 = (flat w pre ++ (q.cells w ++ flat w post)) ++ rest := by rw [hR0, hkn, flat_append, flat_cons]
    have N0 := N1
    rw [hf] at N1 sp1
    have N2 := cb_drop N1 (sub_r2 (h := (I, it) :: g.hdr w))
    have sp2 := sep_r2 (h := (I, it) :: g.hdr w) sp1
    obtain ⟨R3, hR3⟩ : ∃ R3, R3 = flat w pre ++ (flat w post ++ rest) := ⟨_, rfl⟩
    rw [← hR3] at N2 sp2
    clear N1 lN sp1 lF
    have N3 := N2
    dsimp only [G.cells, G.dict, PG.hdr, PG.dict, List.cons_append, List.nil_append] at N3
    dsimp only [xref] at F1
    k_steps
    · have hP := find_first hq (show G.has b q = true from ‹List.contains _ _ = true›) hno
      unfold Halt
      k_dflt (refine ConK.use (c_proveK w q (((I, it) :: g.hdr w) ++ R3) sp2) (by k_asm) F1 (by k_asm) N2 (by k_asm) rfl (by ktr_room) (by ktr_units) ?_)
      intro g2 habs2 hx2 sp4 h2 tk2 F2 N4
      have hpl : g2.place = q.place := place_of_abs habs2 rfl
      have hnd9 := ndOf sp4
      dsimp only [G.cells, PG.hdr, List.cons_append, List.nil_append, List.map] at hnd9
      clear N3 N2 F1 N0
      have eh : ∀ l, ({ g with known := pre ++ g2 :: post, last := l } : PG).hdr w = ({ g with last := l } : PG).hdr w := fun l => by simp only [PG.hdr, hkn, map_xref_mid hx2]
      have fin : ∀ h' tk' l, l = (if q.place = qb.place then some q.x else g.last) → Fr h₀ L h' m → News h₀ L h' (g2.cells w ++ (((I, it) :: ({ g with last := l } : PG).hdr w) ++ R3)) → Q (.ref q.x) { s with heap := h', toks := tk' } := by
        intro h' tk' l el F' N'
        rw [hR3] at N' sp4
        refine hret _ (({ g with known := pre ++ g2 :: post, last := l } : PG).hdr w ++ (flat w (pre ++ g2 :: post) ++ rest)) _ _ ?_ F' ?_
        · dsimp only
          rw [hP]
          refine ⟨pre ++ g2 :: post, l, rfl, rfl, ?_, fun r hr => at_mid hx2 hpl (hkn ▸ ⟨r, hr, rfl, rfl⟩), el, ?_⟩
          · rw [hkn]; exact atK_mid (hkn ▸ hnd) rfl habs2
          · rw [eh, flat_append, flat_cons]
            exact (sep_r2' (h := (I, it) :: g.hdr w) sp4).2.congr rfl
        · rw [eh, flat_append, flat_cons]
          exact cb_drop N' (fun z hz => sub_r2' (h := (I, it) :: ({ g with last := l } : PG).hdr w) z (.tail _ hz))
      clear hret eh
      have N5 := N4
      dsimp only [G.cells, G.dict, PG.hdr, PG.dict, List.cons_append, List.nil_append] at N5
      rw [hx2] at N5 hnd9
      by_cases he : q.place = qb.place
      · have hqq : q = qb := place_inj hnd hqm hqb he
        have hxa : g.ax = q.x := by rw [hqq, hax]
        rw [hxa] at N5
        k_steps
        · with_reducible rename News h₀ _ _ _ => Nf
          refine fin _ _ (some q.x) (if_pos he).symm (by k_asm) ?_
          dsimp only [G.cells, G.dict, PG.hdr, PG.dict, List.cons_append, List.nil_append]
          rw [hx2, hxa]
          exact Nf
        · exact absurd ‹(placeStr _ == placeStr _) = false› (by simp)
      · have hcl : (placeStr g2.place == placeStr qb.place) = false := by rw [hpl, placeStr_beq (hk3 q hqm) (hk3 qb hqb)]; simpa using he
        have hsb : ∀ e ∈ qb.cells w, e ∈ R3 := fun e h9 => by
          rw [hR3]
          rcases List.mem_append.mp (hkn ▸ hqb) with h | h
          · exact List.mem_append_left _ (List.mem_flatMap.mpr ⟨qb, h, h9⟩)
          · rcases List.mem_cons.mp h with h | h
            · exact absurd (by rw [h]) he
            · exact List.mem_append_right _ (List.mem_append_left _ (List.mem_flatMap.mpr ⟨qb, h, h9⟩))
        have N6 : News _ _ _ (qb.cells w ++ _) := cb_drop N5 fun e he => (List.mem_append.mp he).elim (fun h => .tail _ (.tail _ (.tail _ (.tail _ (.tail _ (.tail _ (.tail _ (hsb e h)))))))) id
        dsimp only [G.cells, G.dict, List.cons_append, List.nil_append] at N6
        rw [hax] at N6
        k_steps
        with_reducible rename News h₀ _ _ _ => Nf
        refine fin _ _ g.last (if_neg he).symm (by k_asm) ?_
        dsimp only [G.cells, G.dict, PG.hdr, PG.dict, List.cons_append, List.nil_append]
        rw [hx2]
        exact cb_drop Nf (fun e he => .tail _ (.tail _ (.tail _ he)))
    · have hP : G.has b q = false := ‹List.contains _ _ = false›
      unfold Halt
      refine UnrEnd.intro F1 N0 _ (fun _ h => h) hoff ⟨.tail _ (.tail _ (.head _)), ⟨_, rfl⟩, rfl, ?_⟩
      intro q' hq'
      rw [List.take_add_one, hq] at hq'
      rcases List.mem_append.mp hq' with h | h
      · exact hno q' h
      · obtain rfl := List.mem_singleton.mp h
        exact hP
  · intro h tk u nw hex hl F1 N1
    first | ((with_reducible refine hideW ?_); intro G9 k9; obtain ⟨e1, hno⟩ := hex; refine k9 ?_; clear k9 G9) | (obtain ⟨e1, hno⟩ := hex)
    subst e1
    rw [show (g.known.map xref).length = g.known.length from List.length_map .., List.take_length] at hno
    clear lN lF hI
    k_steps
    with_reducible rename News h₀ _ _ _ => Nf
    have e : g.known.find? (G.has b) = none := List.find?_eq_none.mpr fun q hq => by simpa using hno q hq
    rw [hR0] at Nf
    refine hret _ _ _ _ ?_ (by k_asm) Nf
    dsimp only
    rw [e]
    exact ⟨rfl, rfl⟩

end
section
-- N7
theorem off_N7 : True := by w_top off; trivial
theorem lies_front {h₀ h : Heap} {L : Addr} {w : World} {g : NG} {pg : PG} {T0 : Led} (N : News h₀ L h (W0 w g pg T0)) (S : Sep (W0 w g pg T0)) :
    ∃ Z, Z = catB ([1, 2, 4, 5, 6, 7, 8, 9, 10, 11, 12].map (nthB (headB 12 (g.cells ++ T0) [T0]))) ∧ News h₀ L h ((g.nd, g.nob) :: (g.ol, bl g.over g.on_) :: (pg.hdr w ++ (flat w pg.known ++ Z))) ∧ Sep ((g.nd, g.nob) :: (g.ol, bl g.over g.on_) :: (pg.hdr w ++ (flat w pg.known ++ Z))) :=
  ⟨_, rfl, News.selY N 12 [pg.hdr w, flat w pg.known, T0] [0, 3, 12, 13, 1, 2, 4, 5, 6, 7, 8, 9, 10, 11, 14] rfl, S.selY 12 [pg.hdr w, flat w pg.known, T0] [0, 3, 12, 13, 1, 2, 4, 5, 6, 7, 8, 9, 10, 11, 14] rfl rfl⟩
theorem c_shapeK (w : World) (g : PG) (rest : Led) (hsep : Sep (g.hdr w ++ (flat w g.known ++ rest))) (hl : g.known.length ≤ 3) (hrec : ∀ q ∈ g.known, 0 ≤ q.recv ∧ q.recv ≤ 1000000) (hch : ∀ q ∈ g.known, q.chal.length ≤ 1000) (b : Nat) (hact : PG.at g.known g.ax b) :
    ConK w 266 2 (g.hdr w ++ (flat w g.known ++ rest)) [.ref g.p] (fun R => ∀ (sh : SH) (A : Led), sh.rows.map (·.g.abs) = g.known.map G.abs → sh.place = b → IsMin (deads (g.known.map G.abs)) sh.nv → (∀ e ∈ sh.head ++ rowsC sh.rows, e ∈ A) → Sep (g.hdr w ++ (flat w g.known ++ (A ++ rest))) → R (.ref sh.ta) (g.hdr w ++ (flat w g.known ++ (A ++ rest)))) :=
  (c_shape w g rest hsep hl hrec hch b hact).toK (by rintro R k v n ⟨sh, A, e1, a, b, c, d, e2, e⟩; rw [e1, e2]; exact k sh A a b c d e)
theorem c_take_responseN (w : World) (g : PG) (rest : Led) (hsep : Sep (g.hdr w ++ (flat w g.known ++ rest))) (hk3 : ∀ q ∈ g.known, q.place < 3) (hnd : PlacesNd (g.known.map G.abs)) (qb : G) (hqb : qb ∈ g.known) (hax : qb.x = g.ax) (b : Bts) (bt : Tok) (hn : g.known.find? (G.has b) = none) :
    ConK w 216 2 (g.hdr w ++ (flat w g.known ++ rest)) [.ref g.p, .bytes b bt] (KS .none (g.hdr w ++ (flat w g.known ++ rest))) :=
  (c_take_response w g rest hsep hk3 hnd qb hqb hax b bt).toK fun R k v n h => by
    rw [hn] at h
    rw [h.1, h.2]; exact k
theorem c_lies (w : World) (g : NG) (pg : PG) (S : LS) (st : St w g pg S) (T0 : List (Addr × Obj)) (hsep : Sep (W0 w g pg T0)) (hgd : S.Good) (pick : Int) (pt : Tok) (hc0 : 0 ≤ S.n.count) (hc1 : S.n.count < 255) (hno : ∀ x ∈ S.n.over ++ [b8 255, b8 S.n.count, b9], ∀ p ∈ S.ps, p.has x = false) :
    Con w 311 3 (W0 w g pg T0) [.ref g.nd, .ref pg.p, .int pick pt] (PostW w g pg T0 S) := by
  unfold Con; k_fill; intro mean mg mb dep un gd cn cs fa ccd cl outer A₀ base h₀ L m s Q E B F X N T hk hdep hun hret
  have fc := facts_of st hgd
  have sm := sm_of st.nabs hgd.sm
  have ec : g.count = S.n.count := congrArg LN.count st.nabs
  have eo : fsts g.over = S.n.over := congrArg LN.over st.nabs
  have hc0' : 0 ≤ g.count := by omega
  have hc1' : g.count < 255 := by omega
  have hnet := st.ok.net
  have hov := sm.over
  clear sm
  first | ((with_reducible refine hideW ?_); intro G9 k9; obtain ⟨Z, hZ, N1, S1⟩ := lies_front N hsep; refine k9 ?_; clear k9 G9) | (obtain ⟨Z, hZ, N1, S1⟩ := lies_front N hsep)
  clear N
  have hnd := ndOf S1
  dsimp only [PG.hdr, PG.dict, List.cons_append, List.nil_append] at N1
  dsimp only [PG.hdr, List.cons_append, List.nil_append, List.map] at hnd
  refine wpAny_call ?_; k_dflt ktr_enter
  k_steps
  unfold Halt
  rename News _ _ _ _ => Nf
  rename Fr _ _ _ _ => Ff
  first | ((with_reducible refine hideW ?_); intro G9 k9; obtain ⟨s9, hs9, hl9, N3⟩ := lies_pack Nf; refine k9 ?_; clear k9 G9) | (obtain ⟨s9, hs9, hl9, N3⟩ := lies_pack Nf)
  clear Nf
  with_reducible rename List.Nodup _ => hnd9
  have S3 := sep_nd N3 hnd9 rfl
  clear hnd9
  k_dflt (refine ConK.use (c_shapeK w pg (_ :: (g.nd, g.nob) :: (g.ol, bl g.over g.on_) :: Z) (S3.selY 15 [flat w pg.known, Z] [12, 13, 14, 15, 0, 10, 11, 16] rfl rfl) fc.len fc.rcv fc.chal S.act st.pat) (by k_asm) Ff (by k_asm) (News.selY N3 15 [flat w pg.known, Z] [12, 13, 14, 15, 0, 10, 11, 16] rfl) (by k_asm) rfl (by ktr_room) (by ktr_units) ?_)
  intro sh A hrows hpl hmin hA hsepA h2 tk2 F2 N2
  clear N3 Ff S3
  first | ((with_reducible refine hideW ?_); intro G9 k9; obtain ⟨qk, hqk, hqx, hqp⟩ := st.pat; refine k9 ?_; clear k9 G9) | (obtain ⟨qk, hqk, hqx, hqp⟩ := st.pat)
  have hpos : 0 < (s9.map bval).length := by rw [List.length_map]; omega
  have hz9 : (s9.map bval).length ≤ 100000 := by rw [List.length_map]; omega
  have hk0 : 0 ≤ pick.fmod ((s9.map bval).length : Int) := Int.fmod_nonneg_of_pos _ (by omega)
  have hk1 : pick.fmod ((s9.map bval).length : Int) < (s9.map bval).length := Int.fmod_lt_of_pos _ (by omega)
  obtain ⟨f, hf⟩ : ∃ f, s9[(pick.fmod ((s9.map bval).length : Int)).toNat]? = some f := ⟨_, List.getElem?_eq_getElem (by rw [List.length_map] at hk0 hk1 ⊢; omega)⟩
  have hit9 : Item9 (s9.map bval) (pick.fmod ((s9.map bval).length : Int)) (.bytes f.1 f.2) := ⟨hk0, by omega, by rw [List.getElem?_map, hf]; rfl⟩
  have hfm : f.1 ∈ S.n.over ++ [b8 255, b8 S.n.count, b9] := by
    have h9 := List.mem_map_of_mem (f := fun x : Bts × Tok => x.1) (List.mem_of_getElem? hf)
    rw [hs9] at h9
    rw [← eo, ← ec]
    exact h9
  have hfn : pg.known.find? (G.has f.1) = none := List.find?_eq_none.mpr fun q hq => by
    have h9 := hno f.1 hfm q.abs (st.kabs ▸ List.mem_map.mpr ⟨q, hq, rfl⟩)
    rw [has_abs, h9]; decide
  have N4 := (News.selY N2 3 [flat w pg.known, A, [_], [(g.nd, g.nob)], [(g.ol, bl g.over g.on_)], Z] [5, 0, 1, 2, 3, 4, 6, 7, 8] rfl : News _ _ _ (_ :: (pg.p, instObj 236 pg.dp) :: (pg.dp, pg.dict w) :: (pg.kl, listOf (pg.known.map xref).toArray pg.kn) :: (flat w pg.known ++ (A ++ ((g.nd, g.nob) :: (g.ol, bl g.over g.on_) :: Z)))))
  clear N2
  (try dsimp only [PG.dict] at N4)
  k_steps
  unfold Halt
  rename Fr _ _ _ _ => Ff
  rename News _ _ _ _ => Nf
  k_dflt (refine ConK.use (c_take_responseN w pg _ hsepA fc.k3 fc.nd qk hqk hqx f.1 _ hfn) (by k_asm) Ff (by k_asm) (News.selY Nf 4 [flat w pg.known, A, [(g.nd, g.nob)], [(g.ol, bl g.over g.on_)], Z] [1, 2, 3, 4, 5, 0, 6, 7, 8] rfl) (by k_asm) rfl (by ktr_room) (by ktr_units) ?_)
  intro h3 tk3 F3 N5
  clear Nf Ff
  k_steps
  unfold Halt
  rename Fr _ _ _ _ => Ff
  rename News _ _ _ _ => Nf
  k_dflt (refine ConK.use (c_shapeK w pg _ hsepA fc.len fc.rcv fc.chal S.act st.pat) (by k_asm) Ff (by k_asm) Nf (by k_asm) rfl (by ktr_room) (by ktr_units) ?_)
  intro sh2 A2 hrows2 hpl2 hmin2 hA2 hsepA2 h4 tk4 F4 N7
  clear Nf Ff
  k_steps
  unfold Halt
  rename News _ _ _ _ => Nf
  k_dflt (refine m_eq_shape Nf (a := sh2) (b := sh) (fun e he => List.mem_append_right _ (List.mem_append_right _ (List.mem_append_left _ (hA2 e he)))) (fun e he => List.mem_append_right _ (List.mem_append_right _ (List.mem_append_right _ (List.mem_append_left _ (hA e he))))) (hrows2.trans hrows.symm) (hpl2.trans hpl.symm) hmin2 hmin (by ktr_units) ?_)
  k_steps
  with_reducible rename News h₀ _ _ _ => Nf
  rw [hZ] at Nf
  exact hret _ _ _ _ ⟨g, pg, rfl, rfl, st, rfl, rfl, rfl, hsep⟩ (by k_asm) (News.selY Nf 3 ([flat w pg.known, A2, A, [_], [(g.nd, g.nob)], [(g.ol, bl g.over g.on_)]] ++ [1, 2, 4, 5, 6, 7, 8, 9, 10, 11, 12].map (nthB (headB 12 (g.cells ++ T0) [T0]))) [7, 9, 10, 8, 11, 12, 13, 14, 15, 16, 17, 18, 0, 1, 2, 3, 19] rfl)

end
section
-- N0
theorem off_N0 : True := by w_top off; trivial
theorem c_places (w : World) (news0 : List (Addr × Obj)) :
    Con w 247 0 news0 [] (fun v news' => ∃ (l : Addr) (x0 x1 x2 : Tok), v = .ref l ∧ news' = (l, listOf [.str (placeStr 0) x0, .str (placeStr 1) x1, .str (placeStr 2) x2].toArray 0) :: news0 ∧ ∀ q ∈ news0, q.1 < l) := by
  unfold Con; k_fill; intro mean mg mb dep un gd cn cs fa ccd cl outer A₀ base h₀ L m s Q E B F X N T hk hdep hun hret
  generalize hR : news0 = R at N
  refine wpAny_call ?_; k_dflt ktr_enter
  k_steps
  subst hR
  exact hret _ _ _ _ ⟨_, _, _, _, rfl, rfl, by assumption⟩ (by k_asm) (by k_asm)

end
section
-- P1
theorem off_P1 : True := by w_top off; trivial
theorem c_path_of (w : World) (g : PG) (rest : List (Addr × Obj)) (hk3 : ∀ q ∈ g.known, q.place < 3) (a : Nat) (ha : a < 3) (at_ : Tok) :
    Con w 146 1 (g.hdr w ++ (flat w g.known ++ rest)) [.ref g.p, .str (placeStr a) at_]
      (fun v news' => v = (match g.known.find? (fun q => q.place == a) with | some q => .ref q.x | none => .none) ∧ news' = g.hdr w ++ (flat w g.known ++ rest)) := by
  unfold Con; k_fill; intro mean mg mb dep un gd cn cs fa ccd cl outer A₀ base h₀ L m s Q E B F X N T hk hdep hun hret
  obtain ⟨p, dp, kl, al, t0, t1, t2, t3, t4, t5, t6, rlt, known, kn, ax, last, high, hit⟩ := g
  dsimp only [PG.hdr, PG.dict, List.cons_append, List.nil_append] at N hk3 hret
  generalize hR : flat w known ++ rest = R at N hret
  refine wpAny_call ?_; k_dflt ktr_enter
  k_steps
  unfold Halt
  rename Fr _ _ _ _ => lF
  rename News _ _ _ _ => lN
  refine iter_listUnr (by rfl) lF lN (List.Mem.tail _ (List.Mem.tail _ (List.Mem.head _))) rfl rfl ?_
  intro I hI
  refine listRest_of (fun i nw => nw = _ ∧ ∀ q ∈ known.take i, q.place ≠ a) ?_ ?_ _ ⟨rfl, by simp⟩ (List.Mem.tail _ (List.Mem.tail _ (List.Mem.head _))) hI
  · rintro i v it h tk nw hv hc ⟨rfl, hno⟩ hl hoff F1 N1
    obtain ⟨q, hq, rfl⟩ : ∃ q, known[i]? = some q ∧ v = xref q := by
      simp only [List.getElem?_map, Option.map_eq_some_iff] at hv
      first | ((with_reducible refine hideW ?_); intro G9 k9; obtain ⟨q, h1, h2⟩ := hv; exact ⟨q, h1, h2.symm⟩; refine k9 ?_; clear k9 G9) | (obtain ⟨q, h1, h2⟩ := hv; exact ⟨q, h1, h2.symm⟩)
    have hqm := List.mem_of_getElem? hq
    have hsub : ∀ e ∈ q.cells w, e ∈ R := fun e he => by rw [← hR]; exact List.mem_append_left _ (List.mem_flatMap.mpr ⟨q, hqm, he⟩)
    have N2 := News.more2 N1 hsub
    clear N1 lN
    have hq3 := hk3 q hqm
    have hfind : q.place = a → known.find? (fun q => q.place == a) = some q := fun e => find_first hq (by simpa using e) (by simpa using hno)
    clear hsub hqm
    obtain ⟨x1, d1, c1, s0, s1, s2, s3, s4, s5, s6, s7, place, plt, st, stt, free, recv, rct, sent, snt, chal, ep, dead, wants⟩ := q
    dsimp only [G.cells, G.dict, List.cons_append, List.nil_append, xref] at N2 F1 hq3 hfind ⊢
    k_steps
    · rename News _ _ _ _ => Nf
      have e : place = a := by
        have h9 := ‹(placeStr place == placeStr a) = true›
        rw [placeStr_beq hq3 ha] at h9
        simpa using h9
      exact hret _ _ _ _ ⟨by rw [hfind e], rfl⟩ (by k_asm) (cb_drop Nf (by walk_at "m sub"))
    · unfold Halt
      have e : place ≠ a := by
        have h9 := ‹(placeStr place == placeStr a) = false›
        rw [placeStr_beq hq3 ha] at h9
        simpa using h9
      rename Fr _ _ _ _ => Ff
      rename News _ _ _ _ => Nf
      refine UnrEnd.intro Ff Nf _ (by walk_at "m sub") hoff ⟨hl, ⟨_, rfl⟩, rfl, ?_⟩
      intro q' hq'
      rw [List.take_add_one, hq] at hq'
      rcases List.mem_append.mp hq' with h | h
      · exact hno q' h
      · obtain rfl := List.mem_singleton.mp h
        exact e
  · rintro h tk u nw ⟨rfl, hno⟩ hl F1 N1
    rw [show (known.map xref).length = known.length from List.length_map .., List.take_length] at hno
    clear lN
    k_steps
    rename News _ _ _ _ => Nf
    have e : known.find? (fun q => q.place == a) = none := List.find?_eq_none.mpr fun q hq => by simpa using hno q hq
    exact hret _ _ _ _ ⟨by rw [e], rfl⟩ (by k_asm) Nf

end
section
-- P2
theorem off_P2 : True := by w_top off; trivial
theorem c_opened (w : World) (g : PG) (rest : List (Addr × Obj)) (hsep : Sep (g.hdr w ++ (flat w g.known ++ rest))) (hk3 : ∀ q ∈ g.known, q.place < 3) (hl : g.known.length ≤ 3) (a : Nat) (ha : a < 3) (at_ : Tok) :
    Con w 153 2 (g.hdr w ++ (flat w g.known ++ rest)) [.ref g.p, .str (placeStr a) at_]
      (fun v news' => ∃ (gs : List G) (kn' : Nat) (x : Addr), v = .ref x ∧ news' = ({ g with known := gs, kn := kn' } : PG).hdr w ++ (flat w gs ++ rest) ∧ gs.map G.abs = openK (g.known.map G.abs) a ∧ (∃ more, gs = g.known ++ more) ∧ PG.at gs x a ∧ Sep (({ g with known := gs, kn := kn' } : PG).hdr w ++ (flat w gs ++ rest))) := by
  unfold Con; k_fill; intro mean mg mb dep un gd cn cs fa ccd cl outer A₀ base h₀ L m s Q E B F X N T hk hdep hun hret
  obtain ⟨p, dp, kl, al, t0, t1, t2, t3, t4, t5, t6, rlt, known, kn, ax, last, high, hit⟩ := g
  dsimp only [PG.hdr, PG.dict, List.cons_append, List.nil_append] at N hk3 hl hsep hret
  have hfl : ∀ q ∈ flat w known, q ∈ flat w known ++ rest := fun q hq => List.mem_append_left _ hq
  have hrs : ∀ q ∈ rest, q ∈ flat w known ++ rest := fun q hq => List.mem_append_right _ hq
  have hsep0 := hsep
  generalize hR : flat w known ++ rest = R at N hsep hfl hrs
  simp only [List.cons_append, List.nil_append, Sep, List.forall_mem_cons] at hsep; refine hide ?_; intro G9 k9; obtain ⟨⟨_, _, _⟩, ⟨_, _⟩, _, hsepR⟩ := hsep; refine k9 ?_; clear k9 G9
  refine wpAny_call ?_; k_dflt ktr_enter
  k_steps
  unfold Halt
  rename News _ _ _ _ => Nf
  rename Fr _ _ _ _ => Ff
  k_dflt (refine Con.use (c_path_of w ⟨p, dp, kl, al, t0, t1, t2, t3, t4, t5, t6, rlt, known, kn, ax, last, high, hit⟩ rest hk3 a ha _) (by k_asm) Ff (by k_asm) (cb_drop Nf ?_) (by k_asm) rfl (by ktr_room) (by ktr_units) ?_)
  · dsimp only [PG.hdr, PG.dict, List.cons_append, List.nil_append]
    rw [hR]
    walk_at "m sub"
  intro v nw h1 tk1 hp9; refine hide ?_; intro G9 k9; obtain ⟨e91, e92⟩ := hp9; refine k9 ?_; clear k9 G9; refine subst2 e91 e92 ?_; clear e91 e92; clear v nw; intro F1 N1
  clear Nf Ff
  dsimp only [PG.hdr, PG.dict, List.cons_append, List.nil_append] at N1
  rw [hR] at N1
  cases hf : known.find? (fun q => q.place == a) with
  | some q =>
    dsimp only
    k_steps
    rename News _ _ _ _ => Nf
    subst hR
    refine hret _ _ _ _ ⟨known, kn, q.x, rfl, rfl, openK_some hf, ⟨[], by simp⟩, ⟨q, List.mem_of_find?_eq_some hf, rfl, by simpa using List.find?_some hf⟩, hsep0⟩ (by k_asm) (cb_drop Nf (by walk_at "m sub"))
  | none =>
    dsimp only
    k_steps
    rename News _ _ _ _ => Nf
    subst hR
    refine hret _ _ _ _ ⟨known ++ [G.mk _ _ _ _ _ _ _ _ _ _ _ a at_ .unproven _ false 0 _ 0 _ [] _ none false], _, _, rfl, rfl, ?_, ⟨_, rfl⟩, ⟨_, List.mem_append_right _ (List.mem_singleton.mpr rfl), rfl, rfl⟩, ?_⟩ (by k_asm) (cb_drop Nf (by rw [flat_append, flat_cons, flat_nil]; dsimp only [PG.hdr, PG.dict]; rw [← push_xref]; walk_at "m sub"))
    · rw [openK_none hf, List.map_append]; rfl
    · rw [flat_append, flat_cons, flat_nil, List.append_nil]
      refine sep_r1 (h := [_, _, _]) ?_
      walk_at "m sep"

end
section
-- P3
theorem off_P3 : True := by w_top off; trivial
theorem c_on_datagram (w : World) (g : PG) (rest : List (Addr × Obj)) (hsep : Sep (g.hdr w ++ (flat w g.known ++ rest))) (hk3 : ∀ q ∈ g.known, q.place < 3) (hl : g.known.length ≤ 3) (a : Nat) (ha : a < 3) (hnd : PlacesNd (openK (g.known.map G.abs) a)) (at_ : Tok) (size : Int) (szt : Tok) :
    Con w 160 3 (g.hdr w ++ (flat w g.known ++ rest)) [.ref g.p, .str (placeStr a) at_, .int size szt]
      (fun v news' => ∃ (gs : List G) (kn' : Nat) (x : Addr), v = .ref x ∧ news' = ({ g with known := gs, kn := kn' } : PG).hdr w ++ (flat w gs ++ rest) ∧ gs.map G.abs = recvK (openK (g.known.map G.abs) a) a size ∧ (∀ q ∈ g.known, PG.at gs q.x q.place) ∧ PG.at gs x a ∧ Sep (({ g with known := gs, kn := kn' } : PG).hdr w ++ (flat w gs ++ rest))) := by
  unfold Con; k_fill; intro mean mg mb dep un gd cn cs fa ccd cl outer A₀ base h₀ L m s Q E B F X N T hk hdep hun hret
  obtain ⟨p, dp, kl, al, t0, t1, t2, t3, t4, t5, t6, rlt, known, kn, ax, last, high, hit⟩ := g
  dsimp only [PG.hdr, PG.dict, List.cons_append, List.nil_append] at N hk3 hl hsep hnd
  generalize hR : flat w known ++ rest = R at N
  refine wpAny_call ?_; k_dflt ktr_enter
  k_steps
  unfold Halt
  rename News _ _ _ _ => Nf
  rename Fr _ _ _ _ => Ff
  k_dflt (refine Con.use (c_path_of w ⟨p, dp, kl, al, t0, t1, t2, t3, t4, t5, t6, rlt, known, kn, ax, last, high, hit⟩ rest hk3 a ha _) (by k_asm) Ff (by k_asm) (cb_drop Nf ?_) (by k_asm) rfl (by ktr_room) (by ktr_units) ?_)
  · dsimp only [PG.hdr, PG.dict, List.cons_append, List.nil_append]
    rw [hR]
    walk_at "m sub"
  intro v nw h1 tk1 hp9; refine hide ?_; intro G9 k9; obtain ⟨e91, e92⟩ := hp9; refine k9 ?_; clear k9 G9; refine subst2 e91 e92 ?_; clear e91 e92; clear v nw; intro F1 N1
  clear Nf Ff
  dsimp only [PG.hdr, PG.dict, List.cons_append, List.nil_append] at N1
  rw [hR] at N1
  cases hf : known.find? (fun q => q.place == a)
  all_goals
    dsimp only
    k_steps
    unfold Halt
    rename News _ _ _ _ => Nf
    rename Fr _ _ _ _ => Ff
    k_dflt (refine Con.use (c_opened w ⟨p, dp, kl, al, t0, t1, t2, t3, t4, t5, t6, rlt, known, kn, ax, last, high, hit⟩ rest hsep hk3 hl a ha _) (by k_asm) Ff (by k_asm) (cb_drop Nf ?_) (by k_asm) rfl (by ktr_room) (by ktr_units) ?_)
    · dsimp only [PG.hdr, PG.dict, List.cons_append, List.nil_append]
      rw [hR]
      walk_at "m sub"
    intro v nw h2 tk2 hp9; refine hide ?_; intro G9 k9; obtain ⟨gs, kn', x, e91, e92, habs, ⟨more, hmore⟩, ⟨g, hgm, rfl, hga⟩, hsep2⟩ := hp9; refine k9 ?_; clear k9 G9; refine subst2 e91 e92 ?_; clear e91 e92; clear v nw; intro F2 N2
    clear Nf Ff
    have hat : ∀ q ∈ known, PG.at gs q.x q.place := fun q hq => at_more hmore hq
    clear hmore
    obtain ⟨pre, post, rfl⟩ := mem_mid hgm
    rw [flat_append, flat_cons] at N2 hsep2
    have N3 := cb_drop N2 sub_r2
    have hsep3 := sep_r2 hsep2
    clear N2 hsep2
    generalize hR2 : PG.hdr w _ ++ (flat w pre ++ (flat w post ++ rest)) = R2 at N3 hsep3
    have hsep4 := hsep3
    dsimp only [G.cells, G.dict, List.cons_append, List.nil_append] at N3
    k_steps
    unfold Halt
    rename News _ _ _ _ => Nf
    rename Fr _ _ _ _ => Ff
    k_dflt (refine Con.use (c_on_received w g R2 hsep4 size _) (by k_asm) Ff (by k_asm) (cb_drop Nf (by walk_at "m sub")) (by k_asm) rfl (by ktr_room) (by ktr_units) ?_)
    intro v nw h3 tk3 hp9; refine hide ?_; intro G9 k9; obtain ⟨g2, e91, e92, habs2, hx2, hd2, hsep5⟩ := hp9; refine k9 ?_; clear k9 G9; refine subst2 e91 e92 ?_; clear e91 e92; clear v nw; intro F3 N4
    clear Nf Ff
    k_steps
    rename News _ _ _ _ => Nf
    subst hR2
    refine hret _ _ _ _ ⟨pre ++ g2 :: post, kn', g.x, rfl, rfl, ?_, fun q hq => at_mid hx2 (place_of_abs habs2 rfl) (hat q hq), ⟨g2, List.mem_append_right _ (.head _), hx2, (place_of_abs habs2 rfl).trans hga⟩, ?_⟩ (by k_asm) (cb_drop Nf ?_)
    · rw [← habs]; exact recvK_mid (by rw [habs]; exact hnd) hga habs2
    · rw [hdr_mid hx2, flat_append, flat_cons]; exact sep_r2' hsep5
    · rw [hdr_mid hx2, flat_append, flat_cons]; exact sub_r2'

end
section
-- P9
theorem off_P9 : True := by w_top off; trivial
local macro_rules | `(tactic| walk_at "exec If") => `(tactic| ((with_reducible show wpAny _ _ (exec (Stmt.If (Expr.BoolOp BoolOp.Or _ _) _ _ _) _) _ _ _); refine halt ?_))
local macro_rules | `(tactic| walk_at "exec Assign") => `(tactic| ((with_reducible show wpAny _ _ (exec (Stmt.Assign _ (Expr.Attribute _ (Str.ofString "last_proven") _) _) _) _ _ _); refine halt ?_))
theorem News.addG {h₀ h : Heap} {L : Addr} {X l : Led} (N : News h₀ L h X) (hs : ∀ e ∈ l, e ∈ X) : News h₀ L h (l ++ X) := cb_drop N fun _ hp => (List.mem_append.mp hp).elim (hs _) id
theorem cutF {M : Model} {A : Around} {t : Sem Flow} {Q : Flow → Shared → Prop} {E : Value → Shared → Prop} {s : Shared} {h₀ : Heap} {L : Addr} {m : Str → Option Value} {news : Led} (_N : News h₀ L s.heap news) (_F : Fr h₀ L s.heap m) {α : Type} (P : α → Prop) (led : α → Led)
    (hw : ∀ Q' : Flow → Shared → Prop, (∀ x h' tk', P x → Fr h₀ L h' m → News h₀ L h' (led x) → Q' .next { s with heap := h', toks := tk' }) → wpAny M A t Q' E s)
    (hr : ∀ x h' tk', P x → Fr h₀ L h' m → News h₀ L h' (led x) → Q .next { s with heap := h', toks := tk' }) : wpAny M A t Q E s := hw Q hr
theorem cutM {M : Model} {A : Around} {t : Sem Flow} {Q : Flow → Shared → Prop} {E : Value → Shared → Prop} {s : Shared} {h₀ : Heap} {L : Addr} {m : Str → Option Value} {news : Led} (_N : News h₀ L s.heap news) (_F : Fr h₀ L s.heap m) (x : Str) (v : Value) (led : Led)
    (hw : ∀ Q' : Flow → Shared → Prop, (∀ h' tk', Fr h₀ L h' (fun y => if y = x then some v else m y) → News h₀ L h' led → Q' .next { s with heap := h', toks := tk' }) → wpAny M A t Q' E s)
    (hr : ∀ h' tk', Fr h₀ L h' (fun y => if y = x then some v else m y) → News h₀ L h' led → Q .next { s with heap := h', toks := tk' }) : wpAny M A t Q E s := hw Q hr
theorem cutB {M : Model} {A : Around} {t : Sem Bool} {Q : Bool → Shared → Prop} {E : Value → Shared → Prop} {s : Shared} {h₀ : Heap} {L : Addr} {m : Str → Option Value} {news : Led} (_N : News h₀ L s.heap news) (_F : Fr h₀ L s.heap m) (P : Bool → Prop) (led : Led)
    (hw : ∀ Q' : Bool → Shared → Prop, (∀ x h' tk', P x → Fr h₀ L h' m → News h₀ L h' led → Q' x { s with heap := h', toks := tk' }) → wpAny M A t Q' E s)
    (hr : ∀ x h' tk', P x → Fr h₀ L h' m → News h₀ L h' led → Q x { s with heap := h', toks := tk' }) : wpAny M A t Q E s := hw Q hr
theorem c_failK (w : World) (g : G) (rest : Led) (hsep : Sep (g.cells w ++ rest)) (h0 : 0 ≤ g.recv) (h1 : g.recv ≤ 1000000) :
    ConK w 111 1 (g.cells w ++ rest) [.ref g.x] (fun R => ∀ g' : G, g'.abs = g.abs.fail → g'.x = g.x → Sep (g'.cells w ++ rest) → R .none (g'.cells w ++ rest)) :=
  (c_fail w g rest hsep h0 h1).toK (by rintro R k v n ⟨g', e1, e2, a, b, _, c⟩; rw [e1, e2]; exact k g' a b c)
theorem ndO9 {D : Addr} {news : Led} {as : List Addr} (h : ∀ q ∈ news, q.1 ≠ D) (n : as.Nodup) (e : news.map (·.1) = as) : (D :: as).Nodup := by
  subst e
  refine List.nodup_cons.mpr ⟨fun hm => ?_, n⟩
  first | ((with_reducible refine hideW ?_); intro G9 k9; obtain ⟨p, hp, e⟩ := List.mem_map.mp hm; refine k9 ?_; clear k9 G9) | (obtain ⟨p, hp, e⟩ := List.mem_map.mp hm)
  exact h p hp e
theorem c_on_time (w : World) (g : PG) (rest : List (Addr × Obj)) (hsep : Sep (g.hdr w ++ (flat w g.known ++ rest))) (hl3 : g.known.length ≤ 3) (hrec : ∀ q ∈ g.known, 0 ≤ q.recv ∧ q.recv ≤ 1000000) (hnd : PlacesNd (g.known.map G.abs)) (b : Nat) (hact : PG.at g.known g.ax b) (lastP : Option Nat) (hlast : PG.lastOk g.known g.last lastP) (now : Int) (nt : Tok) :
    Con w 233 2 (g.hdr w ++ (flat w g.known ++ rest)) [.ref g.p, .int now nt]
      (fun v news' => ∃ (gs : List G) (ax' : Addr) (t : Tok), v = .str (onTimeP (gs.map G.abs) b lastP).1 t ∧ news' = ({ g with known := gs, ax := ax' } : PG).hdr w ++ (flat w gs ++ rest) ∧ gs.map G.abs = (g.known.map G.abs).map (P.expire now) ∧ (∀ q ∈ g.known, PG.at gs q.x q.place) ∧ PG.at gs ax' (onTimeP (gs.map G.abs) b lastP).2 ∧ Sep (({ g with known := gs, ax := ax' } : PG).hdr w ++ (flat w gs ++ rest))) := by
  unfold Con; k_fill; intro mean mg mb dep un gd cn cs fa ccd cl outer A₀ base h₀ L m s Q E B F X N T hk hdep hun hret
  have hD := Done.zero (f := P.expire now) (H := g.hdr w) hsep
  obtain ⟨R0, hR0⟩ : ∃ R0, R0 = flat w g.known ++ rest := ⟨_, rfl⟩
  rw [← hR0] at N hD
  dsimp only [PG.hdr, PG.dict, List.cons_append, List.nil_append] at N
  refine wpAny_call ?_; k_dflt ktr_enter
  k_steps
  unfold Halt
  rename Fr _ _ _ _ => lF
  rename News _ _ _ _ => lN
  refine iter_listUnr (by rfl) lF lN (List.Mem.tail _ (List.Mem.tail _ (List.Mem.head _))) rfl rfl ?_
  intro I hI
  refine listRest_of (fun i nw => ∃ done, Done w g.known (P.expire now) (g.hdr w) rest i done nw) ?_ ?_ _ ⟨[], hD⟩ (List.Mem.tail _ (List.Mem.tail _ (List.Mem.head _))) hI
  · clear hD hI
    intro i v it h tk nw hv hc hex hl hoff F1 N1
    first | ((with_reducible refine hideW ?_); intro G9 k9; obtain ⟨done, hJ⟩ := hex; refine k9 ?_; clear k9 G9) | (obtain ⟨done, hJ⟩ := hex)
    first | ((with_reducible refine hideW ?_); intro G9 k9; obtain ⟨q, hq, ev⟩ := item_xref hv; refine k9 ?_; clear k9 G9) | (obtain ⟨q, hq, ev⟩ := item_xref hv)
    subst ev
    have hr := hrec q (List.mem_of_getElem? hq)
    have heq := hJ.eq
    rw [drop_cons hq, flat_append, flat_cons] at heq
    have sp1 : Sep ((I, it) :: nw) := ⟨hoff, hJ.sep⟩
    rw [heq] at N1 sp1
    have N2 := cb_drop N1 (sub_r2 (h := (I, it) :: g.hdr w))
    have sp2 := sep_r2 (h := (I, it) :: g.hdr w) sp1
    obtain ⟨X, hX⟩ : ∃ X, X = ((I, it) :: g.hdr w) ++ (flat w done ++ (flat w (g.known.drop (i + 1)) ++ rest)) := ⟨_, rfl⟩
    rw [← hX] at N2 sp2
    clear N1 lN sp1 heq
    refine cutF N2 F1 (fun g2 : G => g2.abs = P.expire now q.abs ∧ g2.x = q.x ∧ g2.place = q.place ∧ Sep (g2.cells w ++ X)) (fun g2 => g2.cells w ++ X) ?_ ?_
    · clear hJ hl hoff
      intro Q' hQ'
      have N3 := N2
      dsimp only [G.cells, G.dict, List.cons_append, List.nil_append] at N3
      dsimp only [xref] at F1
      rcases hd : q.dead with _ | ⟨d, dt⟩
      · rw [hd] at N3
        dsimp only [deadV] at N3
        k_steps
        exact hQ' q _ _ ⟨by simp only [P.expire, G.abs, hd, Option.map_none], rfl, rfl, sp2⟩ F1 N2
      · rw [hd] at N3
        dsimp only [deadV] at N3
        k_steps
        · unfold Halt
          have hle : d ≤ now := by assumption
          k_dflt (refine ConK.use (c_failK w q X sp2 hr.1 hr.2) (by k_asm) F1 (by k_asm) N2 (by k_asm) rfl (by ktr_room) (by ktr_units) ?_)
          intro g2 habs2 hx2 sp4 h2 tk2 F2 N4
          clear N3 N2 F1
          k_steps
          exact hQ' g2 _ _ ⟨by rw [habs2]; simp only [P.expire, G.abs, hd, Option.map_some, if_pos hle], hx2, place_of_abs habs2 rfl, sp4⟩ F2 N4
        · have hle : ¬ d ≤ now := by assumption
          exact hQ' q _ _ ⟨by simp only [P.expire, G.abs, hd, Option.map_some, if_neg hle], rfl, rfl, sp2⟩ F1 N2
    · intro g2 h2 tk2 hp F2 N3
      have sp9 := hp.2.2.2
      rw [hX] at N3 sp9
      have sp8 := sep_r2' (h := (I, it) :: g.hdr w) sp9
      exact UnrEnd.intro F2 (cb_drop N3 (sub_r2' (h := (I, it) :: g.hdr w))) _ (fun _ h => h) sp8.1 ⟨.tail _ (.tail _ (.head _)), ⟨_, rfl⟩, done ++ [g2], hJ.step (g2 := g2) hq hp.1 hp.2.1 hp.2.2.1 sp8.2⟩
  · clear hI hD
    intro h tk u nw hex hl F1 N1
    first | ((with_reducible refine hideW ?_); intro G9 k9; obtain ⟨done, hJ⟩ := hex; refine k9 ?_; clear k9 G9) | (obtain ⟨done, hJ⟩ := hex)
    rw [show (g.known.map xref).length = g.known.length from List.length_map ..] at hJ
    have heq := hJ.eq
    rw [List.drop_length, List.append_nil] at heq
    have hat := hJ.at
    have hxr := hJ.xref
    have hsp := hJ.sep
    have ea := hJ.abs
    rw [List.take_length] at ea
    have hlen : done.length = g.known.length := by
      have := congrArg List.length ea
      simpa using this
    have hJs := hJ.sep
    rw [heq] at N1 hsp
    clear lN hl hJ hJs heq
    first | ((with_reducible refine hideW ?_); intro G9 k9; obtain ⟨qk, hqk, hqx, hqp⟩ := hact; refine k9 ?_; clear k9 G9) | (obtain ⟨qk, hqk, hqx, hqp⟩ := hact)
    first | ((with_reducible refine hideW ?_); intro G9 k9; obtain ⟨ra, hra, hrx, hrp⟩ := hat qk hqk; refine k9 ?_; clear k9 G9) | (obtain ⟨ra, hra, hrx, hrp⟩ := hat qk hqk)
    rw [hqx] at hrx
    rw [hqp] at hrp
    have hnd2 : PlacesNd (done.map G.abs) := by
      rw [ea]
      unfold PlacesNd at hnd ⊢
      rw [List.map_map, show (fun p : P => p.place) ∘ P.expire now = fun p : P => p.place from funext fun p => expire_place now p]
      exact hnd
    have hfp : ∀ r ∈ done, (done.map G.abs).find? (·.place == r.place) = some r.abs := fun r hr => by
      rw [List.find?_map]
      have h9 := find_place hnd2 hr
      rw [show ((fun x : P => x.place == r.place) ∘ G.abs) = fun r' : G => r'.place == r.place from rfl, h9]; rfl
    have hfa := hfp ra hra
    rw [hrp] at hfa
    have eh : ∀ ax', ({ g with known := done, ax := ax' } : PG).hdr w = ({ g with ax := ax' } : PG).hdr w := fun ax' => by simp only [PG.hdr, hxr]
    have fin : ∀ (r : Str × Nat) h' tk' (ax' : Addr) (t : Tok), onTimeP (done.map G.abs) b lastP = r → PG.at done ax' r.2 → Fr h₀ L h' m → News h₀ L h' (({ g with ax := ax' } : PG).hdr w ++ (flat w done ++ rest)) → Q (.str r.1 t) { s with heap := h', toks := tk' } := fun r h' tk' ax' t er ha F' N' => by
      rw [← eh] at N'
      exact hret _ _ _ _ ⟨done, ax', t, by rw [er], rfl, ea, hat, by rw [er]; exact ha, by rw [eh]; exact hsp.congr rfl⟩ F' N'
    obtain ⟨R4, hR4⟩ : ∃ R4, R4 = flat w done ++ rest := ⟨_, rfl⟩
    have hmem : ∀ r ∈ done, ∀ e ∈ r.cells w, e ∈ R4 := fun r hr e he => by rw [hR4]; exact List.mem_append_left _ (List.mem_flatMap.mpr ⟨r, hr, he⟩)
    rw [← hR4] at N1 hsp fin
    have hnd9 := ndOf hsp
    dsimp only [PG.hdr, List.cons_append, List.nil_append, List.map] at hnd9
    have N2 := News.addG (l := ra.cells w) N1 (fun e he => List.mem_append_right _ (hmem ra hra e he))
    dsimp only [G.cells, G.dict, PG.hdr, PG.dict, List.cons_append, List.nil_append] at N2
    rw [hrx] at N2
    have hxl : (List.map xref g.known).toArray.size = done.length := by rw [hlen]; simp
    clear hret
    k_steps
    · with_reducible rename News h₀ _ _ _ => Nf
      have hst : ra.st ≠ .failed := by
        intro e
        have h9 := ‹(ra.st.str != Str.ofString "failed") = true›
        rw [e] at h9; revert h9; decide
      have eo : onTimeP (done.map G.abs) b lastP = (Str.ofString "same", b) := by
        unfold onTimeP; rw [hfa]; exact if_neg hst
      exact fin _ _ _ g.ax _ eo ⟨ra, hra, hrx, hrp⟩ (by k_asm) (cb_drop Nf (by walk_at "m tails"))
    · have hst : ra.st = .failed := by
        have h9 := ‹(ra.st.str != Str.ofString "failed") = false›
        cases h : ra.st <;> rw [h] at h9 <;> first | rfl | (revert h9; decide)
      have eo : onTimeP (done.map G.abs) b lastP = (match backP (done.map G.abs) lastP with | some c => (Str.ofString "back", c) | none => (Str.ofString "lost", b)) := by
        unfold onTimeP; rw [hfa]; exact if_pos hst
      unfold Halt
      rename Fr _ _ _ _ => Ff
      rename News _ _ _ _ => Nf
      refine cutM Nf Ff (Str.ofString "back") (lastV g.last) (g.hdr w ++ R4) ?_ ?_
      · clear fin
        intro Q' hQ'
        rcases hl : g.last with _ | xl
        · rw [hl] at Nf hQ'
          dsimp only [lastV] at Nf hQ'
          refine wpAny_Assign_Name ?_
          k_steps
          rename News _ _ _ _ => Nf9
          refine hQ' _ _ (by k_asm) ?_
          simp only [PG.hdr, PG.dict, hl, lastV, List.cons_append, List.nil_append]
          exact cb_drop Nf9 (by walk_at "m tails")
        · rw [hl] at Nf hQ'
          dsimp only [lastV] at Nf hQ'
          refine wpAny_Assign_Name ?_
          k_steps
          rename News _ _ _ _ => Nf9
          refine hQ' _ _ (by k_asm) ?_
          simp only [PG.hdr, PG.dict, hl, lastV, List.cons_append, List.nil_append]
          exact cb_drop Nf9 (by walk_at "m tails")
      intro h2 tk2 F2 N3
      clear Nf Ff
      have N4 := N3
      dsimp only [PG.hdr, PG.dict, List.cons_append, List.nil_append] at N4
      k_steps
      unfold Halt
      refine wpAny_If ?_
      refine cutB N3 F2 (fun x => (x = true ∧ backP (done.map G.abs) lastP = shownP (done.map G.abs)) ∨ (x = false ∧ ∃ rl ∈ done, g.last = some rl.x ∧ backP (done.map G.abs) lastP = some rl.place)) (g.hdr w ++ R4) ?_ ?_
      · clear fin
        intro Q' hQ'
        rcases hl : g.last with _ | xl
        · rw [hl] at F2 hlast
          dsimp only [lastV] at F2
          k_steps
          refine hQ' true _ _ (.inl ⟨rfl, ?_⟩) ?_ N3
          · cases lastP with
            | some c => exact hlast.elim
            | none => rfl
          · rw [hl]; exact F2
        · rw [hl] at F2 hlast
          dsimp only [lastV] at F2
          cases lastP with
          | none => exact hlast.elim
          | some c =>
          first | ((with_reducible refine hideW ?_); intro G9 k9; obtain ⟨ql, hql, hlx, hlp⟩ := hlast; refine k9 ?_; clear k9 G9) | (obtain ⟨ql, hql, hlx, hlp⟩ := hlast)
          first | ((with_reducible refine hideW ?_); intro G9 k9; obtain ⟨rl, hrl, hrlx, hrlp⟩ := hat ql hql; refine k9 ?_; clear k9 G9) | (obtain ⟨rl, hrl, hrlx, hrlp⟩ := hat ql hql)
          have hfl := hfp rl hrl
          rw [hrlp.trans hlp] at hfl
          have ebk : backP (done.map G.abs) (some c) = (if rl.free then some c else shownP (done.map G.abs)) := by
            unfold backP
            rw [Option.bind_some, hfl, ← hrlp.trans hlp]; rfl
          have N5 := News.addG (l := rl.cells w) N4 (fun e he => .tail _ (.tail _ (.tail _ (hmem rl hrl e he))))
          dsimp only [G.cells, G.dict, List.cons_append, List.nil_append] at N5
          rw [hrlx.trans hlx] at N5
          cases hfr : rl.free with
          | true =>
            rw [hfr] at N5
            rw [hfr, if_pos rfl] at ebk
            k_steps
            exact hQ' false _ _ (.inr ⟨rfl, rl, hrl, by rw [hrlx, hlx, hl], by rw [ebk, hrlp, hlp]⟩) (by rw [hl]; exact F2) N3
          | false =>
            rw [hfr] at N5
            rw [hfr, if_neg (by decide)] at ebk
            k_steps
            exact hQ' true _ _ (.inl ⟨rfl, ebk⟩) (by rw [hl]; exact F2) N3
      · intro x h3 tk3 hx F3 N5
        clear N3 F2 N4
        dsimp only [PG.hdr, PG.dict, List.cons_append, List.nil_append] at N5
        have back : ∀ (q : G) h' tk' t, q ∈ done → backP (done.map G.abs) lastP = some q.place → Fr h₀ L h' m → News h₀ L h' (({ g with ax := q.x } : PG).hdr w ++ R4) → Q (.str (Str.ofString "back") t) { s with heap := h', toks := tk' } := fun q h' tk' t hq eb F' N' =>
          fin (Str.ofString "back", q.place) _ _ q.x t (by rw [eo, eb]) ⟨q, hq, rfl, rfl⟩ F' N'
        rcases hx with ⟨ex, ebk⟩ | ⟨ex, rl, hrl, hll, ebk⟩
        · subst ex
          k_steps
          unfold Halt
          rename Fr _ _ _ _ => lF
          rename News _ _ _ _ => lN
          refine LCt.CompSrcT.ledger (its := (g.known.map xref).toArray) (k := g.kn) (by rfl) lF lN (.tail _ (.tail _ (.head _))) (by simp only [List.size_toArray, List.length_map]; rw [sizeLine_eq]; exact Nat.le_trans hl3 (by decide)) ?_
          intro g1
          rw [← hxr, show (List.map xref done).toArray.size = done.length by simp]
          refine compRestT_of (fun i ys nw => nw = _ ∧ ys = shownV (done.take i)) ?_ ?_ ⟨rfl, rfl⟩
          · intro i v ys nw I oI C oC D m₂ h tk E' hi hv hnw hC hx F1 N1 off ne
            first | ((with_reducible refine hideW ?_); intro G9 k9; obtain ⟨e1, e2⟩ := hnw; refine k9 ?_; clear k9 G9) | (obtain ⟨e1, e2⟩ := hnw)
            subst e1
            subst e2
            first | ((with_reducible refine hideW ?_); intro G9 k9; obtain ⟨q, hq, ev⟩ := item_xref (by simpa using hv); refine k9 ?_; clear k9 G9) | (obtain ⟨q, hq, ev⟩ := item_xref (by simpa using hv))
            subst ev
            have hqm := List.mem_of_getElem? hq
            have N6 := News.addG (l := q.cells w) N1 (fun e he => .tail _ (.tail _ (.tail _ (.tail _ (.tail _ (.tail _ (hmem q hqm e he)))))))
            clear lN lF
            have hsn := shownV_snoc hq
            dsimp only [G.cells, G.dict, List.cons_append, List.nil_append, xref] at N6 F1 hx
            k_steps
            unfold Halt
            rename News _ _ _ _ => Nf
            rename Fr _ _ _ _ => Ff
            k_dflt (refine ConK.use (c_is_proven w q _).toKS (by k_asm) Ff (by k_asm) Nf (by k_asm) rfl (by ktr_room) (by ktr_units) ?_)
            intro h4 tk4 F4 N7
            clear Nf Ff N1
            k_steps
            all_goals
              unfold Halt
              rename Fr _ _ _ _ => Ff
              rename News _ _ _ _ => Nf
              refine LCg.CompEnd.intro Ff Nf _ (by walk_at "m tails") off (.inr ⟨_, .tail _ (.tail _ (.head _)), rfl, _, rfl⟩) ⟨rfl, ?_⟩
            · rw [hsn, if_pos ‹(q.st == PS.proven) = true›]; rfl
            · rw [hsn, if_neg (by rw [‹(q.st == PS.proven) = false›]; decide), List.append_nil]
          · intro ys nw hnw
            first | ((with_reducible refine hideW ?_); intro G9 k9; obtain ⟨e1, e2⟩ := hnw; refine k9 ?_; clear k9 G9) | (obtain ⟨e1, e2⟩ := hnw)
            subst e1
            subst e2
            intro D h tk F1 N1 off
            rw [List.take_length] at N1
            have hlen2 : (shownV done).length ≤ done.length := by
              unfold shownV; rw [List.length_map]; exact List.length_filter_le _ _
            clear lN lF
            have hz : (shownV done).length ≤ 100000 := by omega
            have off2 := off1_mem off
            clear off
            have hndD := ndO9 off2 hnd9 rfl
            clear off2
            cases hg : (shownV done).getLast? with
            | none =>
              have e0 : shownV done = [] := List.getLast?_eq_none_iff.mp hg
              rw [e0] at N1
              have eb := shownV_nil e0
              k_steps
              with_reducible rename News h₀ _ _ _ => Nf
              rw [hxr] at Nf
              exact fin (Str.ofString "lost", b) _ _ g.ax _ (by rw [eo, ebk, eb]) ⟨ra, hra, hrx, hrp⟩ (by k_asm) (cb_drop Nf (by walk_at "m tails"))
            | some v =>
              first | ((with_reducible refine hideW ?_); intro G9 k9; obtain ⟨q, hqm, ev, eb⟩ := shownV_last hg; refine k9 ?_; clear k9 G9) | (obtain ⟨q, hqm, ev, eb⟩ := shownV_last hg)
              subst ev
              have hpos : 0 < (shownV done).length := List.length_pos_iff.mpr (by intro e; rw [e] at hg; cases hg)
              dsimp only [xref] at hg
              k_steps
              with_reducible rename News h₀ _ _ _ => Nf
              rw [hxr] at Nf
              exact back q _ _ _ hqm (ebk.trans eb) (by k_asm) (cb_drop Nf (by walk_at "m tails"))
        · subst ex
          rw [hll] at F3
          dsimp only [lastV] at F3
          k_steps
          with_reducible rename News h₀ _ _ _ => Nf
          exact back rl _ _ _ hrl ebk (by k_asm) (cb_drop Nf (by walk_at "m tails"))

end
theorem back_P9 {M : Model} {A : Around} {E : Value → Shared → Prop} {s : Shared} {Q : Unit → Shared → Prop} (h : wpAny M A (PySem.setItem .none .none .none) Q E s) : wpAny M A (PySem.setItem .none .none .none) Q E s := by first | (walk1; fail) | exact h
section
-- P4
theorem off_P4 : True := by w_top off; trivial
local macro_rules | `(tactic| walk_at "exec If") => `(tactic| ((with_reducible show wpAny _ _ (exec (Stmt.If (Expr.Call (Expr.Attribute _ (Str.ofString "is_proven") _) _ _ _) _ _ _) _) _ _ _); refine halt ?_))
theorem ConK.atP {w : World} {f : Addr} {dd : Nat} {news : Led} {a a' : Addr} {r : List Value} {K : (Value → Led → Prop) → Prop} (h : ConK w f dd news (.ref a :: r) K) (ea : a = a') : ConK w f dd news (.ref a' :: r) K := by subst ea; exact h
theorem c_renewK (w : World) (g : G) (rest : Led) (hsep : Sep (g.cells w ++ rest)) : ConK w 118 1 (g.cells w ++ rest) [.ref g.x] (fun R => ∀ g' : G, g'.abs = g.abs.renew → g'.x = g.x → Sep (g'.cells w ++ rest) → R .none (g'.cells w ++ rest)) :=
  (c_renew w g rest hsep).toK (by rintro R k v n ⟨g', e1, e2, a, b, _, c⟩; rw [e1, e2]; exact k g' a b c)
theorem c_path_ofS (w : World) (g : PG) (rest : Led) (hk3 : ∀ q ∈ g.known, q.place < 3) (a : Nat) (ha : a < 3) (at_ : Tok) (q : G) (hf : g.known.find? (fun q => q.place == a) = some q) :
    ConK w 146 1 (g.hdr w ++ (flat w g.known ++ rest)) [.ref g.p, .str (placeStr a) at_] (KS (.ref q.x) (g.hdr w ++ (flat w g.known ++ rest))) :=
  (c_path_of w g rest hk3 a ha at_).toK (by rintro R k v n ⟨e1, e2⟩; rw [hf] at e1; rw [e1, e2]; exact k)
theorem c_on_packet (w : World) (g : PG) (rest : List (Addr × Obj)) (hsep : Sep (g.hdr w ++ (flat w g.known ++ rest))) (hk3 : ∀ q ∈ g.known, q.place < 3) (hnd : PlacesNd (g.known.map G.abs)) (a b : Nat) (qa qb : G) (hqa : qa ∈ g.known) (hqb : qb ∈ g.known) (hpa : qa.place = a) (hpb : qb.place = b) (hax : qb.x = g.ax) (at_ : Tok) (num : Int) (nt : Tok) (hnum : g.high < num) :
    Con w 167 3 (g.hdr w ++ (flat w g.known ++ rest)) [.ref g.p, .str (placeStr a) at_, .int num nt, .bool false]
      (fun v news' => ∃ (gs : List G) (hit' : Tok) (ax' : Addr) (last' : Option Addr), v = .bool (decide (a ≠ b)) ∧ news' = ({ g with known := gs, high := num, hit := hit', ax := ax', last := last' } : PG).hdr w ++ (flat w gs ++ rest) ∧ gs.map G.abs = (if a = b then g.known.map G.abs else renewK (g.known.map G.abs) a) ∧ (∀ q ∈ g.known, PG.at gs q.x q.place) ∧ PG.at gs ax' a ∧ last' = (if a ≠ b ∧ qb.st = .proven then some g.ax else g.last) ∧ Sep (({ g with known := gs, high := num, hit := hit', ax := ax', last := last' } : PG).hdr w ++ (flat w gs ++ rest))) := by
  unfold Con; k_fill; intro mean mg mb dep un gd cn cs fa ccd cl outer A₀ base h₀ L m s Q E B F X N T hk hdep hun hret
  have ha : a < 3 := hpa ▸ hk3 qa hqa
  have hsep0 := hsep
  obtain ⟨R, hR⟩ : ∃ R, R = flat w g.known ++ rest := ⟨_, rfl⟩
  rw [← hR] at N hsep
  have hnd0 := ndOf hsep
  dsimp only [PG.hdr, List.cons_append, List.nil_append, List.map] at hnd0
  dsimp only [PG.hdr, PG.dict, List.cons_append, List.nil_append] at N
  refine wpAny_call ?_; k_dflt ktr_enter
  k_steps
  unfold Halt
  rename News _ _ _ _ => Nf
  rename Fr _ _ _ _ => Ff
  have hnum' : num > g.high := hnum
  rw [if_pos hnum', if_pos hnum', hR] at Nf
  have hf := find_place hnd hqa
  rw [hpa] at hf
  k_dflt (refine ConK.use (c_path_ofS w { g with high := num, hit := nt } rest hk3 a ha _ qa hf) (by k_asm) Ff (by k_asm) Nf (by k_asm) rfl (by ktr_room) (by ktr_units) ?_)
  intro h1 tk1 F1 N1
  clear Nf Ff
  rw [← hR] at N1
  by_cases hab : a = b
  · have hq : qa = qb := place_inj hnd hqa hqb (by rw [hpa, hpb, hab])
    have N2 := News.addG (l := qa.cells w) N1 (fun e he => List.mem_append_right _ (by rw [hR]; exact List.mem_append_left _ (List.mem_flatMap.mpr ⟨qa, hqa, he⟩)))
    have hxa : g.ax = qa.x := by rw [hq, hax]
    dsimp only [PG.hdr, PG.dict, G.cells, G.dict, List.cons_append, List.nil_append] at N2
    rw [hxa] at N2
    k_steps
    · with_reducible rename News h₀ _ _ _ => Nf
      refine hret _ _ _ _ ⟨g.known, nt, qa.x, g.last, by rw [decide_eq_false (not_not_intro hab)], rfl, by rw [if_pos hab], fun q hq => ⟨q, hq, rfl, rfl⟩, ⟨qa, hqa, rfl, hpa⟩, by rw [if_neg (fun h => h.1 hab)], hsep0.congr rfl⟩ (by k_asm) ?_
      rw [← hR]
      exact cb_drop Nf (fun e he => .tail _ (.tail _ (.tail _ he)))
    · exact absurd ‹(placeStr _ == placeStr _) = false› (by simp)
  · have hq : qa ≠ qb := fun e => hab (by rw [← hpa, ← hpb, e])
    have hb3 : qb.place < 3 := hk3 qb hqb
    first | ((with_reducible refine hideW ?_); intro G9 k9; obtain ⟨pre, post, hkn⟩ := mem_mid hqa; refine k9 ?_; clear k9 G9) | (obtain ⟨pre, post, hkn⟩ := mem_mid hqa)
    have hqb' : qb ∈ pre ∨ qb ∈ post := by
      rcases List.mem_append.mp (hkn ▸ hqb) with h | h
      · exact .inl h
      · rcases List.mem_cons.mp h with h | h
        · exact absurd h.symm hq
        · exact .inr h
    have hfl : R = (flat w pre ++ (qa.cells w ++ flat w post)) ++ rest := by rw [hR, hkn, flat_append, flat_cons]
    rw [hfl] at N1 hsep
    have N3 := cb_drop N1 (sub_r2 (h := ({ g with high := num, hit := nt } : PG).hdr w))
    have S3 := sep_r2 (h := g.hdr w) hsep
    obtain ⟨R3, hR3⟩ : ∃ R3, R3 = flat w pre ++ (flat w post ++ rest) := ⟨_, rfl⟩
    rw [← hR3] at N3 S3
    have hsb : ∀ e ∈ qb.cells w, e ∈ R3 := fun e he => by
      rw [hR3]
      rcases hqb' with h | h
      · exact List.mem_append_left _ (List.mem_flatMap.mpr ⟨qb, h, he⟩)
      · exact List.mem_append_right _ (List.mem_append_left _ (List.mem_flatMap.mpr ⟨qb, h, he⟩))
    clear N1 hfl
    repeat (with_reducible rename List.Nodup _ => hnd9; clear hnd9)
    have hnd9 := ndOf S3
    dsimp only [G.cells, PG.hdr, List.cons_append, List.nil_append, List.map] at hnd9
    have N4 := News.addG (l := qb.cells w) N3 (fun e he => List.mem_append_right _ (List.mem_append_right _ (hsb e he)))
    dsimp only [PG.hdr, PG.dict, G.cells, G.dict, List.cons_append, List.nil_append] at N4
    rw [hax] at N4
    k_steps
    · exact absurd ‹(placeStr _ == placeStr _) = true› (by rw [placeStr_beq (hpa ▸ ha) hb3, hpa, hpb]; simpa using hab)
    unfold Halt
    rename News _ _ _ _ => Nf
    rename Fr _ _ _ _ => Ff
    refine cutF Nf Ff (fun l : Option Addr => l = (if qb.st = .proven then some g.ax else g.last)) (fun l => qa.cells w ++ (({ g with high := num, hit := nt, last := l } : PG).hdr w ++ R3)) ?_ ?_
    · clear hret
      intro Q' hQ'
      refine wpAny_If ?_
      k_steps
      unfold Halt
      rename News _ _ _ _ => Nf
      rename Fr _ _ _ _ => Ff
      have N5 := cb_drop Nf (show ∀ e ∈ qb.cells w ++ (qa.cells w ++ (({ g with high := num, hit := nt } : PG).hdr w ++ R3)), e ∈ _ from fun e he => by rw [G.cells, hax] at he; exact he)
      k_dflt (refine ConK.use ((c_is_proven w qb _).toKS.atP hax) (by k_asm) Ff (by k_asm) N5 (by k_asm) rfl (by ktr_room) (by ktr_units) ?_)
      intro h4 tk4 F4 N6
      have N7 := cb_drop N6 (fun e he => List.mem_append_right _ he)
      clear Nf Ff N5 N6
      have N8 := N7
      dsimp only [PG.hdr, PG.dict, G.cells, G.dict, List.cons_append, List.nil_append] at N8
      k_steps
      · rename News _ _ _ _ => Nf
        exact hQ' (some g.ax) _ _ (by rw [if_pos (by simpa using ‹(qb.st == PS.proven) = true›)]) (by k_asm) Nf
      · exact hQ' g.last _ _ (by rw [if_neg (fun h => by have h9 := ‹(qb.st == PS.proven) = false›; rw [h] at h9; cases h9)]) (by k_asm) N7
    intro l h4 tk4 el F4 N6
    clear Nf Ff
    have N7 := N6
    dsimp only [PG.hdr, PG.dict, G.cells, G.dict, List.cons_append, List.nil_append] at N7
    k_steps
    unfold Halt
    k_dflt (refine ConK.use (c_renewK w qa (({ g with high := num, hit := nt, last := l } : PG).hdr w ++ R3) (S3.congr rfl)) (by k_asm) F4 (by k_asm) N6 (by k_asm) rfl (by ktr_room) (by ktr_units) ?_)
    intro g2 habs2 hx2 sp6 h5 tk5 F5 N8
    clear F4 N6 N7
    repeat (with_reducible rename List.Nodup _ => hnd9; clear hnd9)
    have hnd9 := ndOf sp6
    dsimp only [G.cells, PG.hdr, List.cons_append, List.nil_append, List.map] at hnd9
    dsimp only [PG.hdr, PG.dict, G.cells, G.dict, List.cons_append, List.nil_append] at N8
    k_steps
    with_reducible rename News h₀ _ _ _ => Nf
    have hpl : g2.place = qa.place := place_of_abs habs2 (renew_place _)
    have eh : ({ g with known := pre ++ g2 :: post, high := num, hit := nt, ax := qa.x, last := l } : PG).hdr w = ({ g with high := num, hit := nt, ax := qa.x, last := l } : PG).hdr w := by simp only [PG.hdr, hkn, map_xref_mid hx2]
    rw [hR3] at Nf sp6
    refine hret _ _ _ _ ⟨pre ++ g2 :: post, nt, qa.x, l, by rw [decide_eq_true hab], rfl, ?_, fun q hq => at_mid hx2 hpl (hkn ▸ ⟨q, hq, rfl, rfl⟩), ⟨g2, List.mem_append_right _ (.head _), hx2, hpl.trans hpa⟩, ?_, ?_⟩ (by k_asm) ?_
    · rw [if_neg hab, hkn]; exact renewK_mid (hkn ▸ hnd) hpa habs2
    · rw [el]
      by_cases hp : qb.st = .proven
      · rw [if_pos hp, if_pos ⟨hab, hp⟩]
      · rw [if_neg hp, if_neg (fun h => hp h.2)]
    · rw [eh, flat_append, flat_cons]
      exact (sep_r2' (h := ({ g with high := num, hit := nt, last := l } : PG).hdr w) sp6).congr rfl
    · rw [eh, flat_append, flat_cons]
      exact cb_drop Nf (fun z hz => sub_r2' (c := g2.cells w) (h := ({ g with high := num, hit := nt, ax := qa.x, last := l } : PG).hdr w) z hz)

end
theorem back_P4 {M : Model} {A : Around} {E : Value → Shared → Prop} {s : Shared} {Q : Unit → Shared → Prop} (h : wpAny M A (PySem.setItem .none .none .none) Q E s) : wpAny M A (PySem.setItem .none .none .none) Q E s := by first | (walk1; fail) | exact h
section
-- N8
theorem off_N8 : True := by w_top off; trivial
theorem moves_front {h₀ h : Heap} {L : Addr} {w : World} {g : NG} {pg : PG} {T0 : Led} (N : News h₀ L h (W0 w g pg T0)) (S : Sep (W0 w g pg T0)) :
    ∃ Z, Z = catB ([1, 3, 4, 5, 6, 7, 8, 9, 10, 11, 12].map (nthB (headB 12 (g.cells ++ T0) [T0]))) ∧ News h₀ L h ((g.nd, g.nob) :: (g.fl, il g.failed g.fn) :: (pg.hdr w ++ (flat w pg.known ++ Z))) ∧ Sep ((g.nd, g.nob) :: (g.fl, il g.failed g.fn) :: (pg.hdr w ++ (flat w pg.known ++ Z))) :=
  ⟨_, rfl, News.selY N 12 [pg.hdr w, flat w pg.known, T0] [0, 2, 12, 13, 1, 3, 4, 5, 6, 7, 8, 9, 10, 11, 14] rfl, S.selY 12 [pg.hdr w, flat w pg.known, T0] [0, 2, 12, 13, 1, 3, 4, 5, 6, 7, 8, 9, 10, 11, 14] rfl rfl⟩
theorem c_on_datagramK (w : World) (g : PG) (rest : Led) (hsep : Sep (g.hdr w ++ (flat w g.known ++ rest))) (hk3 : ∀ q ∈ g.known, q.place < 3) (hl : g.known.length ≤ 3) (a : Nat) (ha : a < 3) (hnd : PlacesNd (openK (g.known.map G.abs) a)) (at_ : Tok) (size : Int) (szt : Tok) :
    ConK w 160 3 (g.hdr w ++ (flat w g.known ++ rest)) [.ref g.p, .str (placeStr a) at_, .int size szt] (fun R => ∀ (gs : List G) (kn' : Nat) (x : Addr), gs.map G.abs = recvK (openK (g.known.map G.abs) a) a size → (∀ q ∈ g.known, PG.at gs q.x q.place) → PG.at gs x a → Sep (({ g with known := gs, kn := kn' } : PG).hdr w ++ (flat w gs ++ rest)) → R (.ref x) (({ g with known := gs, kn := kn' } : PG).hdr w ++ (flat w gs ++ rest))) :=
  (c_on_datagram w g rest hsep hk3 hl a ha hnd at_ size szt).toK (by rintro R k v n ⟨gs, kn', x, e1, e2, h1, h2, h3, h4⟩; rw [e1, e2]; exact k gs kn' x h1 h2 h3 h4)
theorem c_on_packetK (w : World) (g : PG) (rest : Led) (hsep : Sep (g.hdr w ++ (flat w g.known ++ rest))) (hk3 : ∀ q ∈ g.known, q.place < 3) (hnd : PlacesNd (g.known.map G.abs)) (a b : Nat) (qa qb : G) (hqa : qa ∈ g.known) (hqb : qb ∈ g.known) (hpa : qa.place = a) (hpb : qb.place = b) (hax : qb.x = g.ax) (at_ : Tok) (num : Int) (nt : Tok) (hnum : g.high < num) :
    ConK w 167 3 (g.hdr w ++ (flat w g.known ++ rest)) [.ref g.p, .str (placeStr a) at_, .int num nt, .bool false]
      (fun R => ∀ (gs : List G) (hit' : Tok) (ax' : Addr) (last' : Option Addr), gs.map G.abs = (if a = b then g.known.map G.abs else renewK (g.known.map G.abs) a) → (∀ q ∈ g.known, PG.at gs q.x q.place) → PG.at gs ax' a → last' = (if a ≠ b ∧ qb.st = .proven then some g.ax else g.last) →
        Sep (({ g with known := gs, high := num, hit := hit', ax := ax', last := last' } : PG).hdr w ++ (flat w gs ++ rest)) → R (.bool (decide (a ≠ b))) (({ g with known := gs, high := num, hit := hit', ax := ax', last := last' } : PG).hdr w ++ (flat w gs ++ rest))) :=
  (c_on_packet w g rest hsep hk3 hnd a b qa qb hqa hqb hpa hpb hax at_ num nt hnum).toK (by rintro R k v n ⟨gs, hit', ax', last', e1, e2, h1, h2, h3, h4, h5⟩; rw [e1, e2]; exact k gs hit' ax' last' h1 h2 h3 h4 h5)
theorem c_placesM (w : World) (news0 : Led) : ConK w 247 0 news0 [] (fun R => ∀ (l : Addr) (x0 x1 x2 : Tok), (∀ q ∈ news0, q.1 < l) → R (.ref l) ((l, listOf [.str (placeStr 0) x0, .str (placeStr 1) x1, .str (placeStr 2) x2].toArray 0) :: news0)) :=
  (c_places w news0).toK (by rintro R k v n ⟨l, x0, x1, x2, e1, e2, h⟩; rw [e1, e2]; exact k l x0 x1 x2 h)
theorem ndO {D : Addr} {news : Led} {as : List Addr} (h : ∀ q ∈ news, q.1 ≠ D) (n : as.Nodup) (e : news.map (·.1) = as) : (D :: as).Nodup := by
  subst e
  refine List.nodup_cons.mpr ⟨fun hm => ?_, n⟩
  first | ((with_reducible refine hideW ?_); intro G9 k9; obtain ⟨p, hp, e⟩ := List.mem_map.mp hm; refine k9 ?_; clear k9 G9) | (obtain ⟨p, hp, e⟩ := List.mem_map.mp hm)
  exact h p hp e
local macro_rules | `(tactic| walk_at "exec If") => `(tactic| refine halt ?_)
theorem c_moves (w : World) (g : NG) (pg : PG) (S : LS) (st : St w g pg S) (T0 : List (Addr × Obj)) (hsep : Sep (W0 w g pg T0)) (hgd : S.Good) (a : Nat) (ha : a < 3) (pt : Tok) (hact : S.n.active = S.act) (hnum : S.high < S.n.number + 1) :
    Con w 304 4 (W0 w g pg T0) [.ref g.nd, .ref pg.p, .int (a : Int) pt] (PostW w g pg T0 (S.moves a)) := by
  unfold Con; k_fill; intro mean mg mb dep un gd cn cs fa ccd cl outer A₀ base h₀ L m s Q E B F X N T hk hdep hun hret
  have fc := facts_of st hgd
  have sm := sm_of st.nabs hgd.sm
  have ea : g.active = S.act := (congrArg LN.active st.nabs).trans hact
  have en : g.number = S.n.number := congrArg LN.number st.nabs
  have hnum' : pg.high < g.number + 1 := by rw [st.high, en]; exact hnum
  have hnet := st.ok.net
  have hfl := sm.failed
  clear sm
  first | ((with_reducible refine hideW ?_); intro G9 k9; obtain ⟨Z, hZ, N1, S1⟩ := moves_front N hsep; refine k9 ?_; clear k9 G9) | (obtain ⟨Z, hZ, N1, S1⟩ := moves_front N hsep)
  clear N
  dsimp only [PG.hdr, PG.dict, List.cons_append, List.nil_append] at N1
  refine wpAny_call ?_; k_dflt ((refine' code_defC ?k1 ?k2 ?k3 ?k4 ?k5 ?kA ?kF ?kK ?k6 ?k7 ?k8 ?k9 ?kB ?kD ?_ ?c2 ?c3 ?c4; (case kA => exact rfl); (case kF => exact rfl); (case kK => assumption); (case k1 => k_asm); (case k2 => k_asm); (case k3 => k_asm); (case k4 => k_asm); (case k5 => k_asm); (case k6 => k_is); (case k7 => k_is); (case k8 => ktr_room); (case k9 => exact BindsTo.of_eq rfl); (case kB => exact rfl); (case kD => decide +kernel); (case c2 => exact rfl); (case c3 => exact rfl); (case c4 => exact rfl); k_whole; intro g9 L9 h9 tk9 cells9 FG9 F9 N9 Y9 B9 X9 T9 l9; have l8 := l9; (try k_lt l9); have hY9 := PyProof.Rows.CellsAre.one Y9; obtain ⟨oc1, hE9, dc1⟩ := hY9; subst hE9; clear Y9; (try simp only [List.cons_append, List.nil_append] at N9); (try dsimp only); (try k_fold)))
  repeat (with_reducible rename List.Nodup _ => hnd9; clear hnd9)
  have SC := sep_cells1 S1 l8 oc1
  have hnd := ndOf SC
  dsimp only [PG.hdr, List.cons_append, List.nil_append, List.map] at hnd
  k_steps
  unfold Halt
  rename News _ _ _ _ => Nf
  rename Fr _ _ _ _ => Ff
  with_reducible rename Obj => nob2
  k_dflt (refine ConK.use (c_placesM w _) (by k_asm) Ff (by k_asm) Nf (by k_asm) rfl (by ktr_room) (by ktr_units) ?_)
  intro lp x0 x1 x2 hlt h2 tk2 F2 N2
  clear Nf Ff hlt
  have hit1 := item_place a ha x0 x1 x2
  k_steps
  unfold Halt
  rename News _ _ _ _ => Nf
  rename Fr _ _ _ _ => Ff
  have hnd1 : PlacesNd (openK (pg.known.map G.abs) a) := openK_nd fc.nd
  have SD := (Sep.pre (A := [(L9 + 1, oc1), (g.nd, g.nob), (g.fl, il g.failed g.fn)]) (A' := [(L9 + 1, oc1), (g.nd, nob2), (g.fl, il g.failed g.fn)]) SC rfl).selY 6 [flat w pg.known, Z] [3, 4, 5, 6, 0, 1, 2, 7] rfl rfl
  k_dflt (refine ConK.use (c_on_datagramK w pg ((L9 + 1, oc1) :: (g.nd, nob2) :: (g.fl, il g.failed g.fn) :: Z) SD fc.k3 fc.len a ha hnd1 _ 100 _) (by k_asm) Ff (by k_asm) (News.selY Nf 7 [flat w pg.known, Z] [4, 5, 6, 7, 1, 2, 3, 8] rfl) (by k_asm) rfl (by ktr_room) (by ktr_units) ?_)
  intro gs kn' x9 hgs hat hxa S2 h3 tk3 F3 N3
  clear Nf Ff SC SD
  have N4 := News.selY N3 3 [flat w gs, [(L9 + 1, oc1)], [(g.nd, nob2)], [(g.fl, il g.failed g.fn)], Z] [4, 5, 6, 0, 1, 2, 3, 7] rfl
  clear N3
  repeat (with_reducible rename List.Nodup _ => hnd9; clear hnd9)
  k_steps
  unfold Halt
  rename News _ _ _ _ => Nf
  rename Fr _ _ _ _ => Ff
  k_dflt (refine ConK.use (c_placesM w _) (by k_asm) Ff (by k_asm) Nf (by k_asm) rfl (by ktr_room) (by ktr_units) ?_)
  intro lp2 y0 y1 y2 hlt2 h4 tk4 F4 N5
  clear Nf Ff hlt2
  have hit2 := item_place a ha y0 y1 y2
  k_steps
  unfold Halt
  rename News _ _ _ _ => Nf
  rename Fr _ _ _ _ => Ff
  have hpl2 : gs.map (·.place) = (openK (pg.known.map G.abs) a).map (·.place) := by
    have h9 := congrArg (List.map (·.place)) hgs
    rw [recvK_places, List.map_map] at h9
    exact h9
  have hnd2 : PlacesNd (gs.map G.abs) := by
    rw [hgs]; unfold PlacesNd; rw [recvK_places]; exact hnd1
  have hk32 : ∀ q ∈ gs, q.place < 3 := fun q hq => by
    have h9 : q.place ∈ (openK (pg.known.map G.abs) a).map (·.place) := hpl2 ▸ List.mem_map_of_mem hq
    first | ((with_reducible refine hideW ?_); intro G9 k9; obtain ⟨p9, hp9, e9⟩ := List.mem_map.mp h9; refine k9 ?_; clear k9 G9) | (obtain ⟨p9, hp9, e9⟩ := List.mem_map.mp h9)
    rw [← e9]
    exact openK_lt ha (fun p hp => by obtain ⟨q0, hq0, rfl⟩ := List.mem_map.mp hp; exact fc.k3 q0 hq0) p9 hp9
  first | ((with_reducible refine hideW ?_); intro G9 k9; obtain ⟨qa, hqa, hqax, hqap⟩ := hxa; refine k9 ?_; clear k9 G9) | (obtain ⟨qa, hqa, hqax, hqap⟩ := hxa)
  first | ((with_reducible refine hideW ?_); intro G9 k9; obtain ⟨qb, hqb, hqbx, hqbp⟩ := at_of st.pat hat; refine k9 ?_; clear k9 G9) | (obtain ⟨qb, hqb, hqbx, hqbp⟩ := at_of st.pat hat)
  k_dflt (refine ConK.use (c_on_packetK w { pg with known := gs, kn := kn' } ((L9 + 1, oc1) :: (g.nd, nob2) :: (g.fl, il g.failed g.fn) :: Z) S2 hk32 hnd2 a S.act qa qb hqa hqb hqap hqbp hqbx _ (g.number + 1) _ hnum') (by k_asm) Ff (by k_asm) (News.selY Nf 7 [flat w gs, Z] [4, 5, 6, 7, 1, 2, 3, 8] rfl) (by k_asm) rfl (by ktr_room) (by ktr_units) ?_)
  intro gs2 hit' ax' last' hgs2 hat2 hxa2 hlast2 S3 h5 tk5 F5 N6
  clear Nf Ff
  obtain ⟨RR, hRR⟩ : ∃ RR, RR = ({ pg with known := gs2, kn := kn', high := g.number + 1, hit := hit', ax := ax', last := last' } : PG).hdr w ++ (flat w gs2 ++ Z) := ⟨_, rfl⟩
  have N7 : News g9 L9 h5 ((L9 + 1, oc1) :: (g.nd, nob2) :: (g.fl, il g.failed g.fn) :: RR) := by rw [hRR]; exact News.selY N6 3 [flat w gs2, [(L9 + 1, oc1)], [(g.nd, nob2)], [(g.fl, il g.failed g.fn)], Z] [4, 5, 6, 0, 1, 2, 3, 7] rfl
  have S4 : Sep ((L9 + 1, oc1) :: (g.nd, nob2) :: (g.fl, il g.failed g.fn) :: RR) := by rw [hRR]; exact S3.selY 3 [flat w gs2, [(L9 + 1, oc1)], [(g.nd, nob2)], [(g.fl, il g.failed g.fn)], Z] [4, 5, 6, 0, 1, 2, 3, 7] rfl rfl
  clear N6 S3 S2
  have hnd := ndOf S4
  dsimp only [List.map] at hnd
  have hfq : ((recvK (openK S.ps a) a 100).find? (·.place == S.act)).map (·.st) = some qb.st := by
    rw [← st.kabs, ← hgs, List.find?_map]
    have h9 := find_place hnd2 hqb
    rw [hqbp] at h9
    rw [show ((fun x : P => x.place == S.act) ∘ G.abs) = fun r : G => r.place == S.act from rfl, h9]; rfl
  have hk2 : gs2.map G.abs = (S.moves a).ps := by
    refine hgs2.trans ?_
    show (if a = S.act then gs.map G.abs else renewK (gs.map G.abs) a) = _
    rw [hgs, st.kabs]; rfl
  have hl2 : PG.lastOk gs2 last' (S.moves a).last := by
    dsimp only [LS.moves]
    rw [hlast2, hfq]
    by_cases hc : a ≠ S.act ∧ qb.st = .proven
    · rw [if_pos hc, if_pos ⟨hc.1, by rw [hc.2]⟩]
      exact at_of ⟨qb, hqb, hqbx, hqbp⟩ hat2
    · rw [if_neg hc, if_neg (fun h => hc ⟨h.1, by simpa using h.2⟩)]
      exact lastOk_of (lastOk_of st.lst hat) hat2
  have hhi : g.number + 1 = (S.moves a).high := by rw [en]; rfl
  by_cases hab : a = S.act
  · rw [decide_eq_false (fun h => h hab)]
    have hb9 : ((a : Int) != (g.active : Int)) = false := by rw [ea, hab]; simp
    k_steps
    unfold Halt
    refine wpAny_If ?_
    k_steps
    with_reducible rename News h₀ _ _ _ => Nf
    rename Obj => nob3
    obtain ⟨nt3, hn3⟩ : ∃ nt3, nob3.IsDictOf (strKind PR w) ({ g with nob := nob3, number := g.number + 1, nt := nt3, active := a, at_ := pt } : NG).kvs := ⟨_, by assumption⟩
    rw [hRR, hZ] at Nf
    have S5 := Sep.pre (A := [(L9 + 1, oc1), (g.nd, nob2), (g.fl, il g.failed g.fn)]) (A' := [(L9 + 1, oc1), (g.nd, nob3), (g.fl, il g.failed g.fn)]) S4 rfl
    rw [hRR, hZ] at S5
    rw [hb9]
    refine hret _ _ _ _ ⟨{ g with nob := nob3, number := g.number + 1, nt := nt3, active := a, at_ := pt }, { pg with known := gs2, kn := kn', high := g.number + 1, hit := hit', ax := ax', last := last' }, rfl, rfl, ⟨⟨hn3, st.ok.opn, st.ok.end_⟩, ?_, hk2, hxa2, hl2, hhi⟩, rfl, rfl, rfl, S5.selY 6 ([flat w gs2] ++ [1, 3, 4, 5, 6, 7, 8, 9, 10, 11, 12].map (nthB (headB 12 (g.cells ++ T0) [T0]))) [1, 7, 2, 8, 9, 10, 11, 12, 13, 14, 15, 16, 3, 4, 5, 6, 17] rfl rfl⟩ (by k_asm) (News.selY Nf 7 ([flat w gs2] ++ [1, 3, 4, 5, 6, 7, 8, 9, 10, 11, 12].map (nthB (headB 12 (g.cells ++ T0) [T0]))) [2, 8, 3, 9, 10, 11, 12, 13, 14, 15, 16, 17, 4, 5, 6, 7, 18] rfl)
    show _ = S.n.moved a
    rw [← st.nabs]
    unfold LN.moved
    rw [if_neg (fun h => h (hab.trans ea.symm))]; rfl
  · rw [decide_eq_true hab]
    have hb9 : ((a : Int) != (g.active : Int)) = true := bne_iff_ne.mpr (by omega)
    k_steps
    unfold Halt
    refine wpAny_If ?_
    k_steps
    unfold Halt
    rename Fr _ _ _ _ => lF
    rename News _ _ _ _ => lN
    refine LCt.CompSrcT.ledger (its := (g.failed.map ival).toArray) (k := g.fn) (by rfl) lF lN (by k_mem) (by simp only [List.size_toArray, List.length_map]; rw [sizeLine_eq]; omega) ?_
    intro g1
    refine compRestT_of (fun i ys nw => nw = _ ∧ ys = (keep (a : Int) (g.failed.take i)).map ival) ?_ ?_ ⟨rfl, rfl⟩
    · rintro i v ys nw I oI C oC D m₂ h tk E' hi hv ⟨rfl, rfl⟩ hC hx F1 N1 off ne
      clear lN lF
      obtain ⟨o9, ho9, rfl⟩ := item_ival (by simpa using hv)
      have hks := keep_snoc (a := (a : Int)) ho9
      k_steps
      all_goals
        unfold Halt
        rename Fr _ _ _ _ => Ff
        rename News _ _ _ _ => Nf
        refine LCg.CompEnd.intro Ff Nf _ (by walk_at "m sub") off (.inr ⟨_, by k_dflt k_mem, rfl, _, rfl⟩) ⟨rfl, ?_⟩
      · rw [hks, if_pos (by first | assumption | exact bne_iff_ne.mpr (by omega)), List.map_append]; rfl
      · rw [hks, if_neg (by first | exact Bool.eq_false_iff.mp (by assumption) | (rw [bne_iff_ne]; omega)), List.append_nil]
    · rintro ys nw ⟨rfl, rfl⟩
      intro D h tk F1 N1 off
      clear lN lF
      have hsz : (List.map ival g.failed).toArray.size = g.failed.length := by simp
      rw [hsz, List.take_length] at N1
      have hlen9 : (keep (a : Int) g.failed).length ≤ g.failed.length := List.length_filter_le _ _
      have off2 := off1_mem off
      clear off
      with_reducible rename List.Nodup _ => hnd8
      have hndD := ndO off2 hnd8 rfl
      clear hnd8 off2
      k_steps
      with_reducible rename News h₀ _ _ _ => Nf
      with_reducible rename List.Nodup _ => hnd8
      rename Obj => nob4
      have S5 := sep_nd Nf hnd8 rfl
      obtain ⟨nt3, hn3⟩ : ∃ nt3, nob4.IsDictOf (strKind PR w) ({ g with nob := nob4, fl := D, failed := keep (a : Int) g.failed, fn := ((keep (a : Int) g.failed).map ival).length, number := g.number + 1, nt := nt3, active := a, at_ := pt } : NG).kvs := ⟨_, by assumption⟩
      rw [hRR, hZ] at Nf S5
      rw [hb9]
      refine hret _ _ _ _ ⟨{ g with nob := nob4, fl := D, failed := keep (a : Int) g.failed, fn := ((keep (a : Int) g.failed).map ival).length, number := g.number + 1, nt := nt3, active := a, at_ := pt }, { pg with known := gs2, kn := kn', high := g.number + 1, hit := hit', ax := ax', last := last' }, rfl, rfl, ⟨⟨hn3, st.ok.opn, st.ok.end_⟩, ?_, hk2, hxa2, hl2, hhi⟩, rfl, rfl, rfl, S5.selY 8 ([flat w gs2] ++ [1, 3, 4, 5, 6, 7, 8, 9, 10, 11, 12].map (nthB (headB 12 (g.cells ++ T0) [T0]))) [3, 9, 0, 10, 11, 12, 13, 14, 15, 16, 17, 18, 5, 6, 7, 8, 19] rfl rfl⟩ (by k_asm) (News.selY Nf 8 ([flat w gs2] ++ [1, 3, 4, 5, 6, 7, 8, 9, 10, 11, 12].map (nthB (headB 12 (g.cells ++ T0) [T0]))) [3, 9, 0, 10, 11, 12, 13, 14, 15, 16, 17, 18, 5, 6, 7, 8, 19] rfl)
      show _ = S.n.moved a
      rw [← st.nabs]
      unfold LN.moved
      rw [if_pos (fun h => hab (h.trans ea))]
      simp only [NG.abs, keep_fsts]

end
theorem back_N8 {M : Model} {A : Around} {E : Value → Shared → Prop} {s : Shared} {Q : Unit → Shared → Prop} (h : wpAny M A (PySem.setItem .none .none .none) Q E s) : wpAny M A (PySem.setItem .none .none .none) Q E s := by first | (walk1; fail) | exact h
section
-- N6
theorem off_N6 : True := by w_top off; trivial
local macro_rules | `(tactic| walk_at "compareOp In bytes ref") => `(tactic| (k_here; k_dflt (refine' in_bytes ?k1 ?k2 ?_; (case k1 => k_asm); (case k2 => ((with_reducible rename (_ : Addr × Obj) ∈ _ => hm9); (repeat (with_reducible refine List.mem_cons_of_mem _ ?_)); exact List.mem_append_right _ hm9)); k_whole)))
theorem c_endedK (w : World) (g : NG) (ok : g.Ok w) (sm : g.Sm) (rest : Led) (hsep : Sep (g.cells ++ rest)) (a : Nat) (ha : a < 3) (t : Tok) :
    ConK w 273 1 (g.cells ++ rest) [.ref g.nd, .int (a : Int) t] (fun R => ∀ g' : NG, g'.Ok w → g'.abs = g.abs.ended a → g'.nd = g.nd → g'.forth = g.forth → Sep (g'.cells ++ rest) → R .none (g'.cells ++ rest)) :=
  (c_ended w g ok sm rest hsep a ha t).toK fun R k v n h => h.elim fun g' h => by rw [h.1, h.2.1]; exact k g' h.2.2.1 h.2.2.2.1 h.2.2.2.2.1 h.2.2.2.2.2.1 h.2.2.2.2.2.2
theorem c_take_responseS (w : World) (g : PG) (rest : Led) (hsep : Sep (g.hdr w ++ (flat w g.known ++ rest))) (hk3 : ∀ q ∈ g.known, q.place < 3) (hnd : PlacesNd (g.known.map G.abs)) (qb : G) (hqb : qb ∈ g.known) (hax : qb.x = g.ax) (b : Bts) (bt : Tok) (q : G) (hn : g.known.find? (G.has b) = some q) :
    ConK w 216 2 (g.hdr w ++ (flat w g.known ++ rest)) [.ref g.p, .bytes b bt] (fun R => ∀ (gs : List G) (last' : Option Addr), gs.map G.abs = atK P.prove (g.known.map G.abs) q.place → (∀ r ∈ g.known, PG.at gs r.x r.place) → last' = (if q.place = qb.place then some q.x else g.last) → Sep (({ g with known := gs, last := last' } : PG).hdr w ++ (flat w gs ++ rest)) →
      R (.ref q.x) (({ g with known := gs, last := last' } : PG).hdr w ++ (flat w gs ++ rest))) :=
  (c_take_response w g rest hsep hk3 hnd qb hqb hax b bt).toK fun R k v n h => by
    rw [hn] at h
    exact h.elim fun gs h => h.elim fun l h => by rw [h.1, h.2.1]; exact k gs l h.2.2.1 h.2.2.2.1 h.2.2.2.2.1 h.2.2.2.2.2
theorem ans_front {h₀ h : Heap} {L : Addr} {w : World} {g : NG} {pg : PG} {T0 : Led} (N : News h₀ L h (W0 w g pg T0)) (S : Sep (W0 w g pg T0)) :
    ∃ Z, Z = catB ([1, 2, 3, 6, 7, 8, 9, 10, 12].map (nthB (headB 12 (g.cells ++ T0) [T0]))) ∧ (∀ i < 3, (g.oAt i, bl (g.qAt i) (g.nAt i)) ∈ Z) ∧ News h₀ L h ((g.ba, bl g.back g.ban) :: (g.nd, g.nob) :: (g.od, g.oob) :: (g.pl, il g.proven g.pn) :: (pg.hdr w ++ (flat w pg.known ++ Z))) ∧ Sep ((g.ba, bl g.back g.ban) :: (g.nd, g.nob) :: (g.od, g.oob) :: (g.pl, il g.proven g.pn) :: (pg.hdr w ++ (flat w pg.known ++ Z))) :=
  ⟨_, rfl, fun i hi => by
    rcases places_lt hi with rfl | rfl | rfl
    · exact .tail _ (.tail _ (.tail _ (.head _)))
    · exact .tail _ (.tail _ (.tail _ (.tail _ (.head _))))
    · exact .tail _ (.tail _ (.tail _ (.tail _ (.tail _ (.head _))))), News.selY N 12 [pg.hdr w, flat w pg.known, T0] [11, 0, 5, 4, 12, 13, 1, 2, 3, 6, 7, 8, 9, 10, 14] rfl, S.selY 12 [pg.hdr w, flat w pg.known, T0] [11, 0, 5, 4, 12, 13, 1, 2, 3, 6, 7, 8, 9, 10, 14] rfl rfl⟩
theorem c_answer_comes (w : World) (g : NG) (pg : PG) (S : LS) (st : St w g pg S) (T0 : List (Addr × Obj)) (hsep : Sep (W0 w g pg T0)) (hgd : S.Good) (pick : Int) (pt : Tok) (hpos : 0 < S.n.back.length) (hhit : ∀ x, S.n.back[fateK pick S.n.back.length]? = some x → S.Hit x) :
    Con w 285 3 (W0 w g pg T0) [.ref g.nd, .ref pg.p, .int pick pt] (PostW w g pg T0 (S.answer pick)) := by
  unfold Con; k_fill; intro mean mg mb dep un gd cn cs fa ccd cl outer A₀ base h₀ L m s Q E B F X N T hk hdep hun hret
  have fc := facts_of st hgd
  have sm := sm_of st.nabs hgd.sm
  have eb : fsts g.back = S.n.back := congrArg LN.back st.nabs
  have ebl : g.back.length = S.n.back.length := by rw [← eb]; simp [fsts]
  have hpos' : 0 < g.back.length := ebl ▸ hpos
  have hnet := st.ok.net
  have hopn := st.ok.opn
  have hz9 : g.back.length ≤ 100000 := Nat.le_trans sm.back (by decide)
  have hz8 : g.proven.length ≤ 100000 := Nat.le_trans sm.proven (by decide)
  have hz7 : g.proven.length + 1 ≤ 1000 := Nat.le_trans (Nat.succ_le_succ (by have h9 := hgd.sm.proven; rw [← st.nabs] at h9; simpa [NG.abs, fsts] using h9)) (by decide : 500 + 1 ≤ 1000)
  first | ((with_reducible refine hideW ?_); intro G9 k9; obtain ⟨Z, hZ, hO, N1, S1⟩ := ans_front N hsep; refine k9 ?_; clear k9 G9) | (obtain ⟨Z, hZ, hO, N1, S1⟩ := ans_front N hsep)
  clear N
  dsimp only [PG.hdr, PG.dict, List.cons_append, List.nil_append] at N1
  refine wpAny_call ?_; k_dflt ((refine' code_defC ?k1 ?k2 ?k3 ?k4 ?k5 ?kA ?kF ?kK ?k6 ?k7 ?k8 ?k9 ?kB ?kD ?_ ?c2 ?c3 ?c4; (case kA => exact rfl); (case kF => exact rfl); (case kK => assumption); (case k1 => k_asm); (case k2 => k_asm); (case k3 => k_asm); (case k4 => k_asm); (case k5 => k_asm); (case k6 => k_is); (case k7 => k_is); (case k8 => ktr_room); (case k9 => exact BindsTo.of_eq rfl); (case kB => exact rfl); (case kD => decide +kernel); (case c2 => exact rfl); (case c3 => exact rfl); (case c4 => exact rfl); k_whole; intro g9 L9 h9 tk9 cells9 FG9 F9 N9 Y9 B9 X9 T9 l9; have l8 := l9; (try k_lt l9); have hY9 := PyProof.Rows.CellsAre.two Y9; obtain ⟨oc1, oc2, hE9, dc1, dc2⟩ := hY9; subst hE9; clear Y9; (try simp only [List.cons_append, List.nil_append] at N9); (try dsimp only); (try k_fold)))
  repeat (with_reducible rename List.Nodup _ => hnd9; clear hnd9)
  have SC := sep_cells2 S1 l8 oc1 oc2
  have hnd := ndOf SC
  dsimp only [PG.hdr, List.cons_append, List.nil_append, List.map] at hnd
  k_steps
  unfold Halt
  rename News _ _ _ _ => Nf
  rename Fr _ _ _ _ => Ff
  have SF : Sep ((g.ba, bl g.back g.ban) :: (L9 + 1 + 1, oc1) :: (L9 + 1, oc2) :: (g.nd, g.nob) :: (g.od, g.oob) :: (g.pl, il g.proven g.pn) :: (pg.hdr w ++ (flat w pg.known ++ Z))) := SC.selY 9 [flat w pg.known, Z] [2, 0, 1, 3, 4, 5, 6, 7, 8, 9, 10] rfl rfl
  k_dflt (refine ConK.use (c_fateK w g.ba (g.back.map bval) g.ban _ SF (by rw [List.length_map]; exact hz9) (by rw [List.length_map]; exact hpos') pick _) (by k_asm) Ff (by k_asm) (News.selY Nf 9 [flat w pg.known, Z] [2, 0, 1, 3, 4, 5, 6, 7, 8, 9, 10] rfl) (by k_asm) rfl (by ktr_room) (by ktr_units) ?_)
  intro x n' hx h1 tk1 F1 N1
  rw [List.length_map, List.getElem?_map, Option.map_eq_some_iff] at hx
  first | ((with_reducible refine hideW ?_); intro G9 k9; obtain ⟨f, hf, hfx⟩ := hx; refine k9 ?_; clear k9 G9) | (obtain ⟨f, hf, hfx⟩ := hx)
  rw [show (if pick.fmod 3 = 1 then g.back.map bval else (g.back.map bval).eraseIdx (fateK pick (g.back.map bval).length)) = (fateL pick g.back).map bval from fateL_map bval pick g.back] at N1
  replace SF := Sep.pre (A := [(g.ba, bl g.back g.ban)]) (A' := [(g.ba, bl (fateL pick g.back) n')]) SF rfl
  repeat (with_reducible rename List.Nodup _ => hnd9; clear hnd9)
  have hnd := ndOf SF
  dsimp only [PG.hdr, List.cons_append, List.nil_append, List.map] at hnd
  clear Nf Ff SC S1
  dsimp only [PG.hdr, PG.dict, List.cons_append, List.nil_append] at N1
  by_cases hp3 : pick.fmod 3 = 1 ∨ pick.fmod 3 = 0
  · rw [show (if pick.fmod 3 = 1 then x else if pick.fmod 3 = 0 then x else Value.none) = .bytes f.1 f.2 by
      rw [← hfx]
      rcases hp3 with h | h
      · rw [if_pos h]; rfl
      · rw [h]; rfl]
    k_steps
    unfold Halt
    rename Fr _ _ _ _ => lF
    rename News _ _ _ _ => lN
    rename IsRange _ _ _ _ _ _ _ _ => hrg
    refine LCt.CompSrcT.range (n := 3) (by rfl) lF lN hrg (by decide) (by decide) (by size_fits) ?_
    intro g1
    refine compRestT_of (fun i ys nw => nw = _ ∧ IntsAre ys ((due g.abs f.1 i).map (fun a : Nat => (a : Int)))) ?_ ?_ ⟨rfl, .nil⟩
    · intro i v ys nw I oI C oC D m₂ h tk E' hi hv hnw hC hx F1 N1 off ne
      first | ((with_reducible refine hideW ?_); intro G9 k9; obtain ⟨e1, hys⟩ := hnw; refine k9 ?_; clear k9 G9) | (obtain ⟨e1, hys⟩ := hnw)
      subst e1
      clear lN lF
      have hds := due_succ g.abs f.1 i
      rw [open_at g hi] at hds
      first | ((with_reducible refine hideW ?_); intro G9 k9; obtain ⟨t9, ev⟩ := hv; refine k9 ?_; clear k9 G9) | (obtain ⟨t9, ev⟩ := hv)
      subst ev
      rw [Int.zero_add] at hx
      have hva := val_o g hi
      have hm9 := hO i hi
      k_steps
      all_goals
        unfold Halt
        rename Fr _ _ _ _ => Ff
        rename News _ _ _ _ => Nf
        refine LCg.CompEnd.intro Ff Nf _ (by walk_at "m tails") off trivial ⟨rfl, ?_⟩
      · rw [hds, if_pos (by assumption), List.map_append]
        exact ints_snoc _ _ hys
      · rw [hds, if_neg (Bool.eq_false_iff.mp (by assumption)), List.append_nil]
        exact hys
    · intro ys nw hnw
      first | ((with_reducible refine hideW ?_); intro G9 k9; obtain ⟨e1, hys⟩ := hnw; refine k9 ?_; clear k9 G9) | (obtain ⟨e1, hys⟩ := hnw)
      subst e1
      intro D h tk F1 N1 off
      clear lN lF hrg
      have off2 := off1_mem off
      clear off
      with_reducible rename List.Nodup _ => hnd8
      have hndD := ndO off2 hnd8 rfl
      clear hnd8 off2
      k_steps
      unfold Halt
      rename News _ _ _ _ => Nf
      rename Fr _ _ _ _ => Ff
      rename List.Nodup _ => hnd9
      have SD := sep_nd Nf hnd9 rfl
      clear hnd9
      k_dflt (refine ConK.use (c_shapeK w pg (_ :: _ :: _ :: _ :: _ :: _ :: _ :: Z) (SD.selY 10 [flat w pg.known, Z] [7, 8, 9, 10, 0, 1, 2, 3, 4, 5, 6, 11] rfl rfl) fc.len fc.rcv fc.chal S.act st.pat) (by k_asm) Ff (by k_asm) (News.selY Nf 10 [flat w pg.known, Z] [7, 8, 9, 10, 0, 1, 2, 3, 4, 5, 6, 11] rfl) (by k_asm) rfl (by ktr_room) (by ktr_units) ?_)
      intro sh A hrows hpl hmin hA hsepA h2 tk2 F2 N2
      clear Nf Ff SD
      have N3 : News _ _ _ (_ :: _ :: _ :: _ :: _ :: _ :: _ :: _ :: _ :: _ :: (flat w pg.known ++ (A ++ Z))) := News.selY N2 3 [flat w pg.known, A, [_], [_], [_], [_], [_], [_], [_], Z] [5, 6, 7, 8, 9, 10, 11, 0, 1, 2, 3, 4, 12] rfl
      clear N2
      (try dsimp only [PG.dict] at N3)
      have hbk : S.n.back[fateK pick S.n.back.length]? = some f.1 := by rw [← eb]; simp only [fsts, List.length_map, List.getElem?_map, hf, Option.map_some]
      have hh := hhit f.1 hbk
      first | ((with_reducible refine hideW ?_); intro G9 k9; obtain ⟨qk, hqk, hqx, hqp⟩ := st.pat; refine k9 ?_; clear k9 G9) | (obtain ⟨qk, hqk, hqx, hqp⟩ := st.pat)
      rcases hh with ⟨h0, hno⟩ | ⟨d, q, hd, hq, hqd⟩
      · rw [← st.nabs] at h0
        rw [h0] at hys
        obtain rfl := ints_nil hys
        clear hys
        k_steps
        unfold Halt
        rename News _ _ _ _ => Nf
        rename Fr _ _ _ _ => Ff
        have hfn : pg.known.find? (G.has f.1) = none := List.find?_eq_none.mpr fun q hq => by
          have h9 := hno q.abs (st.kabs ▸ List.mem_map.mpr ⟨q, hq, rfl⟩)
          rw [has_abs, h9]; decide
        k_dflt (refine ConK.use (c_take_responseN w pg _ hsepA fc.k3 fc.nd qk hqk hqx f.1 _ hfn) (by k_asm) Ff (by k_asm) (News.selY Nf 11 [flat w pg.known, A, Z] [8, 9, 10, 11, 12, 1, 2, 3, 4, 5, 6, 7, 13] rfl) (by k_asm) rfl (by ktr_room) (by ktr_units) ?_)
        intro h3 tk3 F3 N5
        clear Nf Ff
        have N6 : News _ _ _ (_ :: _ :: _ :: _ :: _ :: _ :: _ :: _ :: _ :: _ :: (flat w pg.known ++ (A ++ Z))) := News.selY N5 3 [flat w pg.known, A, [_], [_], [_], [_], [_], [_], [_], Z] [5, 6, 7, 8, 9, 10, 11, 0, 1, 2, 3, 4, 12] rfl
        clear N5
        (try dsimp only [PG.dict] at N6)
        k_steps
        unfold Halt
        rename Fr _ _ _ _ => Ff
        rename News _ _ _ _ => Nf
        k_dflt (refine ConK.use (c_shapeK w pg _ hsepA fc.len fc.rcv fc.chal S.act ⟨qk, hqk, hqx, hqp⟩) (by k_asm) Ff (by k_asm) (News.selY Nf 11 [flat w pg.known, A, Z] [8, 9, 10, 11, 12, 1, 2, 3, 4, 5, 6, 7, 13] rfl) (by k_asm) rfl (by ktr_room) (by ktr_units) ?_)
        intro sh2 A2 hrows2 hpl2 hmin2 hA2 hsepA2 h4 tk4 F4 N7
        clear Nf Ff
        k_steps
        unfold Halt
        rename News _ _ _ _ => Nf
        k_dflt (refine m_eq_shape Nf (a := sh2) (b := sh) (fun e he => List.mem_append_right _ (List.mem_append_right _ (List.mem_append_left _ (hA2 e he)))) (fun e he => List.mem_append_right _ (List.mem_append_right _ (List.mem_append_right _ (List.mem_append_left _ (hA e he))))) (hrows2.trans hrows.symm) (hpl2.trans hpl.symm) hmin2 hmin (by ktr_units) ?_)
        k_steps
        with_reducible rename News h₀ _ _ _ => Nf
        rw [hZ] at Nf
        have ea : S.answer pick = { S with n := S.n.answered pick } := by
          rw [← st.nabs] at hbk
          simp only [LS.answer, if_pos hp3]
          rw [← st.nabs]
          simp only [hbk, h0]
        rw [ea] at hret
        refine hret _ _ _ _ ⟨{ g with back := fateL pick g.back, ban := n' }, pg, rfl, rfl, ⟨⟨hnet, hopn, st.ok.end_⟩, ?_, st.kabs, ⟨qk, hqk, hqx, hqp⟩, st.lst, st.high⟩, rfl, rfl, rfl, hsep.congr rfl⟩ (by k_asm) (News.selY Nf 3 ([flat w pg.known, A2, A, [_], [_], [_], [_], [_], [_], [_]] ++ [1, 2, 3, 6, 7, 8, 9, 10, 12].map (nthB (headB 12 (g.cells ++ T0) [T0]))) [10, 13, 14, 15, 12, 11, 16, 17, 18, 19, 20, 7, 0, 1, 2, 3, 21] rfl)
        show _ = S.n.answered pick
        rw [← st.nabs]
        simp only [LN.answered, NG.abs, fsts, fateL_map]
      · rw [← st.nabs] at hd
        rw [hd] at hys
        first | ((with_reducible refine hideW ?_); intro G9 k9; obtain ⟨t8, eys⟩ := ints_one hys; refine k9 ?_; clear k9 G9) | (obtain ⟨t8, eys⟩ := ints_one hys)
        subst eys
        clear hys
        have hd3 := due_lt hd
        rw [find_abs st.kabs, Option.map_eq_some_iff] at hq
        first | ((with_reducible refine hideW ?_); intro G9 k9; obtain ⟨q8, hq8, hq8a⟩ := hq; refine k9 ?_; clear k9 G9) | (obtain ⟨q8, hq8, hq8a⟩ := hq)
        have hpd : q8.place = d := by rw [← hqd, ← hq8a]; rfl
        k_steps
        unfold Halt
        rename News _ _ _ _ => Nf
        rename Fr _ _ _ _ => Ff
        k_dflt (refine ConK.use (c_take_responseS w pg _ hsepA fc.k3 fc.nd qk hqk hqx f.1 _ q8 hq8) (by k_asm) Ff (by k_asm) (News.selY Nf 11 [flat w pg.known, A, Z] [8, 9, 10, 11, 12, 1, 2, 3, 4, 5, 6, 7, 13] rfl) (by k_asm) rfl (by ktr_room) (by ktr_units) ?_)
        intro gs last' hgs hat hlast' hsepT h3 tk3 F3 N5
        clear Nf Ff hsepA
        obtain ⟨RR, hRR⟩ : ∃ RR, RR = ({ pg with known := gs, last := last' } : PG).hdr w ++ (flat w gs ++ (A ++ Z)) := ⟨_, rfl⟩
        have N6 : News _ _ _ (_ :: _ :: _ :: _ :: _ :: _ :: _ :: (({ pg with known := gs, last := last' } : PG).hdr w ++ (flat w gs ++ (A ++ Z)))) := News.selY N5 3 [flat w gs, A, [_], [_], [_], [_], [_], [_], [_], Z] [5, 6, 7, 8, 9, 10, 11, 0, 1, 2, 3, 4, 12] rfl
        have S6 : Sep (_ :: _ :: _ :: _ :: _ :: _ :: _ :: (({ pg with known := gs, last := last' } : PG).hdr w ++ (flat w gs ++ (A ++ Z)))) := Sep.selY hsepT 3 [flat w gs, A, [_], [_], [_], [_], [_], [_], [_], Z] [5, 6, 7, 8, 9, 10, 11, 0, 1, 2, 3, 4, 12] rfl rfl
        rw [← hRR] at N6 S6
        clear N5 hsepT
        have hnd := ndOf S6
        dsimp only [List.map] at hnd
        clear S6
        k_steps
        unfold Halt
        rename News _ _ _ _ => Nf
        rename Fr _ _ _ _ => Ff
        rw [push_ival] at Nf
        with_reducible rename List.Nodup _ => hnd9
        have S7 := sep_nd Nf hnd9 rfl
        clear hnd9
        rw [hRR, hZ] at Nf S7
        obtain ⟨t7, g1, hg1, N7, S8⟩ : ∃ (t7 : Tok) (g1 : NG), g1 = { g with back := fateL pick g.back, ban := n', proven := g.proven ++ [((d : Int), t7)], pn := g.pn + 1 } ∧ News _ _ _ (g1.cells ++ ((D, LCg.lst [.int (d : Int) t8]) :: (({ pg with known := gs, last := last' } : PG).hdr w ++ (flat w gs ++ (A ++ T0))))) ∧ Sep (g1.cells ++ ((D, LCg.lst [.int (d : Int) t8]) :: (({ pg with known := gs, last := last' } : PG).hdr w ++ (flat w gs ++ (A ++ T0))))) :=
          ⟨_, _, rfl, News.selY Nf 11 ([flat w gs, A] ++ [1, 2, 3, 6, 7, 8, 9, 10, 12].map (nthB (headB 12 (g.cells ++ T0) [T0]))) [5, 13, 14, 15, 7, 6, 16, 17, 18, 19, 20, 2, 1, 8, 9, 10, 11, 12, 21] rfl, Sep.selY S7 11 ([flat w gs, A] ++ [1, 2, 3, 6, 7, 8, 9, 10, 12].map (nthB (headB 12 (g.cells ++ T0) [T0]))) [5, 13, 14, 15, 7, 6, 16, 17, 18, 19, 20, 2, 1, 8, 9, 10, 11, 12, 21] rfl rfl⟩
        clear Nf S7
        have ok1 : g1.Ok w := by rw [hg1]; exact ⟨hnet, hopn, st.ok.end_⟩
        have sm1 : g1.Sm := by
          rw [hg1]
          exact ⟨sm.failed, sm.over, by rw [List.length_append, List.length_singleton]; exact hz7, sm.q0, sm.q1, sm.q2, sm.forth, Nat.le_trans (fateL_sub pick g.back).length_le sm.back⟩
        have en1 : g1.nd = g.nd := by rw [hg1]
        have ef1 : g1.forth = g.forth := by rw [hg1]
        have ab1 : g1.abs = { S.n.answered pick with proven := S.n.proven ++ [(d : Int)] } := by
          rw [hg1, ← st.nabs]
          simp only [LN.answered, NG.abs, fsts, fateL_map, List.map_append, List.map_cons, List.map_nil]
        clear hg1
        rw [← en1]
        k_dflt (refine ConK.use (c_endedK w g1 ok1 sm1 _ S8 d hd3 _) (by k_asm) Ff (by k_asm) N7 (by k_asm) rfl (by ktr_room) (by ktr_units) ?_)
        intro g2 ok2 habs2 hnd2 hfo2 hsep2 h5 tk5 F5 N8
        clear Ff N7 S8
        first | ((with_reducible refine hideW ?_); intro G9 k9; obtain ⟨qt, hqt, hqtx, hqtp⟩ := hat q8 (List.mem_of_find?_eq_some hq8); refine k9 ?_; clear k9 G9) | (obtain ⟨qt, hqt, hqtx, hqtp⟩ := hat q8 (List.mem_of_find?_eq_some hq8))
        have N9 : News _ _ _ (_ :: (g2.cells ++ (({ pg with known := gs, last := last' } : PG).hdr w ++ (flat w gs ++ (A ++ T0))))) := News.selY N8 12 [[_], ({ pg with known := gs, last := last' } : PG).hdr w, flat w gs, A, T0] [12, 0, 1, 2, 3, 4, 5, 6, 7, 8, 9, 10, 11, 13, 14, 15, 16] rfl
        clear N8
        have hsubr : ∀ e ∈ qt.cells w, e ∈ g2.cells ++ (({ pg with known := gs, last := last' } : PG).hdr w ++ (flat w gs ++ (A ++ T0))) := fun e he => List.mem_append_right _ (List.mem_append_right _ (List.mem_append_left _ (List.mem_flatMap.mpr ⟨qt, hqt, he⟩)))
        generalize hR5 : g2.cells ++ (({ pg with known := gs, last := last' } : PG).hdr w ++ (flat w gs ++ (A ++ T0))) = R5 at N9 hsubr
        have N10 := News.more3 (l := qt.cells w) (H := [_]) N9 hsubr
        dsimp only [G.cells, G.dict, List.cons_append, List.nil_append] at N10
        rw [hqtp, hpd] at N10
        rw [← hqtx] at F5
        clear N9 hsubr
        k_steps
        unfold Halt
        rename News _ _ _ _ => Nf
        rename Fr _ _ _ _ => Ff
        k_dflt (refine ConK.use (c_placesM w _) (by k_asm) Ff (by k_asm) Nf (by k_asm) rfl (by ktr_room) (by ktr_units) ?_)
        intro lp x0 x1 x2 hlt h6 tk6 F6 N11
        clear Nf Ff hlt
        have hix := item_place d hd3 x0 x1 x2
        k_steps
        with_reducible rename News h₀ _ _ _ => Nf
        rw [show (placeStr d == placeStr d) = true from beq_self_eq_true _]
        subst hR5
        have ea : S.answer pick = ⟨({ S.n.answered pick with proven := S.n.proven ++ [(d : Int)] } : LN).ended d, atK P.prove S.ps d, S.act, if d = S.act then some d else S.last, S.high⟩ := by
          rw [← st.nabs] at hbk
          simp only [LS.answer, if_pos hp3]
          rw [← st.nabs]
          simp only [hbk, hd]
        rw [ea] at hret
        refine hret _ _ _ _ ⟨g2, { pg with known := gs, last := last' }, rfl, rfl, ⟨ok2, by rw [habs2, ab1], by rw [hgs, st.kabs, hpd], at_of ⟨qk, hqk, hqx, hqp⟩ hat, ?_, st.high⟩, hnd2.trans en1, rfl, hfo2.trans ef1, hsep2.selY 12 [[_], ({ pg with known := gs, last := last' } : PG).hdr w, flat w gs, A, T0] [0, 1, 2, 3, 4, 5, 6, 7, 8, 9, 10, 11, 13, 14, 16] rfl rfl⟩ (by k_asm) (News.selY Nf 17 [({ pg with known := gs, last := last' } : PG).hdr w, flat w gs, A, T0] [5, 6, 7, 8, 9, 10, 11, 12, 13, 14, 15, 16, 17, 18, 20] rfl)
        dsimp only
        rw [hlast', hpd, hqp]
        by_cases hda : d = S.act
        · rw [if_pos hda, if_pos hda]; exact ⟨qt, hqt, hqtx, hqtp.trans hpd⟩
        · rw [if_neg hda, if_neg hda]; exact lastOk_of st.lst hat
  · rw [show (if pick.fmod 3 = 1 then x else if pick.fmod 3 = 0 then x else Value.none) = .none by
      rw [if_neg (fun h => hp3 (.inl h)), if_neg (fun h => hp3 (.inr h))]]
    k_steps
    with_reducible rename News h₀ _ _ _ => Nf
    rw [hZ] at Nf
    have ea : S.answer pick = { S with n := S.n.answered pick } := by simp only [LS.answer, if_neg hp3]
    rw [ea] at hret
    refine hret _ _ _ _ ⟨{ g with back := fateL pick g.back, ban := n' }, pg, rfl, rfl, ⟨⟨hnet, hopn, st.ok.end_⟩, ?_, st.kabs, st.pat, st.lst, st.high⟩, rfl, rfl, rfl, hsep.congr rfl⟩ (by k_asm) (News.selY Nf 9 ([flat w pg.known] ++ [1, 2, 3, 6, 7, 8, 9, 10, 12].map (nthB (headB 12 (g.cells ++ T0) [T0]))) [3, 10, 11, 12, 5, 4, 13, 14, 15, 16, 17, 0, 6, 7, 8, 9, 18] rfl)
    show _ = S.n.answered pick
    rw [← st.nabs]
    simp only [LN.answered, NG.abs, fsts, fateL_map]

end
theorem back_N6 {M : Model} {A : Around} {E : Value → Shared → Prop} {s : Shared} {Q : Unit → Shared → Prop} (h : wpAny M A (PySem.setItem .none .none .none) Q E s) : wpAny M A (PySem.setItem .none .none .none) Q E s := by first | (walk1; fail) | exact h
section
-- C1
theorem off_C1 : True := by w_top off; trivial
theorem c_challenge (w : World) (g : G) (rest : List (Addr × Obj)) (hsep : Sep (g.cells w ++ rest)) (hc : g.chal.length ≤ 1000) (b : Bts) (bt : Tok) (now : Int) (nt : Tok) (wait : Int) (wt : Tok) :
    Con w 104 1 (g.cells w ++ rest)
      [.ref g.x, .bytes b bt, .int now nt, .int wait wt] (fun v news' => ∃ g' : G, v = .none ∧ news' = g'.cells w ++ rest ∧ g'.abs = g.abs.challenge b (now + wait) ∧ g'.x = g.x ∧ g'.d = g.d ∧ Sep (g'.cells w ++ rest)) := by
  unfold Con; k_fill; intro mean mg mb dep un gd cn cs fa ccd cl outer A₀ base h₀ L m s Q E B F X N T hk hdep hun hret
  obtain ⟨x, d, c, t0, t1, t2, t3, t4, t5, t6, t7, place, plt, st, stt, free, recv, rct, sent, snt, chal, ep, dead, wants⟩ := g
  dsimp only [G.cells, G.dict, List.cons_append, List.nil_append] at N hsep hc ⊢
  simp only [List.cons_append, List.nil_append, Sep, List.forall_mem_cons] at hsep; refine hide ?_; intro G9 k9; obtain ⟨⟨_, _, _⟩, ⟨_, _⟩, _, hsepR⟩ := hsep; refine k9 ?_; clear k9 G9
  refine wpAny_call ?_; k_dflt ktr_enter
  k_steps
  · rename News _ _ _ _ => Nf
    refine hret _ _ _ _ ⟨G.mk x d _ t0 t1 t2 t3 t4 t5 t6 t7 place plt .trying _ free recv rct sent snt [(b, bt)] _ (some (now + wait, _)) false, rfl, rfl, ?_, rfl, rfl, ?_⟩ (by k_asm) (cb_drop Nf (by walk_at "m sub"))
    · cases st <;> first | rfl | walk_at "m absurd"
    · walk_at "m sep"
  · rename News _ _ _ _ => Nf
    rw [push_bval] at Nf
    refine hret _ _ _ _ ⟨G.mk x d c t0 t1 t2 t3 t4 t5 t6 t7 place plt st stt free recv rct sent snt (chal ++ [(b, bt)]) _ dead false, rfl, rfl, ?_, rfl, rfl, ?_⟩ (by k_asm) (cb_drop Nf (by walk_at "m sub"))
    · cases st <;> first | walk_at "m absurd" | (simp [G.abs, P.challenge]; done)
    · walk_at "m sep"

end
section
-- N11
theorem off_N11 : True := by w_top off; trivial
local macro_rules | `(tactic| k_lt $h:ident) => `(tactic| clear $h)
theorem News.addF {h₀ h : Heap} {L : Addr} {X l : Led} (N : News h₀ L h X) (hs : ∀ e ∈ l, e ∈ X) : News h₀ L h (l ++ X) := cb_drop N fun _ hp => (List.mem_append.mp hp).elim (hs _) id
theorem c_next_timeK (w : World) (g : PG) (rest : Led) (hl : g.known.length ≤ 3) : ConK w 228 1 (g.hdr w ++ (flat w g.known ++ rest)) [.ref g.p] (fun R => ∀ v, IsMin (deads (g.known.map G.abs)) v → R v (g.hdr w ++ (flat w g.known ++ rest))) :=
  (c_next_time w g rest hl).toK fun R k v n h => by rw [h.2]; exact k v h.1
theorem stands_front {h₀ h : Heap} {L : Addr} {w : World} {g : NG} {pg : PG} {T0 : Led} (N : News h₀ L h (W0 w g pg T0)) :
    ∃ Z, Z = catB ([2, 3, 5, 6, 7, 8, 10, 11, 12].map (nthB (headB 12 (g.cells ++ T0) [T0]))) ∧ News h₀ L h ((g.nd, g.nob) :: (g.hl, listOf #[.bool g.h0, .bool g.h1, .bool g.h2] g.hn) :: (g.ed, g.eob) :: (g.pl, il g.proven g.pn) :: (pg.hdr w ++ (flat w pg.known ++ Z))) :=
  ⟨_, rfl, News.selY N 12 [pg.hdr w, flat w pg.known, T0] [0, 1, 9, 4, 12, 13, 2, 3, 5, 6, 7, 8, 10, 11, 14] rfl⟩
theorem c_stands (w : World) (g : NG) (pg : PG) (S : LS) (st : St w g pg S) (T0 : List (Addr × Obj)) (hgd : S.Good) (hact : S.n.active = S.act) (ha : S.act < 3)
    (hperm : (((S.ps.filter (·.st == .proven)).map fun p => (p.place : Int))).Perm S.n.proven) (hears : ∀ p ∈ S.ps, p.st = .proven → S.n.hears p.place = true ∨ (p.place = 1 ∧ S.n.first = true)) (hends : ∀ d, d ∈ deads S.ps ↔ ∃ a < 3, S.n.end_ a = some d) :
    Con w 323 2 (W0 w g pg T0) [.ref g.nd, .ref pg.p] (fun v news' => v = .bool true ∧ news' = W0 w g pg T0) := by
  unfold Con; k_fill; intro mean mg mb dep un gd cn cs fa ccd cl outer A₀ base h₀ L m s Q E B F X N T hk hdep hun hret
  have fc := facts_of st hgd
  have sm := sm_of st.nabs hgd.sm
  have hpl := sm.proven
  clear sm
  have hnet := st.ok.net
  have hend := st.ok.end_
  have hl3 : pg.known.length ≤ 3 := fc.len
  have eact : g.active = S.act := (congrArg LN.active st.nabs).trans hact
  have hact3 : g.active < 3 := by rw [eact]; exact ha
  rw [← st.kabs, ← provens_abs, show S.n.proven = fsts g.proven from (congrArg LN.proven st.nabs).symm] at hperm
  rw [← st.kabs] at hears hends
  have hplen : (provens pg.known).length ≤ 3 := by
    unfold provens
    rw [List.length_map]
    exact Nat.le_trans (List.length_filter_le _ _) hl3
  have hnlen : (fsts g.proven).length ≤ 3 := by rw [← hperm.length_eq]; exact hplen
  first | ((with_reducible refine hideW ?_); intro G9 k9; obtain ⟨sl, hsl⟩ := sortOf_some (fsts g.proven); refine k9 ?_; clear k9 G9) | (obtain ⟨sl, hsl⟩ := sortOf_some (fsts g.proven))
  have hsl2 : SortOf (provens pg.known) sl := ⟨hsl.1.trans hperm.symm, hsl.2⟩
  have hip := ints_map g.proven
  first | ((with_reducible refine hideW ?_); intro G9 k9; obtain ⟨Z, hZ, N1⟩ := stands_front N; refine k9 ?_; clear k9 G9) | (obtain ⟨Z, hZ, N1⟩ := stands_front N)
  clear N
  dsimp only [PG.hdr, PG.dict, List.cons_append, List.nil_append] at N1
  refine wpAny_call ?_; k_dflt ((refine' code_defC ?k1 ?k2 ?k3 ?k4 ?k5 ?kA ?kF ?kK ?k6 ?k7 ?k8 ?k9 ?kB ?kD ?_ ?c2 ?c3 ?c4; (case kA => exact rfl); (case kF => exact rfl); (case kK => assumption); (case k1 => k_asm); (case k2 => k_asm); (case k3 => k_asm); (case k4 => k_asm); (case k5 => k_asm); (case k6 => k_is); (case k7 => k_is); (case k8 => ktr_room); (case k9 => exact BindsTo.of_eq rfl); (case kB => exact rfl); (case kD => decide +kernel); (case c2 => exact rfl); (case c3 => exact rfl); (case c4 => exact rfl); k_whole; intro g9 L9 h9 tk9 cells9 FG9 F9 N9 Y9 B9 X9 T9 l9; have l8 := l9; (try k_lt l9); have hY9 := PyProof.Rows.CellsAre.one Y9; obtain ⟨oc1, hE9, dc1⟩ := hY9; subst hE9; clear Y9; (try simp only [List.cons_append, List.nil_append] at N9); (try dsimp only); (try k_fold)))
  k_steps
  unfold Halt
  rename Fr _ _ _ _ => lF
  rename News _ _ _ _ => lN
  obtain ⟨B0, hB0, lN2⟩ : ∃ B0 : Led, B0 = (L9 + 1, oc1) :: (g.nd, g.nob) :: (g.hl, listOf #[.bool g.h0, .bool g.h1, .bool g.h2] g.hn) :: (g.ed, g.eob) :: (g.pl, il g.proven g.pn) :: (pg.hdr w ++ (flat w pg.known ++ Z)) ∧ News _ _ _ B0 := ⟨_, rfl, lN⟩
  clear lN
  have hkl : (pg.kl, listOf (pg.known.map xref).toArray pg.kn) ∈ B0 := by rw [hB0]; exact .tail _ (.tail _ (.tail _ (.tail _ (.tail _ (.tail _ (.tail _ (.head _)))))))
  refine LCt.CompSrcT.ledger (its := (pg.known.map xref).toArray) (k := pg.kn) (by rfl) lF lN2 hkl (by simp only [List.size_toArray, List.length_map]; rw [sizeLine_eq]; exact Nat.le_trans hl3 (by decide)) ?_
  intro g1
  refine compRestT_of (fun i ys nw => nw = B0 ∧ IntsAre ys (provens (pg.known.take i))) ?_ ?_ ⟨rfl, .nil⟩
  · intro i v ys nw I oI C oC D m₂ h tk E' hi hv hnw hC hx F1 N1 off ne
    first | ((with_reducible refine hideW ?_); intro G9 k9; obtain ⟨e1, hys⟩ := hnw; refine k9 ?_; clear k9 G9) | (obtain ⟨e1, hys⟩ := hnw)
    subst e1
    clear lF lN2
    first | ((with_reducible refine hideW ?_); intro G9 k9; obtain ⟨q, hq, ev⟩ := item_xref (by simpa using hv); refine k9 ?_; clear k9 G9) | (obtain ⟨q, hq, ev⟩ := item_xref (by simpa using hv))
    subst ev
    have hqm := List.mem_of_getElem? hq
    have hq3 := fc.k3 q hqm
    have N2 := News.addF (l := q.cells w) N1 (fun e he => .tail _ (.tail _ (.tail _ (by rw [hB0]; exact .tail _ (.tail _ (.tail _ (.tail _ (.tail _ (List.mem_append_right _ (List.mem_append_left _ (List.mem_flatMap.mpr ⟨q, hqm, he⟩)))))))))))
    have hsn := provens_snoc hq
    dsimp only [G.cells, G.dict, List.cons_append, List.nil_append, xref] at N2 F1 hx
    k_steps
    unfold Halt
    rename News _ _ _ _ => Nf
    rename Fr _ _ _ _ => Ff
    k_dflt (refine ConK.use (c_is_proven w q ((I, oI) :: (C, oC) :: (D, LCg.lst ys) :: nw)).toKS (by k_asm) Ff (by k_asm) Nf (by k_asm) rfl (by ktr_room) (by ktr_units) ?_)
    intro h2 tk2 F2 N3
    clear Nf Ff N1
    dsimp only [G.cells, G.dict, List.cons_append, List.nil_append] at N3
    k_steps
    · unfold Halt
      rename News _ _ _ _ => Nf
      rename Fr _ _ _ _ => Ff
      k_dflt (refine ConK.use (c_placesM w _) (by k_asm) Ff (by k_asm) Nf (by k_asm) rfl (by ktr_room) (by ktr_units) ?_)
      intro lp x0 x1 x2 hlt h3 tk3 F3 N5
      clear Nf Ff hlt
      k_steps
      unfold Halt
      rename Fr _ _ _ _ => Ff
      rename News _ _ _ _ => Nf
      refine LCg.CompEnd.intro Ff Nf _ (by walk_at "m tails") off (.inr ⟨_, hkl, rfl, _, rfl⟩) ⟨rfl, ?_⟩
      rw [hsn, if_pos ‹(q.st == PS.proven) = true›]
      exact ints_snoc _ _ hys
    · unfold Halt
      rename Fr _ _ _ _ => Ff
      rename News _ _ _ _ => Nf
      refine LCg.CompEnd.intro Ff Nf _ (by walk_at "m tails") off (.inr ⟨_, hkl, rfl, _, rfl⟩) ⟨rfl, ?_⟩
      rw [hsn, if_neg (by rw [‹(q.st == PS.proven) = false›]; decide), List.append_nil]
      exact hys
  · intro ys nw hnw
    first | ((with_reducible refine hideW ?_); intro G9 k9; obtain ⟨e1, hys⟩ := hnw; refine k9 ?_; clear k9 G9) | (obtain ⟨e1, hys⟩ := hnw)
    subst e1
    intro D h tk F1 N1 off
    clear lN2 lF off
    rw [show (List.map xref pg.known).toArray.size = pg.known.length by simp, List.take_length] at hys
    rw [hB0] at N1
    first | ((with_reducible refine hideW ?_); intro G9 k9; obtain ⟨qa, hqa, hqax, hqap⟩ := st.pat; refine k9 ?_; clear k9 G9) | (obtain ⟨qa, hqa, hqax, hqap⟩ := st.pat)
    have N2 := News.addF (l := qa.cells w) N1 (fun e he => .tail _ (.tail _ (.tail _ (.tail _ (.tail _ (.tail _ (List.mem_append_right _ (List.mem_append_left _ (List.mem_flatMap.mpr ⟨qa, hqa, he⟩)))))))))
    dsimp only [G.cells, G.dict, PG.hdr, PG.dict, List.cons_append, List.nil_append] at N2
    rw [hqax, hqap.trans eact.symm] at N2
    have hylen : ys.length ≤ 3 := by
      have := IntsAre.length hys
      omega
    clear hB0 N1
    k_steps
    unfold Halt
    rename News _ _ _ _ => Nf
    rename Fr _ _ _ _ => Ff
    k_dflt (refine ConK.use (c_placesM w _) (by k_asm) Ff (by k_asm) Nf (by k_asm) rfl (by ktr_room) (by ktr_units) ?_)
    intro lp x0 x1 x2 hlt h3 tk3 F3 N5
    clear Nf Ff hlt
    have hit1 := item_place g.active hact3 x0 x1 x2
    k_steps
    · exact absurd ‹(placeStr g.active != placeStr g.active) = true› (by simp)
    unfold Halt
    rename News _ _ _ _ => Nf
    rename Fr _ _ _ _ => lF
    obtain ⟨B2, hB2, lN⟩ : ∃ B2 : Led, B2 = (g.pl, il g.proven g.pn) :: (pg.hdr w ++ (flat w pg.known ++ Z)) ∧ News _ _ _ ((D, LCg.lst ys) :: (L9 + 1, oc1) :: (g.nd, g.nob) :: (g.hl, listOf #[.bool g.h0, .bool g.h1, .bool g.h2] g.hn) :: (g.ed, g.eob) :: B2) := ⟨_, rfl, cb_drop Nf (by walk_at "m tails")⟩
    clear Nf
    refine LCt.CompSrcT.ledger (its := ys.toArray) (k := ys.length) (by rfl) lF lN (.head _) (by simp only [List.size_toArray]; rw [sizeLine_eq]; exact Nat.le_trans hylen (by decide)) ?_
    intro g2
    refine compRestT_of (fun i ys2 nw => nw = _ ∧ ys2 = []) ?_ ?_ ⟨rfl, rfl⟩
    · intro i v ys2 nw I oI C oC D2 m₂ h tk E' hi hv hnw hC hx F1 N1 off ne
      first | ((with_reducible refine hideW ?_); intro G9 k9; obtain ⟨e1, e2⟩ := hnw; refine k9 ?_; clear k9 G9) | (obtain ⟨e1, e2⟩ := hnw)
      subst e1
      subst e2
      clear lN lF
      first | ((with_reducible refine hideW ?_); intro G9 k9; obtain ⟨n, t9, ev, hnm⟩ := ints_item hys (by simpa using hv); refine k9 ?_; clear k9 G9) | (obtain ⟨n, t9, ev, hnm⟩ := ints_item hys (by simpa using hv))
      subst ev
      unfold provens at hnm
      first | ((with_reducible refine hideW ?_); intro G9 k9; obtain ⟨q, hq9, en⟩ := List.mem_map.mp hnm; refine k9 ?_; clear k9 G9) | (obtain ⟨q, hq9, en⟩ := List.mem_map.mp hnm)
      first | ((with_reducible refine hideW ?_); intro G9 k9; obtain ⟨hq, hst⟩ := List.mem_filter.mp hq9; refine k9 ?_; clear k9 G9) | (obtain ⟨hq, hst⟩ := List.mem_filter.mp hq9)
      have hh := hears q.abs (List.mem_map.mpr ⟨q, hq, rfl⟩) (show q.st = .proven by simpa using hst)
      rw [show S.n.first = g.first from (congrArg LN.first st.nabs).symm, show S.n.hears q.abs.place = g.hAt q.place from (congrFun (congrArg LN.hears st.nabs) _).symm] at hh
      have hitb := item_h g (fc.k3 q hq)
      rw [en] at hitb
      by_cases hbt : g.hAt q.place = true
      · rw [hbt] at hitb
        k_steps
        unfold Halt
        rename Fr _ _ _ _ => Ff
        rename News _ _ _ _ => Nf
        exact LCg.CompEnd.intro Ff Nf _ (by walk_at "m tails") off (.inr ⟨_, .head _, rfl, _, rfl⟩) ⟨rfl, rfl⟩
      · first | ((with_reducible refine hideW ?_); intro G9 k9; obtain ⟨hp1, hf1⟩ := hh.resolve_left hbt; refine k9 ?_; clear k9 G9) | (obtain ⟨hp1, hf1⟩ := hh.resolve_left hbt)
        rw [Bool.not_eq_true] at hbt
        rw [hbt] at hitb
        have hn1 : n = 1 := by rw [← en]; exact congrArg (fun x : Nat => (x : Int)) hp1
        subst hn1
        have hf9 : g.first = true := hf1
        k_steps
        unfold Halt
        rename Fr _ _ _ _ => Ff
        rename News _ _ _ _ => Nf
        exact LCg.CompEnd.intro Ff Nf _ (by walk_at "m tails") off (.inr ⟨_, .head _, rfl, _, rfl⟩) ⟨rfl, rfl⟩
    · intro ys2 nw hnw
      first | ((with_reducible refine hideW ?_); intro G9 k9; obtain ⟨e1, e2⟩ := hnw; refine k9 ?_; clear k9 G9) | (obtain ⟨e1, e2⟩ := hnw)
      subst e1
      subst e2
      intro D2 h tk F1 N1 off
      clear lN lF off
      k_steps
      unfold Halt
      rename News _ _ _ _ => Nf
      rename Fr _ _ _ _ => lF
      rename IsRange _ _ _ _ _ _ _ _ => hrg
      refine LCt.CompSrcT.range (n := 3) (by rfl) lF (News.selY Nf 7 [B2] [3, 4, 6, 5, 7] rfl : News _ _ _ ((L9 + 1, oc1) :: (g.nd, g.nob) :: (g.ed, g.eob) :: (g.hl, listOf #[.bool g.h0, .bool g.h1, .bool g.h2] g.hn) :: B2)) hrg (by decide) (by decide) (by size_fits) ?_
      clear Nf lF
      intro g3
      refine compRestT_of (fun i ys3 nw => nw = _ ∧ IntsAre ys3 (endsTo g.abs i)) ?_ ?_ ⟨rfl, .nil⟩
      · intro i v ys3 nw I oI C oC D3 m₂ h tk E' hi hv hnw hC hx F1 N1 off ne
        first | ((with_reducible refine hideW ?_); intro G9 k9; obtain ⟨e1, hys3⟩ := hnw; refine k9 ?_; clear k9 G9) | (obtain ⟨e1, hys3⟩ := hnw)
        subst e1
        first | ((with_reducible refine hideW ?_); intro G9 k9; obtain ⟨t9, ev⟩ := hv; refine k9 ?_; clear k9 G9) | (obtain ⟨t9, ev⟩ := hv)
        subst ev
        rw [Int.zero_add] at hx
        have hsn := endsTo_succ g.abs i
        have hva := val_v g hi
        rw [end_at g hi] at hsn
        rcases hvi : g.vAt i with _ | ⟨d, dt⟩
        · rw [hvi] at hva hsn
          dsimp only [deadV] at hva
          k_steps
          unfold Halt
          rename Fr _ _ _ _ => Ff
          rename News _ _ _ _ => Nf
          refine LCg.CompEnd.intro Ff Nf _ (by walk_at "m tails") off trivial ⟨rfl, ?_⟩
          rw [hsn]
          simpa using hys3
        · rw [hvi] at hva hsn
          dsimp only [deadV] at hva
          k_steps
          unfold Halt
          rename Fr _ _ _ _ => Ff
          rename News _ _ _ _ => Nf
          refine LCg.CompEnd.intro Ff Nf _ (by walk_at "m tails") off trivial ⟨rfl, ?_⟩
          rw [hsn]
          exact ints_snoc _ _ hys3
      · intro ys3 nw hnw
        first | ((with_reducible refine hideW ?_); intro G9 k9; obtain ⟨e1, hys3⟩ := hnw; refine k9 ?_; clear k9 G9) | (obtain ⟨e1, hys3⟩ := hnw)
        subst e1
        intro D3 h tk F1 N1 off
        clear off
        have hiff : ∀ d, d ∈ deads (pg.known.map G.abs) ↔ d ∈ endsTo g.abs 3 := fun d => (hends d).trans (by rw [← st.nabs]; exact (endsTo_mem (n := g.abs) (k := 3)).symm)
        have hlen3 : (endsTo g.abs 3).length ≤ 3 := by
          unfold endsTo
          exact Nat.le_trans (List.length_filterMap_le _ _) (by simp)
        generalize endsTo g.abs 3 = el at hys3 hiff hlen3
        have fin : ∀ h' tk', Fr h₀ L h' m → News h₀ L h' ((g.nd, g.nob) :: (g.ed, g.eob) :: (g.hl, listOf #[.bool g.h0, .bool g.h1, .bool g.h2] g.hn) :: B2) → Q (.bool true) { s with heap := h', toks := tk' } := fun h' tk' F' N' => by
          rw [hB2, hZ] at N'
          exact hret _ _ _ _ ⟨rfl, rfl⟩ F' (News.selY N' 4 ([pg.hdr w, flat w pg.known] ++ [2, 3, 5, 6, 7, 8, 10, 11, 12].map (nthB (headB 12 (g.cells ++ T0) [T0]))) [0, 2, 6, 7, 3, 8, 9, 10, 11, 1, 12, 13, 4, 5, 14] rfl)
        have N2 := N1
        rw [hB2] at N2
        have N3 : News _ _ _ ((pg.p, instObj 236 pg.dp) :: (pg.dp, pg.dict w) :: (pg.kl, listOf (pg.known.map xref).toArray pg.kn) :: (flat w pg.known ++ ((D3, LCg.lst ys3) :: (g.nd, g.nob) :: (g.ed, g.eob) :: (g.hl, listOf #[.bool g.h0, .bool g.h1, .bool g.h2] g.hn) :: B2))) :=
          cb_drop N2 (fun q hq => by rw [hB2] at hq; revert q hq; exact sel_sub [[_], [_], [_], [_], [_], [_], pg.hdr w, flat w pg.known, Z] [6, 7, 0, 2, 3, 4, 5, 6, 7, 8])
        clear N1 N2 hret
        k_steps
        unfold Halt
        rename Fr _ _ _ _ => Ff
        rename News _ _ _ _ => Nf
        k_dflt (refine ConK.use (c_next_timeK w pg _ hl3) (by k_asm) Ff (by k_asm) Nf (by k_asm) rfl (by ktr_room) (by ktr_units) ?_)
        intro v hmin h4 tk4 F4 N4
        clear Ff Nf
        have N5 : News _ _ _ ((D3, LCg.lst ys3) :: (g.nd, g.nob) :: (g.ed, g.eob) :: (g.hl, listOf #[.bool g.h0, .bool g.h1, .bool g.h2] g.hn) :: B2) := News.selY N4 3 [flat w pg.known, [_], [_], [_], [_], B2] [4, 5, 6, 7, 8] rfl
        clear N4
        rcases hmin with ⟨hm0, ev⟩ | ⟨mm, mt, ev, hm1, hm2⟩
        · subst ev
          have hel : el = [] := List.eq_nil_iff_forall_not_mem.mpr fun d hd => by
            have := (hiff d).mpr hd
            rw [hm0] at this
            cases this
          rw [hel] at hys3
          obtain rfl := ints_nil hys3
          k_steps
          with_reducible rename News h₀ _ _ _ => Nf
          exact fin _ _ (by k_asm) (cb_drop Nf (by walk_at "m tails"))
        · subst ev
          have hel := (hiff mm).mp hm1
          have hpos : 0 < el.length := List.length_pos_of_mem hel
          have hyl := IntsAre.length hys3
          have hye : ys3.isEmpty = false := by
            cases ys3 with
            | nil => simp at hyl; omega
            | cons => rfl
          k_steps
          with_reducible rename News h₀ _ _ _ => Nf
          rename _ ∈ el => hd1
          rename ∀ a ∈ el, _ ≤ a => hd2
          rw [isMin_eq hiff hm1 hm2 hd1 hd2, beq_self_eq_true]
          exact fin _ _ (by k_asm) (cb_drop Nf (by walk_at "m tails"))

end
theorem back_N11 {M : Model} {A : Around} {E : Value → Shared → Prop} {s : Shared} {Q : Unit → Shared → Prop} (h : wpAny M A (PySem.setItem .none .none .none) Q E s) : wpAny M A (PySem.setItem .none .none .none) Q E s := by first | (walk1; fail) | exact h
section
-- P5
theorem off_P5 : True := by w_top off; trivial
theorem c_wants (w : World) (g : PG) (rest : List (Addr × Obj)) (q : G) (hq : q ∈ g.known) (hax : q.x = g.ax) :
    Con w 195 1 (g.hdr w ++ (flat w g.known ++ rest)) [.ref g.p]
      (fun v news' => v = (if q.st = .unproven ∨ (q.st = .trying ∧ q.wants = true) then .ref q.x else .none) ∧ news' = g.hdr w ++ (flat w g.known ++ rest)) := by
  unfold Con; k_fill; intro mean mg mb dep un gd cn cs fa ccd cl outer A₀ base h₀ L m s Q E B F X N T hk hdep hun hret
  obtain ⟨p, dp, kl, al, t0, t1, t2, t3, t4, t5, t6, rlt, known, kn, ax, last, high, hit⟩ := g
  dsimp only [PG.hdr, PG.dict, List.cons_append, List.nil_append] at N hax hq
  subst hax
  have N1 := News.more3 (l := q.cells w) (H := [_, _, _]) N (fun e he => List.mem_append_left _ (List.mem_flatMap.mpr ⟨q, hq, he⟩))
  generalize hR : flat w known ++ rest = R at N1 N
  dsimp only [G.cells, G.dict, List.cons_append, List.nil_append] at N1
  clear N
  cases hst : q.st
  all_goals
    simp only [hst] at N1
    refine wpAny_call ?_; k_dflt ktr_enter
    k_steps
  all_goals (rename News _ _ _ _ => Nf; subst hR)
  all_goals (
    have Nf' := Nf
    refine hret _ _ _ _ ⟨?_, rfl⟩ (by k_asm) (cb_drop Nf' ?_)
    · simp_all
    · walk_at "m sub")

end
section
-- N9
theorem off_N9 : True := by w_top off; trivial
theorem hdr_known (w : World) (pg : PG) (k' : List G) (h : k'.map xref = pg.known.map xref) : ({ pg with known := k' } : PG).hdr w = pg.hdr w := by simp only [PG.hdr, h]
theorem asks_front {h₀ h : Heap} {L : Addr} {w : World} {g : NG} {pg : PG} {T0 : Led} {q : G} {pre post : List G} {a : Nat} (ha : a < 3) (hkn : pg.known = pre ++ q :: post) (N : News h₀ L h (pg.hdr w ++ (flat w pg.known ++ (g.cells ++ T0)))) (S : Sep (W0 w g pg T0)) :
    ∃ R4, R4 = catB [[(g.ol, bl g.over g.on_)], [(g.ba, bl g.back g.ban)], g.oRest a, pg.hdr w, flat w pre, flat w post, T0] ∧
      News h₀ L h (q.cells w ++ ((g.nd, g.nob) :: (g.ed, g.eob) :: (g.fo, listOf (g.forth.map FT.ref).toArray g.fon) :: g.cellAt a :: (g.hl, listOf #[.bool g.h0, .bool g.h1, .bool g.h2] g.hn) :: (g.fl, il g.failed g.fn) :: (g.pl, il g.proven g.pn) :: (g.od, g.oob) :: R4)) ∧
      Sep (q.cells w ++ ((g.nd, g.nob) :: (g.ed, g.eob) :: (g.fo, listOf (g.forth.map FT.ref).toArray g.fon) :: g.cellAt a :: (g.hl, listOf #[.bool g.h0, .bool g.h1, .bool g.h2] g.hn) :: (g.fl, il g.failed g.fn) :: (g.pl, il g.proven g.pn) :: (g.od, g.oob) :: R4)) := by
  have hf : ∀ Z, flat w pg.known ++ Z = flat w pre ++ (q.cells w ++ (flat w post ++ Z)) := fun Z => by rw [hkn, flat_mid, List.append_assoc, List.append_assoc]
  rw [hf] at N
  have S1 : Sep (g.cells ++ (pg.hdr w ++ (flat w pre ++ (q.cells w ++ (flat w post ++ T0))))) := by rw [← hf]; exact S
  have N2 := news_at (g := g) ha (X := q.cells w ++ (pg.hdr w ++ (flat w pre ++ (flat w post ++ T0)))) (News.selY N 0 [pg.hdr w, flat w pre, q.cells w, flat w post, g.cells, T0] [4, 2, 0, 1, 3, 5] rfl)
  have S2 := sep_at (g := g) ha (X := q.cells w ++ (pg.hdr w ++ (flat w pre ++ (flat w post ++ T0)))) (S1.selY 0 [g.cells, pg.hdr w, flat w pre, q.cells w, flat w post, T0] [0, 3, 1, 2, 4, 5] rfl rfl)
  exact ⟨_, rfl, News.selY N2 10 [g.oRest a, q.cells w, pg.hdr w, flat w pre, flat w post, T0] [11, 0, 6, 7, 9, 1, 2, 4, 5, 3, 8, 10, 12, 13, 14, 15] rfl, S2.selY 10 [g.oRest a, q.cells w, pg.hdr w, flat w pre, flat w post, T0] [11, 0, 6, 7, 9, 1, 2, 4, 5, 3, 8, 10, 12, 13, 14, 15] rfl rfl⟩
theorem cutS {M : Model} {A : Around} {t : Sem Flow} {Q : Flow → Shared → Prop} {E : Value → Shared → Prop} {s : Shared} {h₀ : Heap} {L : Addr} {m : Str → Option Value} {news : Led} (_N : News h₀ L s.heap news) (_F : Fr h₀ L s.heap m) {α : Type} (P : α → Prop) (led : α → Led)
    (hw : ∀ Q' : Flow → Shared → Prop, (∀ x h' tk', P x → Fr h₀ L h' m → News h₀ L h' (led x) → Q' .next { s with heap := h', toks := tk' }) → wpAny M A t Q' E s)
    (hr : ∀ x h' tk', P x → Fr h₀ L h' m → News h₀ L h' (led x) → Q .next { s with heap := h', toks := tk' }) : wpAny M A t Q E s := hw Q hr
local macro_rules | `(tactic| walk_at "exec If") => `(tactic| refine halt ?_)
theorem pull_bts {h₀ h : Heap} {L a : Addr} {b : Bts} {t : Tok} {q : List (Bts × Tok)} {n : Nat} {c1 c2 : Addr × Obj} {R : Led} (N : News h₀ L h (c1 :: c2 :: (a, listOf ((q.map bval).toArray.push (.bytes b t)) n) :: R)) : ∃ t', News h₀ L h (c1 :: c2 :: (a, bl (q ++ [(b, t')]) n) :: R) :=
  ⟨t, by rw [push_bval] at N; exact N⟩
theorem c_placesK (w : World) (news0 : Led) : ConK w 247 0 news0 [] (fun R => ∀ (l : Addr) (x0 x1 x2 : Tok), (∀ q ∈ news0, q.1 < l) → R (.ref l) ((l, listOf [.str (placeStr 0) x0, .str (placeStr 1) x1, .str (placeStr 2) x2].toArray 0) :: news0)) :=
  (c_places w news0).toK (by rintro R k v n ⟨l, x0, x1, x2, e1, e2, h⟩; rw [e1, e2]; exact k l x0 x1 x2 h)
theorem c_challengeK (w : World) (g : G) (rest : Led) (hsep : Sep (g.cells w ++ rest)) (hc : g.chal.length ≤ 1000) (b : Bts) (bt : Tok) (now : Int) (nt : Tok) (wait : Int) (wt : Tok) :
    ConK w 104 1 (g.cells w ++ rest) [.ref g.x, .bytes b bt, .int now nt, .int wait wt] (fun R => ∀ g' : G, g'.abs = g.abs.challenge b (now + wait) → g'.x = g.x → Sep (g'.cells w ++ rest) → R .none (g'.cells w ++ rest)) :=
  (c_challenge w g rest hsep hc b bt now nt wait wt).toK (by rintro R k v n ⟨g', e1, e2, a, b, _, c⟩; rw [e1, e2]; exact k g' a b c)
theorem c_asks (w : World) (g : NG) (pg : PG) (S : LS) (st : St w g pg S) (T0 : List (Addr × Obj)) (hsep : Sep (W0 w g pg T0)) (hgd : S.Good) (hact : S.n.active = S.act) (ha : S.act < 3) (hc0 : 0 ≤ S.n.count) (hc1 : S.n.count < 255)
    (hfree : S.wantsB = true → (S.act : Int) ∉ S.n.proven ++ S.n.failed) :
    Con w 299 3 (W0 w g pg T0) [.ref g.nd, .ref pg.p] (PostA w g pg T0 S.asks) := by
  unfold Con; k_fill; intro mean mg mb dep un gd cn cs fa ccd cl outer A₀ base h₀ L m s Q E B F X N T hk hdep hun hret
  have fc := facts_of st hgd
  have sm := sm_of st.nabs hgd.sm
  have ea : g.active = S.act := (congrArg LN.active st.nabs).trans hact
  have ec : g.count = S.n.count := congrArg LN.count st.nabs
  have ha3 : g.active < 3 := by omega
  have hc0' : 0 ≤ g.count := by omega
  have hc1' : g.count < 255 := by omega
  have hnet := st.ok.net
  first | ((with_reducible refine hideW ?_); intro G9 k9; obtain ⟨q, hq, hqx, hqp⟩ := st.pat; refine k9 ?_; clear k9 G9) | (obtain ⟨q, hq, hqx, hqp⟩ := st.pat)
  obtain ⟨R1, hR1⟩ : ∃ R1, R1 = flat w pg.known ++ (g.cells ++ T0) := ⟨_, rfl⟩
  have N1 : News h₀ L s.heap (pg.hdr w ++ R1) := by rw [hR1]; exact News.selY N 0 [g.cells, pg.hdr w, flat w pg.known, T0] [1, 2, 0, 3] rfl
  dsimp only [PG.hdr, PG.dict, List.cons_append, List.nil_append] at N1
  clear N
  refine wpAny_call ?_; k_dflt ktr_enter
  k_steps
  unfold Halt
  rename News _ _ _ _ => Nf
  rename Fr _ _ _ _ => Ff
  rw [hR1] at Nf
  k_dflt (refine ConK.use (c_wants w pg (g.cells ++ T0) q hq hqx).toKS (by k_asm) Ff (by k_asm) Nf (by k_asm) rfl (by ktr_room) (by ktr_units) ?_)
  intro h2 tk2 F2 N2
  clear Nf Ff N1
  have hwb : S.wantsB = decide (q.st = .unproven ∨ (q.st = .trying ∧ q.wants = true)) := by
    have h9 := find_place fc.nd hq
    rw [hqp] at h9
    unfold LS.wantsB
    rw [← st.kabs, List.find?_map, show ((fun x : P => x.place == S.act) ∘ G.abs) = fun r : G => r.place == S.act from rfl, h9]
    rfl
  by_cases hw : q.st = .unproven ∨ (q.st = .trying ∧ q.wants = true)
  · rw [if_pos hw]
    first | ((with_reducible refine hideW ?_); intro G9 k9; obtain ⟨pre, post, hkn⟩ := List.append_of_mem hq; refine k9 ?_; clear k9 G9) | (obtain ⟨pre, post, hkn⟩ := List.append_of_mem hq)
    first | ((with_reducible refine hideW ?_); intro G9 k9; obtain ⟨R4, hR4, N3, S3⟩ := asks_front ha3 hkn N2 hsep; refine k9 ?_; clear k9 G9) | (obtain ⟨R4, hR4, N3, S3⟩ := asks_front ha3 hkn N2 hsep)
    clear N2
    have hnd := ndOf S3
    dsimp only [G.cells, G.dict, List.cons_append, List.nil_append, NG.cellAt] at N3
    dsimp only [G.cells, List.cons_append, List.nil_append, NG.cellAt, List.map] at hnd
    k_steps
    unfold Halt
    refine wpAny_If ?_
    k_steps
    unfold Halt
    rename News _ _ _ _ => Nf
    rename Fr _ _ _ _ => Ff
    with_reducible rename Obj => nob2
    obtain ⟨ct2, hnet2⟩ : ∃ ct2, nob2.IsDictOf (strKind PR w) ({ g with nob := nob2, count := g.count + 1, ct := ct2 } : NG).kvs := ⟨_, by assumption⟩
    dsimp only [NG.kvs] at hnet2
    k_dflt (refine ConK.use (c_challengeK w q ((g.nd, nob2) :: (g.ed, g.eob) :: (g.fo, listOf (g.forth.map FT.ref).toArray g.fon) :: (g.oAt g.active, bl (g.qAt g.active) (g.nAt g.active)) :: (g.hl, listOf #[.bool g.h0, .bool g.h1, .bool g.h2] g.hn) :: (g.fl, il g.failed g.fn) :: (g.pl, il g.proven g.pn) :: (g.od, g.oob) :: R4) (S3.congr rfl) (fc.chal q hq) _ _ _ _ _ _) (by k_asm) Ff (by k_asm) (News.selY Nf 3 [_] [3] rfl) (by k_asm) rfl (by ktr_room) (by ktr_units) ?_)
    intro g2 habs2 hx2 S5 h4 tk4 F4 N4
    have hpl : g2.place = q.place := place_of_abs habs2 (by unfold P.challenge; split <;> rfl)
    have hsub5 : ∀ z ∈ (g.ed, g.eob) :: (g.fo, listOf (g.forth.map FT.ref).toArray g.fon) :: (g.oAt g.active, bl (g.qAt g.active) (g.nAt g.active)) :: (g.nd, nob2) :: (g.hl, listOf #[.bool g.h0, .bool g.h1, .bool g.h2] g.hn) :: (g.fl, il g.failed g.fn) :: (g.pl, il g.proven g.pn) :: (g.od, g.oob) :: (q.x, instObj 121 g2.d) :: (g2.d, g2.dict w) :: (g2.c, bl g2.chal g2.ep) :: R4, z ∈ g2.cells w ++ ((g.nd, nob2) :: (g.ed, g.eob) :: (g.fo, listOf (g.forth.map FT.ref).toArray g.fon) :: (g.oAt g.active, bl (g.qAt g.active) (g.nAt g.active)) :: (g.hl, listOf #[.bool g.h0, .bool g.h1, .bool g.h2] g.hn) :: (g.fl, il g.failed g.fn) :: (g.pl, il g.proven g.pn) :: (g.od, g.oob) :: R4) := by
      rw [← hx2]; exact subY (g2.cells w ++ ((g.nd, nob2) :: (g.ed, g.eob) :: (g.fo, listOf (g.forth.map FT.ref).toArray g.fon) :: (g.oAt g.active, bl (g.qAt g.active) (g.nAt g.active)) :: (g.hl, listOf #[.bool g.h0, .bool g.h1, .bool g.h2] g.hn) :: (g.fl, il g.failed g.fn) :: (g.pl, il g.proven g.pn) :: (g.od, g.oob) :: R4)) 11 [R4] [4, 5, 6, 3, 7, 8, 9, 10, 0, 1, 2, 11] rfl
    have N5 := cb_drop N4 hsub5
    clear hsub5
    have S6 : Sep ((g.ed, g.eob) :: (g.fo, g.eob) :: (g.oAt g.active, g.eob) :: (g.nd, g.eob) :: (g.hl, g.eob) :: (g.fl, g.eob) :: (g.pl, g.eob) :: (g.od, g.eob) :: (q.x, g.eob) :: (g2.d, g.eob) :: (g2.c, g.eob) :: R4) := by
      rw [← hx2]; exact (S5.selY 11 [R4] [4, 5, 6, 3, 7, 8, 9, 10, 0, 1, 2, 11] rfl rfl).congr rfl
    clear N4 Nf Ff
    repeat (with_reducible rename List.Nodup _ => hnd9; clear hnd9)
    have hnd := ndOf S6
    dsimp only [List.map] at hnd
    have hp3 : g2.place = g.active := hpl.trans (hqp.trans ea.symm)
    have hd2 : g2.dict w = dictOf [ent w "address" g2.t0 (.str (placeStr g.active) g2.plt), ent w "state" g2.t1 (.str g2.st.str g2.stt), ent w "is_free" g2.t2 (.bool g2.free), ent w "received" g2.t3 (.int g2.recv g2.rct), ent w "sent" g2.t4 (.int g2.sent g2.snt), ent w "challenges" g2.t5 (.ref g2.c), ent w "deadline" g2.t6 (deadV g2.dead), ent w "wants_more" g2.t7 (.bool g2.wants)] 8 := by rw [G.dict, hp3]
    rw [hd2] at N5
    have hopn := st.ok.opn
    have hend := st.ok.end_
    have hvo := val_o g ha3
    have hvv := val_v g ha3
    have hih := item_h g ha3
    k_steps
    unfold Halt
    rename News _ _ _ _ => Nf
    rename Fr _ _ _ _ => Ff
    refine cutS Nf Ff (fun x : Obj × Option (Int × Tok) => x.1.IsDictOf (intKind PR w) [(0, deadV (g.setV g.active x.2).v0), (1, deadV (g.setV g.active x.2).v1), (2, deadV (g.setV g.active x.2).v2)] ∧ x.2.map (·.1) = if (g.vAt g.active).map (·.1) = none then some (g.now + 60) else (g.vAt g.active).map (·.1)) (fun x => (g.ed, x.1) :: (g.fo, listOf (g.forth.map FT.ref).toArray g.fon) :: (g.oAt g.active, bl (g.qAt g.active) (g.nAt g.active)) :: (g.nd, nob2) :: (g.hl, listOf #[.bool g.h0, .bool g.h1, .bool g.h2] g.hn) :: (g.fl, il g.failed g.fn) :: (g.pl, il g.proven g.pn) :: (g.od, g.oob) :: (q.x, instObj 121 g2.d) :: (g2.d, dictOf [ent w "address" g2.t0 (.str (placeStr g.active) g2.plt), ent w "state" g2.t1 (.str g2.st.str g2.stt), ent w "is_free" g2.t2 (.bool g2.free), ent w "received" g2.t3 (.int g2.recv g2.rct), ent w "sent" g2.t4 (.int g2.sent g2.snt), ent w "challenges" g2.t5 (.ref g2.c), ent w "deadline" g2.t6 (deadV g2.dead), ent w "wants_more" g2.t7 (.bool g2.wants)] 8) :: (g2.c, bl g2.chal g2.ep) :: R4) ?_ ?_
    · intro Q' hret'
      cases hv : g.vAt g.active with
      | none =>
        rw [hv] at hvv
        rw [show deadV none = Value.none from rfl] at hvv
        refine wpAny_If ?_
        k_steps
        with_reducible rename Obj.IsDictOf _ _ (PySem.stored _ _ _) => hd9
        exact hret' (_, some (g.now + 60, _)) _ _ ⟨by rw [← stored_v g ha3]; exact hd9, by rw [hv]; rfl⟩ (by k_asm) (by k_asm)
      | some vv =>
        rw [hv] at hvv
        rw [show deadV (some vv) = Value.int vv.1 vv.2 from rfl] at hvv
        refine wpAny_If ?_
        k_steps
        exact hret' (g.eob, some vv) _ _ ⟨by rw [← hv]; obtain ⟨e0, e1, e2⟩ := v_self g ha3; rw [e0, e1, e2]; exact hend, by rw [hv]; rfl⟩ (by k_asm) (by k_asm)
    rintro ⟨ev, vv⟩ h5 tk5 ⟨hend2, hvv2⟩ F5 N6
    clear Nf Ff hvv
    dsimp only at hend2 hvv2 N6
    have hql := qAt_len sm ha3
    have hfl := sm.forth
    have hpl9 := sm.proven
    have hff9 := sm.failed
    have hnot : ((g.proven.map ival ++ g.failed.map ival).any (isI (g.active : Int))) = false := by
      have hfr := hfree (hwb.trans (decide_eq_true hw))
      rw [← ea, ← st.nabs] at hfr
      change (g.active : Int) ∉ fsts g.proven ++ fsts g.failed at hfr
      rw [List.any_append, any_isI, any_isI, Bool.or_eq_false_iff]
      have h9 := fun h => hfr (List.mem_append_left _ h)
      have h8 := fun h => hfr (List.mem_append_right _ h)
      exact ⟨by simpa using h9, by simpa using h8⟩
    k_steps
    unfold Halt
    rename News _ _ _ _ => Nf
    rename Fr _ _ _ _ => Ff
    first | ((with_reducible refine hideW ?_); intro G9 k9; obtain ⟨tb, N7⟩ := pull_bts Nf; refine k9 ?_; clear k9 G9) | (obtain ⟨tb, N7⟩ := pull_bts Nf)
    clear Nf
    refine cutS N7 Ff (fun x : List FT × Nat => x.1.map (fun f => (f.place, f.b)) = (if g.hAt g.active = true then [(g.active, b8 g.count)] else []) ∧ Sep ((g.ed, g.eob) :: (g.fo, g.eob) :: (g.oAt g.active, g.eob) :: (g.nd, g.eob) :: (g.hl, g.eob) :: (g.fl, g.eob) :: (g.pl, g.eob) :: (g.od, g.eob) :: (q.x, g.eob) :: (g2.d, g.eob) :: (g2.c, g.eob) :: (tups x.1 ++ R4))) (fun x => (g.ed, ev) :: (g.fo, listOf ((g.forth ++ x.1).map FT.ref).toArray x.2) :: (g.oAt g.active, bl (g.qAt g.active ++ [(b8 g.count, tb)]) (g.nAt g.active + 1)) :: (g.nd, nob2) :: (g.hl, listOf #[.bool g.h0, .bool g.h1, .bool g.h2] g.hn) :: (g.fl, il g.failed g.fn) :: (g.pl, il g.proven g.pn) :: (g.od, g.oob) :: (q.x, instObj 121 g2.d) :: (g2.d, dictOf [ent w "address" g2.t0 (.str (placeStr g.active) g2.plt), ent w "state" g2.t1 (.str g2.st.str g2.stt), ent w "is_free" g2.t2 (.bool g2.free), ent w "received" g2.t3 (.int g2.recv g2.rct), ent w "sent" g2.t4 (.int g2.sent g2.snt), ent w "challenges" g2.t5 (.ref g2.c), ent w "deadline" g2.t6 (deadV g2.dead), ent w "wants_more" g2.t7 (.bool g2.wants)] 8) :: (g2.c, bl g2.chal g2.ep) :: (tups x.1 ++ R4)) ?_ ?_
    · intro Q' hret'
      cases hh : g.hAt g.active with
      | true =>
        rw [hh] at hih
        refine wpAny_If ?_
        k_steps
        rename News _ _ _ _ => Nf
        obtain ⟨f, rfl, hfp, hfb, N8⟩ := ft_pack g.active Nf
        rw [push_ft] at N8
        with_reducible rename List.Nodup _ => hnd9
        exact hret' ([f], g.fon + 1) _ _ ⟨by rw [hh, if_pos rfl, ← hfb, ← hfp]; rfl, (sep_of_nd (l := (f.ta, g.eob) :: (g.ed, g.eob) :: (g.fo, g.eob) :: (g.oAt g.active, g.eob) :: (g.nd, g.eob) :: (g.hl, g.eob) :: (g.fl, g.eob) :: (g.pl, g.eob) :: (g.od, g.eob) :: (q.x, g.eob) :: (g2.d, g.eob) :: (g2.c, g.eob) :: R4) hnd9).selY 12 [R4] [1, 2, 3, 4, 5, 6, 7, 8, 9, 10, 11, 0, 12] rfl rfl |>.congr rfl⟩ (by k_asm) (News.selY N8 12 [R4] [1, 2, 3, 4, 5, 6, 7, 8, 9, 10, 11, 0, 12] rfl)
      | false =>
        rw [hh] at hih
        refine wpAny_If ?_
        k_steps
        exact hret' ([], g.fon) _ _ ⟨by rw [hh]; rfl, S6⟩ (by k_asm) (by rw [List.append_nil]; k_asm)
    rintro ⟨more, fon2⟩ h6 tk6 ⟨hmore, S7⟩ F6 N8
    clear N7 Ff hih
    dsimp only at hmore S7 N8
    obtain ⟨R5, hR5⟩ : ∃ R5, R5 = tups more ++ R4 := ⟨_, rfl⟩
    rw [← hR5] at N8
    repeat (with_reducible rename List.Nodup _ => hnd9; clear hnd9)
    k_steps
    unfold Halt
    rename News _ _ _ _ => Nf
    rename Fr _ _ _ _ => Ff
    k_dflt (refine ConK.use (c_placesK w _) (by k_asm) Ff (by k_asm) Nf (by k_asm) rfl (by ktr_room) (by ktr_units) ?_)
    intro lp x0 x1 x2 hlt h7 tk7 F7 N9
    clear Ff Nf hlt
    have hit1 := item_place g.active ha3 x0 x1 x2
    k_steps
    · with_reducible rename News h₀ _ _ _ => Nf
      have hk2 := atK_mid (f := fun p => p.challenge (b8 g.count) (g.now + 60)) (hkn ▸ fc.nd) hqp habs2
      have hat2 : ∀ r ∈ pg.known, PG.at (pre ++ g2 :: post) r.x r.place := fun r hr => at_mid hx2 hpl (hkn ▸ ⟨r, hr, rfl, rfl⟩)
      have hmap : (pre ++ g2 :: post).map xref = pg.known.map xref := by rw [hkn, map_xref_mid hx2]
      rw [hR5, hR4, ← hd2, ← hx2] at Nf
      rw [hR4, ← hx2] at S7
      have hW : ∀ Z : Led, W0 w ((({ g with nob := nob2, count := g.count + 1, ct := ct2, eob := ev, forth := g.forth ++ more, fon := fon2 } : NG).setV g.active vv).setQ g.active (g.qAt g.active ++ [(b8 g.count, tb)]) (g.nAt g.active + 1)) { pg with known := pre ++ g2 :: post } Z = ((({ g with nob := nob2, count := g.count + 1, ct := ct2, eob := ev, forth := g.forth ++ more, fon := fon2 } : NG).setV g.active vv).setQ g.active (g.qAt g.active ++ [(b8 g.count, tb)]) (g.nAt g.active + 1)).cells ++ (pg.hdr w ++ (flat w pre ++ (g2.cells w ++ (flat w post ++ Z)))) := fun Z => by
        rw [W0, hdr_known w pg _ hmap, flat_mid, List.append_assoc, List.append_assoc]
      refine hret _ _ _ _ ⟨(({ g with nob := nob2, count := g.count + 1, ct := ct2, eob := ev, forth := g.forth ++ more, fon := fon2 } : NG).setV g.active vv).setQ g.active (g.qAt g.active ++ [(b8 g.count, tb)]) (g.nAt g.active + 1), { pg with known := pre ++ g2 :: post }, more, rfl, rfl, ⟨ok_set ha3 hnet2 hopn ?_, ?_, ?_, ?_, ?_, ?_⟩, (set_nd _ ha3 _ _ _).1, rfl, (set_nd _ ha3 _ _ _).2, ?_⟩ (by k_asm) ?_
      · first | ((with_reducible refine hideW ?_); intro G9 k9; obtain ⟨e0, e1, e2⟩ := setV_congr (g := g) (g1 := { g with nob := nob2, count := g.count + 1, ct := ct2, eob := ev, forth := g.forth ++ more, fon := fon2 }) g.active vv rfl rfl rfl; refine k9 ?_; clear k9 G9) | (obtain ⟨e0, e1, e2⟩ := setV_congr (g := g) (g1 := { g with nob := nob2, count := g.count + 1, ct := ct2, eob := ev, forth := g.forth ++ more, fon := fon2 }) g.active vv rfl rfl rfl)
        rw [e0, e1, e2]; exact hend2
      · rw [LS.asks, hwb, decide_eq_true hw, if_pos rfl, ← st.nabs]
        refine asked_abs g _ ha3 rfl ?_ vv hvv2 tb _
        simp only [NG.abs, List.map_append, hmore]
      · rw [LS.asks, hwb, decide_eq_true hw, if_pos rfl, ← st.nabs, ← st.kabs, hkn]; exact hk2
      · rw [LS.asks, hwb, decide_eq_true hw, if_pos rfl]; exact at_of st.pat hat2
      · rw [LS.asks, hwb, decide_eq_true hw, if_pos rfl]; exact lastOk_of st.lst hat2
      · rw [LS.asks, hwb, decide_eq_true hw, if_pos rfl]; exact st.high
      · rw [hW]
        exact sep_set (g := { g with nob := nob2, count := g.count + 1, ct := ct2, eob := ev, forth := g.forth ++ more, fon := fon2 }) ha3 ((Sep.pre (A := [(g.ed, g.eob), (g.fo, g.eob), (g.oAt g.active, g.eob), (g.nd, g.eob), (g.hl, g.eob), (g.fl, g.eob), (g.pl, g.eob), (g.od, g.eob), (g2.x, g.eob), (g2.d, g.eob), (g2.c, g.eob)]) (A' := [(g.ed, ev), (g.fo, listOf ((g.forth ++ more).map FT.ref).toArray fon2), (g.oAt g.active, bl (g.qAt g.active ++ [(b8 g.count, tb)]) (g.nAt g.active + 1)), (g.nd, nob2), (g.hl, listOf #[.bool g.h0, .bool g.h1, .bool g.h2] g.hn), (g.fl, il g.failed g.fn), (g.pl, il g.proven g.pn), (g.od, g.oob), (g2.x, instObj 121 g2.d), (g2.d, g2.dict w), (g2.c, bl g2.chal g2.ep)]) S7 rfl).selY 11 [tups more, [(g.ol, bl g.over g.on_)], [(g.ba, bl g.back g.ban)], g.oRest g.active, pg.hdr w, flat w pre, flat w post, T0] [3, 4, 5, 12, 6, 7, 0, 1, 13, 2, 14, 15, 16, 8, 9, 10, 17, 11, 18] rfl rfl)
      · rw [hW]
        exact news_set (g := { g with nob := nob2, count := g.count + 1, ct := ct2, eob := ev, forth := g.forth ++ more, fon := fon2 }) ha3 (News.selY Nf 13 [tups more, [(g.ol, bl g.over g.on_)], [(g.ba, bl g.back g.ban)], g.oRest g.active, pg.hdr w, flat w pre, flat w post, T0] [5, 6, 7, 14, 8, 9, 2, 3, 15, 4, 16, 17, 18, 10, 11, 12, 19, 13, 20] rfl)
    · rename (placeStr g.active == placeStr g.active) = false => hb9
      rw [beq_self_eq_true] at hb9
      cases hb9
  · rw [if_neg hw]
    have N3 := News.selY N2 0 [pg.hdr w, flat w pg.known, g.cells, T0] [2, 0, 1, 3] rfl
    obtain ⟨R2, hR2, N4⟩ : ∃ R2, R2 = catB [pg.hdr w, flat w pg.known, T0] ∧ News _ _ h2 (g.cells ++ R2) := ⟨_, rfl, N3⟩
    dsimp only [NG.cells, List.cons_append, List.nil_append] at N4
    clear N2 N3
    k_steps
    unfold Halt
    refine wpAny_If ?_
    k_steps
    rename News _ _ _ _ => Nf
    rw [hR2] at Nf
    refine hret _ _ _ _ ⟨g, pg, [], rfl, rfl, ?_, rfl, rfl, (List.append_nil _).symm, hsep⟩ (by k_asm) (News.selY Nf 13 [pg.hdr w, flat w pg.known, T0] [1, 2, 3, 4, 5, 6, 7, 8, 9, 10, 11, 12, 13, 14, 15] rfl)
    rw [LS.asks, hwb, decide_eq_false hw, if_neg (by decide)]
    exact st

end
theorem back_N9 {M : Model} {A : Around} {E : Value → Shared → Prop} {s : Shared} {Q : Unit → Shared → Prop} (h : wpAny M A (PySem.setItem .none .none .none) Q E s) : wpAny M A (PySem.setItem .none .none .none) Q E s := by first | (walk1; fail) | exact h
section
-- P6
theorem off_P6 : True := by w_top off; trivial
theorem c_ask_again (w : World) (g : PG) (rest : List (Addr × Obj)) (hsep : Sep (g.hdr w ++ (flat w g.known ++ rest))) :
    Con w 202 1 (g.hdr w ++ (flat w g.known ++ rest)) [.ref g.p]
      (fun v news' => ∃ gs : List G, v = .none ∧ news' = ({ g with known := gs } : PG).hdr w ++ (flat w gs ++ rest) ∧ gs.map G.abs = (g.known.map G.abs).map P.again ∧ (∀ q ∈ g.known, PG.at gs q.x q.place) ∧ Sep (({ g with known := gs } : PG).hdr w ++ (flat w gs ++ rest))) := by
  unfold Con; k_fill; intro mean mg mb dep un gd cn cs fa ccd cl outer A₀ base h₀ L m s Q E B F X N T hk hdep hun hret
  obtain ⟨p, dp, kl, al, t0, t1, t2, t3, t4, t5, t6, rlt, known, kn, ax, last, high, hit⟩ := g
  dsimp only [PG.hdr, PG.dict, List.cons_append, List.nil_append] at N hsep
  have hD := Done.zero (f := P.again) (H := [_, _, _]) hsep
  generalize hR : flat w known ++ rest = R at N
  refine wpAny_call ?_; k_dflt ktr_enter
  k_steps
  unfold Halt
  rename Fr _ _ _ _ => lF
  rename News _ _ _ _ => lN
  refine iter_listUnr (by rfl) lF lN (List.Mem.tail _ (List.Mem.tail _ (List.Mem.head _))) rfl rfl ?_
  intro I hI
  refine listRest_of (fun i nw => ∃ done, Done w known P.again [_, _, _] rest i done nw) ?_ ?_ _ ⟨[], by rw [← hR]; exact hD⟩ (List.Mem.tail _ (List.Mem.tail _ (List.Mem.head _))) hI
  · rintro i v it h tk nw hv hc ⟨done, hJ⟩ hl hoff F1 N1
    obtain ⟨q, hq, rfl⟩ := item_xref hv
    have hsep1 : Sep ((I, it) :: nw) := ⟨hoff, hJ.sep⟩
    have heq := hJ.eq
    rw [drop_cons hq, flat_append, flat_cons] at heq
    subst heq
    have N2 := cb_drop N1 (sub_r2 (h := [_, _, _, _]))
    have hsep2 := sep_r2 (h := [_, _, _, _]) hsep1
    clear N1 lN
    generalize hR3 : flat w done ++ (flat w (known.drop (i + 1)) ++ rest) = R3 at N2 hsep2
    have hsep3 := hsep2
    dsimp only [G.cells, G.dict, List.cons_append, List.nil_append] at N2 hsep3
    simp only [List.cons_append, List.nil_append, Sep, List.forall_mem_cons] at hsep3; refine hide ?_; intro G9 k9; obtain ⟨⟨_, _, _, _, _, _, _⟩, ⟨_, _, _, _, _, _⟩, ⟨_, _, _, _, _⟩, ⟨_, _, _, _⟩, ⟨_, _, _⟩, ⟨_, _⟩, _, hsepR⟩ := hsep3; refine k9 ?_; clear k9 G9
    dsimp only [xref] at F1
    k_steps
    unfold Halt
    rename Fr _ _ _ _ => Ff
    rename News _ _ _ _ => Nf
    subst hR3
    have e9 : (q.st.str == Str.ofString "trying") = (q.st == .trying) := by cases q.st <;> decide
    rw [e9] at Nf
    have hs9 := sep_r2' (h := [_, _, _, _]) (c := G.cells w { q with wants := q.st == .trying }) (hsep2.congr rfl)
    refine UnrEnd.intro Ff Nf _ ?_ hs9.1 ⟨.tail _ (.tail _ (.head _)), ⟨_, rfl⟩, done ++ [{ q with wants := q.st == .trying }], hJ.step (g2 := { q with wants := q.st == .trying }) hq rfl rfl rfl hs9.2⟩
    intro q9 hq9
    have h9 := sub_r2' (h := [_, _, _, _]) q9 hq9
    revert h9
    exact (show ∀ q ∈ _, q ∈ _ from by dsimp only [G.cells, G.dict, List.cons_append, List.nil_append]; walk_at "m sub") q9
  · rintro h tk u nw ⟨done, hJ⟩ hl F1 N1
    rw [show (known.map xref).length = known.length from List.length_map ..] at hJ
    have heq := hJ.eq
    rw [List.drop_length, List.append_nil] at heq
    subst heq
    clear lN
    k_steps
    rename News _ _ _ _ => Nf
    have ea := hJ.abs
    have es := hJ.sep
    rw [List.take_length] at ea
    refine hret _ _ _ _ ⟨done, rfl, rfl, ea, hJ.at, ?_⟩ (by k_asm) ?_
    · simp only [PG.hdr, hJ.xref]; exact es
    · simp only [PG.hdr, hJ.xref]; exact Nf

end
section
-- N10
theorem off_N10 : True := by w_top off; trivial
theorem c_endedE (w : World) (g : NG) (ok : g.Ok w) (sm : g.Sm) (rest : Led) (hsep : Sep (g.cells ++ rest)) (a : Nat) (ha : a < 3) (t : Tok) {x : Addr} (hx : g.nd = x) :
    ConK w 273 1 (g.cells ++ rest) [.ref x, .int (a : Int) t] (fun R => ∀ g' : NG, g'.Ok w → g'.abs = g.abs.ended a → g'.nd = x → g'.forth = g.forth → Sep (g'.cells ++ rest) → R .none (g'.cells ++ rest)) := hx ▸ c_endedK w g ok sm rest hsep a ha t
theorem c_on_timeK (w : World) (g : PG) (rest : Led) (hsep : Sep (g.hdr w ++ (flat w g.known ++ rest))) (hl3 : g.known.length ≤ 3) (hrec : ∀ q ∈ g.known, 0 ≤ q.recv ∧ q.recv ≤ 1000000) (hnd : PlacesNd (g.known.map G.abs)) (b : Nat) (hact : PG.at g.known g.ax b) (lastP : Option Nat) (hlast : PG.lastOk g.known g.last lastP) (now : Int) (nt : Tok) {r : Str × Nat} (hr : onTimeP ((g.known.map G.abs).map (P.expire now)) b lastP = r) :
    ConK w 233 2 (g.hdr w ++ (flat w g.known ++ rest)) [.ref g.p, .int now nt] (fun R => ∀ (gs : List G) (ax' : Addr) (t : Tok), gs.map G.abs = (g.known.map G.abs).map (P.expire now) → (∀ q ∈ g.known, PG.at gs q.x q.place) → PG.at gs ax' r.2 → Sep (({ g with known := gs, ax := ax' } : PG).hdr w ++ (flat w gs ++ rest)) → R (.str r.1 t) (({ g with known := gs, ax := ax' } : PG).hdr w ++ (flat w gs ++ rest))) :=
  (c_on_time w g rest hsep hl3 hrec hnd b hact lastP hlast now nt).toK fun R k v n h => h.elim fun gs h => h.elim fun ax' h => h.elim fun t h => by
    have e3 := h.2.2.1
    have h5 := h.2.2.2.2.1
    rw [h.1, h.2.1]
    rw [e3, hr] at h5 ⊢
    exact k gs ax' t e3 h.2.2.2.1 h5 h.2.2.2.2.2
theorem c_ask_againK (w : World) (g : PG) (rest : Led) (hsep : Sep (g.hdr w ++ (flat w g.known ++ rest))) :
    ConK w 202 1 (g.hdr w ++ (flat w g.known ++ rest)) [.ref g.p] (fun R => ∀ gs : List G, gs.map G.abs = (g.known.map G.abs).map P.again → (∀ q ∈ g.known, PG.at gs q.x q.place) → Sep (({ g with known := gs } : PG).hdr w ++ (flat w gs ++ rest)) → R .none (({ g with known := gs } : PG).hdr w ++ (flat w gs ++ rest))) :=
  (c_ask_again w g rest hsep).toK fun R k v n h => h.elim fun gs h => by rw [h.1, h.2.1]; exact k gs h.2.2.1 h.2.2.2.1 h.2.2.2.2
/-- what holds of the net ahead of a turn of the loop -/
structure PassJ (w : World) (x : Addr) (fo : List FT) (nn : LN) (RB : Led) (i : Nat) (g1 : NG) : Prop where
  ok : g1.Ok w
  abs : g1.abs = nn.lapses i
  nd : g1.nd = x
  forth : g1.forth = fo
  sep : Sep (g1.cells ++ RB)
section
variable {prog : Program} {w : World} {A : Around} {E : Value → Shared → Prop} {s : Shared} {env : Env} {h₀ : Heap} {x : Str} {body : List Stmt} {Q : Flow → Shared → Prop}
theorem rangeRest_ofG {γ : Type} (led : γ → Led) {I : Addr} {a : Int} {n : Nat} {m₀ : Str → Option Value} (J : Nat → γ → Prop)
    (turn : ∀ i t it h tk c, i < n → J i c → (∀ p ∈ led c, p.1 ≠ I) → Fr h₀ env.locals h (fun y => if y = x then some (.int (a + (i : Int)) t) else m₀ y) → News h₀ env.locals h ((I, it) :: led c) →
      wpAny (model prog w) A (execs body env) (UnrPost h₀ env.locals { s with heap := h, toks := tk } I it (fun m' n' => (∃ u, m' = fun y => if y = x then u else m₀ y) ∧ ∃ c, n' = led c ∧ J (i + 1) c) Q) E { s with heap := h, toks := tk })
    (done : ∀ h tk u c, J n c → Fr h₀ env.locals h (fun y => if y = x then u else m₀ y) → News h₀ env.locals h (led c) → Q .next { s with heap := h, toks := tk })
    (c0 : γ) (hj : J 0 c0) (hI : ∀ p ∈ led c0, p.1 < I) : RangeRest prog w A E h₀ env x body Q s I a n n 0 m₀ (led c0) :=
  rangeRest_of (fun i nw => ∃ c, nw = led c ∧ J i c) (fun i t it h tk nw hi hJ => hJ.elim fun c hc => by obtain ⟨e, hc⟩ := hc; subst e; exact turn i t it h tk c hi hc)
    (fun h tk u nw hJ => hJ.elim fun c hc => by obtain ⟨e, hc⟩ := hc; subst e; exact done h tk u c hc) (led c0) ⟨c0, rfl, hj⟩ hI
end
theorem c_passes (w : World) (g : NG) (pg : PG) (S : LS) (st : St w g pg S) (T0 : List (Addr × Obj)) (hsep : Sep (W0 w g pg T0)) (hgd : S.Good) (hact : S.n.active = S.act) (wait : Int) (wtk : Tok) (hsm : ∀ k < 4, ((S.n.later wait).lapses k).Sm) (hb3 : (S.passR wait).2 < 3) (hok : S.PassOk wait) :
    Con w 292 3 (W0 w g pg T0) [.ref g.nd, .ref pg.p, .int wait wtk] (PostW w g pg T0 (S.passes wait)) := by
  unfold Con; k_fill; intro mean mg mb dep un gd cn cs fa ccd cl outer A₀ base h₀ L m s Q E B F X N T hk hdep hun hret
  have fc := facts_of st hgd
  have hnet := st.ok.net
  obtain ⟨RB, hRB⟩ : ∃ RB, RB = pg.hdr w ++ (flat w pg.known ++ T0) := ⟨_, rfl⟩
  have hsep0 : Sep (g.cells ++ RB) := by rw [hRB]; exact hsep
  obtain ⟨R0, hR0⟩ : ∃ R0, R0 = g.cells.tail ++ RB := ⟨_, rfl⟩
  have N1 : News h₀ L s.heap ((g.nd, g.nob) :: R0) := by rw [hR0, hRB]; exact N
  have hnd : (g.nd :: R0.map (·.1)).Nodup := by rw [hR0]; exact ndOf hsep0
  clear N
  refine wpAny_call ?_; k_dflt ktr_enter
  k_steps
  unfold Halt
  rename Fr _ _ _ _ => lF
  rename News _ _ _ _ => lN
  rename Obj => nob2
  rename IsRange _ _ _ _ _ _ _ _ => hrg
  obtain ⟨wt2, hnet2⟩ : ∃ wt2, nob2.IsDictOf (strKind PR w) ({ g with nob := nob2, now := g.now + wait, wt := wt2 } : NG).kvs := ⟨_, by assumption⟩
  rw [hR0] at lN
  obtain ⟨g0, hg0, N2, S2⟩ : ∃ g0 : NG, g0 = { g with nob := nob2, now := g.now + wait, wt := wt2 } ∧ News _ _ _ (g0.cells ++ RB) ∧ Sep (g0.cells ++ RB) := ⟨_, rfl, lN, hsep0.congr rfl⟩
  have J0 : PassJ w g.nd g.forth (S.n.later wait) RB 0 g0 := ⟨by rw [hg0]; exact ⟨hnet2, st.ok.opn, st.ok.end_⟩, by rw [hg0, ← st.nabs]; rfl, by rw [hg0], by rw [hg0], S2⟩
  clear hg0 hnet2 lN S2
  refine iter_rangeUnr (n := 3) (by rfl) hrg (by decide) (by decide) lF N2 ?_
  clear N2 lF hrg
  intro I hI
  refine rangeRest_ofG (fun g1 : NG => g1.cells ++ RB) (PassJ w g.nd g.forth (S.n.later wait) RB) ?_ ?_ g0 J0 hI
  · clear hI J0
    intro i t it h tk g1 hi J1 hoff F1 N1
    (try dsimp only at hoff N1)
    rw [Int.zero_add] at F1
    have sm1 := sm_of J1.abs (hsm i (by omega))
    have hnet1 := J1.ok.net
    have hend1 := J1.ok.end_
    have hva := val_v g1 hi
    have hstep : (S.n.later wait).lapses (i + 1) = g1.abs.lapse i := by rw [J1.abs]; rfl
    unfold LN.lapse at hstep
    rw [end_at g1 hi] at hstep
    obtain ⟨RT, hRT, N2⟩ : ∃ RT, RT = _ ∧ News _ _ _ ((I, it) :: (g1.nd, g1.nob) :: (g1.ed, g1.eob) :: RT) := ⟨_, rfl, News.selY N1 13 [RB] [0, 1, 10, 2, 3, 4, 5, 6, 7, 8, 9, 11, 12, 13] rfl⟩
    rw [J1.nd] at N2
    clear hRT
    rcases hvi : g1.vAt i with _ | ⟨d, dt⟩
    · rw [hvi] at hva hstep
      dsimp only [deadV] at hva
      k_steps
      unfold Halt
      exact UnrEnd.intro F1 N1 _ (fun _ h => h) hoff ⟨⟨_, rfl⟩, g1, rfl, ⟨J1.ok, hstep.symm, J1.nd, J1.forth, J1.sep⟩⟩
    · rw [hvi] at hva hstep
      dsimp only [deadV] at hva
      k_steps
      · unfold Halt
        have hle : d ≤ g1.now := by assumption
        have S3 : Sep (g1.cells ++ ((I, it) :: RB)) := Sep.selY (Y := (I, it) :: (g1.cells ++ RB)) ⟨hoff, J1.sep⟩ 13 [RB] [1, 2, 3, 4, 5, 6, 7, 8, 9, 10, 11, 12, 0, 13] rfl rfl
        k_dflt (refine ConK.use (c_endedE w g1 J1.ok sm1 _ S3 i hi _ J1.nd) (by k_asm) F1 (by k_asm) (News.selY N1 13 [RB] [1, 2, 3, 4, 5, 6, 7, 8, 9, 10, 11, 12, 0, 13] rfl) (by k_asm) rfl (by ktr_room) (by ktr_units) ?_)
        intro g2 ok2 ab2 nd2 fo2 sp2 h2 tk2 F2 N3
        clear F1 N1 N2 S3 hnet1 hend1 hva hvi
        have hf2 : g2.failed.map (·.1) = g1.failed.map (·.1) := congrArg LN.failed ab2
        have hl2 : g2.failed.length ≤ 1000 := by have h9 := congrArg List.length hf2; rw [List.length_map, List.length_map] at h9; exact h9 ▸ sm1.failed
        have hnet2 := ok2.net
        obtain ⟨RU, hRU, N4, S4⟩ : ∃ RU, RU = _ ∧ News _ _ _ ((g2.nd, g2.nob) :: (g2.fl, il g2.failed g2.fn) :: RU) ∧ Sep ((g2.nd, g2.nob) :: (g2.fl, il g2.failed g2.fn) :: RU) := ⟨_, rfl, News.selY N3 13 [RB] [0, 2, 1, 3, 4, 5, 6, 7, 8, 9, 10, 11, 12, 13] rfl, Sep.selY sp2 13 [RB] [0, 2, 1, 3, 4, 5, 6, 7, 8, 9, 10, 11, 12, 13] rfl rfl⟩
        rw [nd2] at N4 S4
        have hnd := ndOf S4
        dsimp only [List.map] at hnd
        clear N3
        k_steps
        unfold Halt
        rename Fr _ _ _ _ => Ff
        rename News _ _ _ _ => Nf
        rw [push_ival, hRU] at Nf
        rw [hRU] at S4
        obtain ⟨t9, g3, hg3, N5, S5⟩ : ∃ (t9 : Tok) (g3 : NG), g3 = { g2 with nd := g.nd, failed := g2.failed ++ [((i : Int), t9)], fn := g2.fn + 1 } ∧ News _ _ _ ((I, it) :: (g3.cells ++ RB)) ∧ Sep ((I, it) :: (g3.cells ++ RB)) :=
          ⟨_, _, rfl, News.selY Nf 13 [RB] [12, 0, 2, 1, 3, 4, 5, 6, 7, 8, 9, 10, 11, 13] rfl, (S4.selY 13 [RB] [12, 0, 2, 1, 3, 4, 5, 6, 7, 8, 9, 10, 11, 13] rfl rfl).congr rfl⟩
        refine UnrEnd.intro Ff N5 _ (fun _ h => h) S5.1 ⟨⟨_, rfl⟩, g3, rfl, ⟨by rw [hg3]; exact ⟨hnet2, ok2.opn, ok2.end_⟩, ?_, by rw [hg3], by rw [hg3]; exact fo2.trans J1.forth, S5.2⟩⟩
        rw [hstep, hg3]
        show _ = if d ≤ g1.now then _ else _
        rw [if_pos hle, ← ab2]
        simp only [NG.abs, fsts, List.map_append, List.map_cons, List.map_nil, hf2]
      · unfold Halt
        have hle : ¬ d ≤ g1.now := by assumption
        exact UnrEnd.intro F1 N1 _ (fun _ h => h) hoff ⟨⟨_, rfl⟩, g1, rfl, ⟨J1.ok, (hstep.trans (if_neg hle)).symm, J1.nd, J1.forth, J1.sep⟩⟩
  · clear J0 hI
    intro h tk u g1 J1 F1 N1
    (try dsimp only at N1)
    first | ((with_reducible refine hideW ?_); intro G9 k9; obtain ⟨e1, e2, e3, e4⟩ := lapses_now (S.n.later wait) 3; refine k9 ?_; clear k9 G9) | (obtain ⟨e1, e2, e3, e4⟩ := lapses_now (S.n.later wait) 3)
    rw [← J1.abs] at e1 e2 e4
    have hps : onTimeP ((pg.known.map G.abs).map (P.expire g1.now)) S.act S.last = S.passR wait := by
      rw [st.kabs]
      unfold LS.passR
      rw [show g1.now = S.n.now + wait from e1]
    have sm1 := sm_of J1.abs (hsm 3 (by omega))
    have hnet1 := J1.ok.net
    have hfl : g1.failed.length ≤ 1000 := sm1.failed
    have hprl : g1.proven.length ≤ 1000 := sm1.proven
    have sp1 := J1.sep
    rw [hRB] at N1 sp1
    obtain ⟨Z, hZ, N2, S2⟩ : ∃ Z, Z = catB ([1, 3, 5, 6, 7, 8, 9, 10, 11, 12].map (nthB (headB 12 (g1.cells ++ T0) [T0]))) ∧ News _ _ _ ((g1.nd, g1.nob) :: (g1.fl, il g1.failed g1.fn) :: (g1.pl, il g1.proven g1.pn) :: (pg.hdr w ++ (flat w pg.known ++ Z))) ∧ Sep ((g1.nd, g1.nob) :: (g1.fl, il g1.failed g1.fn) :: (g1.pl, il g1.proven g1.pn) :: (pg.hdr w ++ (flat w pg.known ++ Z))) :=
      ⟨_, rfl, News.selY N1 12 [pg.hdr w, flat w pg.known, T0] [0, 2, 4, 12, 13, 1, 3, 5, 6, 7, 8, 9, 10, 11, 14] rfl, Sep.selY sp1 12 [pg.hdr w, flat w pg.known, T0] [0, 2, 4, 12, 13, 1, 3, 5, 6, 7, 8, 9, 10, 11, 14] rfl rfl⟩
    rw [J1.nd] at N2 S2
    clear N1 sp1
    (try dsimp only [PG.hdr, PG.dict, List.cons_append, List.nil_append] at N2)
    k_steps
    unfold Halt
    rename Fr _ _ _ _ => Ff
    rename News _ _ _ _ => Nf
    k_dflt (refine ConK.use (c_on_timeK w pg (_ :: _ :: _ :: Z) (S2.selY 6 [flat w pg.known, Z] [3, 4, 5, 6, 0, 1, 2, 7] rfl rfl) fc.len fc.rcv fc.nd S.act st.pat S.last st.lst g1.now _ hps) (by k_asm) Ff (by k_asm) (News.selY Nf 6 [flat w pg.known, Z] [3, 4, 5, 6, 0, 1, 2, 7] rfl) (by k_asm) rfl (by ktr_room) (by ktr_units) ?_)
    intro gs ax' tt hgs hat hax S3 h2 tk2 F2 N3
    clear Nf Ff S2
    have N4 : News _ _ _ (_ :: _ :: _ :: _ :: _ :: _ :: (flat w gs ++ Z)) := News.selY N3 3 [flat w gs, [_], [_], [_], Z] [4, 5, 6, 0, 1, 2, 3, 7] rfl
    clear N3
    (try dsimp only [PG.dict] at N4)
    k_steps
    unfold Halt
    rename Fr _ _ _ _ => Ff
    rename News _ _ _ _ => Nf
    k_dflt (refine ConK.use (c_ask_againK w { pg with known := gs, ax := ax' } _ S3) (by k_asm) Ff (by k_asm) (News.selY Nf 7 [flat w gs, Z] [4, 5, 6, 7, 1, 2, 3, 8] rfl) (by k_asm) rfl (by ktr_room) (by ktr_units) ?_)
    intro gs2 hgs2 hat2 S4 h3 tk3 F3 N5
    clear Nf Ff S3
    first | ((with_reducible refine hideW ?_); intro G9 k9; obtain ⟨qa, hqa, hqax, hqap⟩ := at_of hax hat2; refine k9 ?_; clear k9 G9) | (obtain ⟨qa, hqa, hqax, hqap⟩ := at_of hax hat2)
    rw [← hqax] at N5 S4
    have hal : ∀ r ∈ pg.known, PG.at gs2 r.x r.place := fun r hr => at_of (hat r hr) hat2
    have hl2 := lastOk_of st.lst hal
    have hps2 : gs2.map G.abs = (S.ps.map (P.expire (S.n.now + wait))).map P.again := by rw [hgs2, hgs, st.kabs, show g1.now = S.n.now + wait from e1]
    have hqb : qa.place < 3 := by rw [hqap]; exact hb3
    first | ((with_reducible refine hideW ?_); intro G9 k9; obtain ⟨pre, post, hkn⟩ := List.append_of_mem hqa; refine k9 ?_; clear k9 G9) | (obtain ⟨pre, post, hkn⟩ := List.append_of_mem hqa)
    have hf : ∀ Y, flat w gs2 ++ Y = flat w pre ++ (qa.cells w ++ (flat w post ++ Y)) := fun Y => by rw [hkn, flat_mid, List.append_assoc, List.append_assoc]
    rw [hf] at N5 S4
    obtain ⟨R6, hR6, N6, S6⟩ : ∃ R6, R6 = catB [flat w pre, flat w post, Z] ∧ News _ _ _ (_ :: _ :: _ :: (qa.cells w ++ (({ pg with known := gs2, ax := qa.x } : PG).hdr w ++ R6))) ∧ Sep (_ :: _ :: _ :: (qa.cells w ++ (({ pg with known := gs2, ax := qa.x } : PG).hdr w ++ R6))) :=
      ⟨_, rfl, News.selY N5 3 [flat w pre, qa.cells w, flat w post, [_], [_], [_], Z] [6, 7, 8, 4, 0, 1, 2, 3, 5, 9] rfl, Sep.selY S4 3 [flat w pre, qa.cells w, flat w post, [_], [_], [_], Z] [6, 7, 8, 4, 0, 1, 2, 3, 5, 9] rfl rfl⟩
    clear N5 S4
    have hnd := ndOf S6
    dsimp only [G.cells, PG.hdr, List.cons_append, List.nil_append, List.map] at hnd
    dsimp only [G.cells, G.dict, PG.hdr, PG.dict, List.cons_append, List.nil_append] at N6
    have hok' := hok
    unfold LS.PassOk at hok'
    rw [show S.passN wait = (S.n.later wait).lapses 3 from rfl, ← J1.abs, show g1.abs.failed = fsts g1.failed from rfl, show S.n.active = g1.active from e2.symm, show S.n.proven = fsts g1.proven from e4.symm] at hok'
    have fin : ∀ (h' : Heap) (tk' : Nat) (nob3 : Obj) (a9 : Nat) (t9 : Tok), nob3.IsDictOf (strKind PR w) ({ g1 with nob := nob3, active := a9, at_ := t9 } : NG).kvs → a9 = (if (g1.active : Int) ∈ fsts g1.failed then (S.passR wait).2 else g1.active) → Fr h₀ L h' m → News h₀ L h' (catB ([[(g.nd, nob3)], [(g1.fl, il g1.failed g1.fn)], [(g1.pl, il g1.proven g1.pn)], qa.cells w, ({ pg with known := gs2, ax := qa.x } : PG).hdr w, R6])) → Q (.bool true) { s with heap := h', toks := tk' } := by
      intro h' tk' nob3 a9 t9 hd9 ea F' N'
      rw [hR6, hZ] at N'
      have N8 : News _ _ _ (({ g1 with nd := g.nd, nob := nob3, active := a9, at_ := t9 } : NG).cells ++ (({ pg with known := gs2, ax := qa.x } : PG).hdr w ++ (flat w pre ++ (qa.cells w ++ (flat w post ++ T0))))) :=
        News.selY N' 3 ([qa.cells w, ({ pg with known := gs2, ax := qa.x } : PG).hdr w, flat w pre, flat w post] ++ [1, 3, 5, 6, 7, 8, 9, 10, 11, 12].map (nthB (headB 12 (g1.cells ++ T0) [T0]))) [0, 7, 1, 8, 2, 9, 10, 11, 12, 13, 14, 15, 4, 5, 3, 6, 16] rfl
      have S7 := S6
      rw [hR6, hZ] at S7
      have S8 : Sep (({ g1 with nd := g.nd, nob := nob3, active := a9, at_ := t9 } : NG).cells ++ (({ pg with known := gs2, ax := qa.x } : PG).hdr w ++ (flat w pre ++ (qa.cells w ++ (flat w post ++ T0))))) :=
        (Sep.selY S7 3 ([qa.cells w, ({ pg with known := gs2, ax := qa.x } : PG).hdr w, flat w pre, flat w post] ++ [1, 3, 5, 6, 7, 8, 9, 10, 11, 12].map (nthB (headB 12 (g1.cells ++ T0) [T0]))) [0, 7, 1, 8, 2, 9, 10, 11, 12, 13, 14, 15, 4, 5, 3, 6, 16] rfl rfl).congr rfl
      rw [← hf] at N8 S8
      refine hret _ _ _ _ ⟨{ g1 with nd := g.nd, nob := nob3, active := a9, at_ := t9 }, { pg with known := gs2, ax := qa.x }, rfl, rfl, ⟨⟨hd9, J1.ok.opn, J1.ok.end_⟩, ?_, hps2, ⟨qa, hqa, rfl, hqap⟩, hl2, st.high⟩, rfl, rfl, J1.forth, S8⟩ F' N8
      show _ = ({ S.passN wait with active := _ } : LN)
      rw [show S.passN wait = (S.n.later wait).lapses 3 from rfl, ← J1.abs, show S.n.active = g1.active from e2.symm, ea]
      rfl
    clear hret hgs hgs2 hal hat hat2 hax hps hps2 hl2 S6
    by_cases hin : (g1.active : Int) ∈ fsts g1.failed
    · have hin9 := any_ints hin
      rw [if_pos hin] at hok'
      by_cases hpe : g1.proven = []
      · have hpe9 : (List.map ival g1.proven).isEmpty = true := by rw [hpe]; rfl
        rw [if_pos (by rw [hpe]; rfl)] at hok'
        rw [hok'] at F3
        k_steps
        unfold Halt
        rename Fr _ _ _ _ => Ff
        rename News _ _ _ _ => Nf
        k_dflt (refine ConK.use (c_placesM w _) (by k_asm) Ff (by k_asm) Nf (by k_asm) rfl (by ktr_room) (by ktr_units) ?_)
        intro lp x0 x1 x2 hlt h5 tk5 F5 N7
        clear Nf Ff
        with_reducible rename List.Nodup _ => hnd9
        have hnd := ndC hlt hnd9 rfl
        clear hnd9 hlt
        k_steps
        with_reducible rename News h₀ _ _ _ => Nf
        rename Obj => nob3
        exact fin _ _ nob3 qa.place _ (by assumption) (by rw [if_pos hin, hqap]) (by k_asm) (cb_drop Nf (fun q hq => .tail _ (.tail _ hq)))
      · have hpe9 : (List.map ival g1.proven).isEmpty = false := by simpa using hpe
        rw [if_neg (by simpa [fsts] using hpe)] at hok'
        first | ((with_reducible refine hideW ?_); intro G9 k9; obtain ⟨hr1, hpm⟩ := hok'; refine k9 ?_; clear k9 G9) | (obtain ⟨hr1, hpm⟩ := hok')
        rw [← hqap] at hpm
        have hpm9 := any_ints hpm
        rw [hr1] at F3
        k_steps
        unfold Halt
        rename Fr _ _ _ _ => Ff
        rename News _ _ _ _ => Nf
        k_dflt (refine ConK.use (c_placesM w _) (by k_asm) Ff (by k_asm) Nf (by k_asm) rfl (by ktr_room) (by ktr_units) ?_)
        intro lp x0 x1 x2 hlt h5 tk5 F5 N7
        clear Nf Ff
        with_reducible rename List.Nodup _ => hnd9
        have hnd := ndC hlt hnd9 rfl
        clear hnd9 hlt
        k_steps
        with_reducible rename News h₀ _ _ _ => Nf
        rename Obj => nob3
        exact fin _ _ nob3 qa.place _ (by assumption) (by rw [if_pos hin, hqap]) (by k_asm) (cb_drop Nf (fun q hq => .tail _ (.tail _ hq)))
    · have hin9 := any_intsN hin
      rw [if_neg hin] at hok'
      rw [hok'] at F3
      k_steps
      with_reducible rename News h₀ _ _ _ => Nf
      exact fin _ _ g1.nob g1.active g1.at_ hnet1 (if_neg hin).symm (by k_asm) Nf

end
section
-- N12
theorem off_N12 : True := by w_top off; trivial
theorem tups_append (a b : List FT) : tups (a ++ b) = tups a ++ tups b := by simp [tups]
theorem postL_of {w : World} {g : NG} {pg : PG} {c : CG} {rest : List (Addr × Obj)} {S : LS} {v : Value} {nw : List (Addr × Obj)} (h : PostW w g pg (c.cells w ++ (tups g.forth ++ rest)) S v nw) : PostL w g pg c rest S v nw := by
  obtain ⟨g', pg', rfl, rfl, st, e1, e2, e3, sp⟩ := h
  rw [← e3] at sp ⊢
  exact ⟨g', pg', c.n, rfl, rfl, st, e1, e2, sp⟩
theorem postL_ofK {w : World} {g g' : NG} {pg pg' : PG} {c : CG} {rest : Led} {S : LS} (st : St w g' pg' S) (e1 : g'.nd = g.nd) (e2 : pg'.p = pg.p) (e3 : g'.forth = g.forth) (sp : Sep (W0 w g' pg' (c.cells w ++ (tups g.forth ++ rest)))) : PostL w g pg c rest S (.bool true) (W0 w g' pg' (c.cells w ++ (tups g.forth ++ rest))) :=
  postL_of ⟨g', pg', rfl, rfl, st, e1, e2, e3, sp⟩
/-- more tuples on the line -/
theorem asked_wl {w : World} {h₀ h : Heap} {L : Addr} {g g1 : NG} {pg : PG} {c : CG} {more : List FT} {rest : Led} (e : g.forth = g1.forth ++ more) (N : News h₀ L h (W0 w g pg (tups more ++ (c.cells w ++ (tups g1.forth ++ rest))))) (S : Sep (W0 w g pg (tups more ++ (c.cells w ++ (tups g1.forth ++ rest))))) : News h₀ L h (WL w g pg c rest) ∧ Sep (WL w g pg c rest) := by
  have ht : ∀ R, tups g.forth ++ R = tups g1.forth ++ (tups more ++ R) := fun R => by rw [e, tups_append, List.append_assoc]
  unfold WL W0
  rw [ht]
  exact ⟨News.selY N 0 [g.cells, pg.hdr w, flat w pg.known, tups more, c.cells w, tups g1.forth, rest] [0, 1, 2, 4, 5, 3, 6] rfl, S.selY 0 [g.cells, pg.hdr w, flat w pg.known, tups more, c.cells w, tups g1.forth, rest] [0, 1, 2, 4, 5, 3, 6] rfl rfl⟩
theorem deed_front {w : World} {h₀ h : Heap} {L : Addr} {g : NG} {pg : PG} {c : CG} {rest : Led} (N : News h₀ L h (WL w g pg c rest)) :
    ∃ R, News h₀ L h ((g.nd, g.nob) :: (g.fo, listOf (g.forth.map FT.ref).toArray g.fon) :: (g.ba, bl g.back g.ban) :: R) ∧ ∀ h₀ h L, News h₀ L h ((g.nd, g.nob) :: (g.fo, listOf (g.forth.map FT.ref).toArray g.fon) :: (g.ba, bl g.back g.ban) :: R) → News h₀ L h (WL w g pg c rest) :=
  ⟨_, News.selY N 12 [pg.hdr w, flat w pg.known, c.cells w, tups g.forth, rest] [0, 10, 11, 1, 2, 3, 4, 5, 6, 7, 8, 9, 12, 13, 14, 15, 16] rfl,
    fun _ _ _ N => News.selY N 12 [pg.hdr w, flat w pg.known, c.cells w, tups g.forth, rest] [0, 3, 4, 5, 6, 7, 8, 9, 10, 11, 1, 2, 12, 13, 14, 15, 16] rfl⟩
theorem ConK.at2 {w : World} {f : Addr} {dd : Nat} {news : Led} {a b a' b' : Addr} {r : List Value} {K : (Value → Led → Prop) → Prop} (h : ConK w f dd news (.ref a :: .ref b :: r) K) (ea : a = a') (eb : b = b') : ConK w f dd news (.ref a' :: .ref b' :: r) K := by subst ea; subst eb; exact h
theorem ConK.at1 {w : World} {f : Addr} {dd : Nat} {news : Led} {a a' : Addr} {r : List Value} {K : (Value → Led → Prop) → Prop} (h : ConK w f dd news (.ref a :: r) K) (ea : a = a') : ConK w f dd news (.ref a' :: r) K := by subst ea; exact h
theorem c_challenge_comesK (w : World) (g : NG) (ok : g.Ok w) (sm : g.Sm) (c : CG) (pg : PG) (rest : Led) (hsep : Sep (WL w g pg c rest)) (hpos : 0 < g.forth.length) (pick : Int) (pt : Tok) :
    ConK w 280 2 (WL w g pg c rest) [.ref g.nd, .ref c.p, .int pick pt] (fun R => ∀ (g' : NG) (n' : Nat), g'.Ok w → g'.abs = g.abs.challengeComes pick → g'.nd = g.nd → Sep (WL w g' pg { c with n := n' } rest) → R (.bool true) (WL w g' pg { c with n := n' } rest)) :=
  (Con.conv (c_challenge_comes w g ok sm c (pg.hdr w ++ (flat w pg.known ++ rest)) (hsep.selY 0 [g.cells, pg.hdr w, flat w pg.known, c.cells w, tups g.forth, rest] [0, 3, 4, 1, 2, 5] rfl rfl) hpos pick pt)
    (sel_sub [g.cells, pg.hdr w, flat w pg.known, c.cells w, tups g.forth, rest] [0, 3, 4, 1, 2, 5])
    (Post2 := fun v n => ∃ (g' : NG) (n' : Nat), v = .bool true ∧ n = WL w g' pg { c with n := n' } rest ∧ g'.Ok w ∧ g'.abs = g.abs.challengeComes pick ∧ g'.nd = g.nd ∧ Sep (WL w g' pg { c with n := n' } rest))
    (fun v n h => h.elim fun g' h => h.elim fun n' h => ⟨_, fun q hq => h.2.1 ▸ sel_sub [g'.cells, ({ c with n := n' } : CG).cells w, tups g'.forth, pg.hdr w, flat w pg.known, rest] [0, 3, 4, 1, 2, 5] q hq, g', n', h.1, rfl, h.2.2.1, h.2.2.2.1, h.2.2.2.2.1, h.2.2.2.2.2.selY 0 [g'.cells, ({ c with n := n' } : CG).cells w, tups g'.forth, pg.hdr w, flat w pg.known, rest] [0, 3, 4, 1, 2, 5] rfl rfl⟩)).toK
    fun R k v n h => h.elim fun g' h => h.elim fun n' h => by rw [h.1, h.2.1]; exact k g' n' h.2.2.1 h.2.2.2.1 h.2.2.2.2.1 h.2.2.2.2.2
theorem cutR {M : Model} {A : Around} {t : Sem Flow} {Q : Flow → Shared → Prop} {E : Value → Shared → Prop} {s : Shared} {h₀ : Heap} {L : Addr} {m : Str → Option Value} {news : Led} (_N : News h₀ L s.heap news) (_F : Fr h₀ L s.heap m) (P : Prop) (led : Led)
    (hw : ∀ Q' : Flow → Shared → Prop, (∀ h' tk', P → Fr h₀ L h' m → News h₀ L h' led → Q' .next { s with heap := h', toks := tk' }) → (∀ v s', Q (.ret v) s' → Q' (.ret v) s') → wpAny M A t Q' E s)
    (hr : ∀ h' tk', P → Fr h₀ L h' m → News h₀ L h' led → Q .next { s with heap := h', toks := tk' }) : wpAny M A t Q E s := hw Q hr fun _ _ h => h
local macro_rules | `(tactic| walk_at "exec If") => `(tactic| ((with_reducible show wpAny _ _ (exec (Stmt.If (Expr.BoolOp BoolOp.And _ _) _ _ _) _) _ _ _); refine halt ?_))
theorem c_deed (w : World) (g : NG) (pg : PG) (c : CG) (S : LS) (st : St w g pg S) (rest : List (Addr × Obj)) (hsep : Sep (WL w g pg c rest)) (rd : S.Ready) (form pick : Int) (ft pt : Tok) (hform : form = 0 ∨ form = 1 ∨ form = 2 ∨ form = 3 ∨ form = 4 ∨ form = 5) :
    Con w 318 5 (WL w g pg c rest) [.ref g.nd, .ref pg.p, .ref c.p, .int form ft, .int pick pt] (PostL w g pg c rest (S.deed form pick)) := by
  unfold Con; k_fill; intro mean mg mb dep un gd cn cs fa ccd cl outer A₀ base h₀ L m s Q E B F X N T hk hdep hun hret
  have hnet := st.ok.net
  have hsm := sm_of st.nabs rd.good.sm
  have hz7 := hsm.forth
  have hz8 := hsm.back
  have ef : g.forth.length = S.n.forth.length := by rw [← st.nabs]; simp [NG.abs]
  have eb : g.back.length = S.n.back.length := by rw [← st.nabs]; simp [NG.abs, fsts]
  have hfe : (g.forth.map FT.ref).isEmpty = S.n.forth.isEmpty := by rw [List.isEmpty_map, ← st.nabs]; simp only [NG.abs, List.isEmpty_map]
  have hbe : (g.back.map bval).isEmpty = S.n.back.isEmpty := by rw [List.isEmpty_map, ← st.nabs]; simp only [NG.abs, fsts, List.isEmpty_map]
  first | ((with_reducible refine hideW ?_); intro G9 k9; obtain ⟨R, N1, hb⟩ := deed_front N; refine k9 ?_; clear k9 G9) | (obtain ⟨R, N1, hb⟩ := deed_front N)
  clear N
  refine wpAny_call ?_; k_dflt ktr_enter
  k_steps
  unfold Halt
  rename Fr _ _ _ _ => Ff
  rename News _ _ _ _ => Nf
  refine cutR Nf Ff (form = 0 → S.n.forth.isEmpty = true) ((g.nd, g.nob) :: (g.fo, listOf (g.forth.map FT.ref).toArray g.fon) :: (g.ba, bl g.back g.ban) :: R) ?_ ?_
  · intro Q' hQn hQr
    refine wpAny_If ?_
    k_steps
    · rename News _ _ _ _ => Nf
      exact hQn _ _ (fun _ => by assumption) (by k_asm) (cb_drop Nf (by walk_at "m tails"))
    · have hfo : S.n.forth.isEmpty = false := by assumption
      have h9 : S.n.forth ≠ [] := fun h => by rw [h] at hfo; cases hfo
      have hd9 : S.deed form pick = S.comes pick := by simp only [LS.deed, *, if_true, if_false, reduceIte]
      rw [hd9] at hret
      unfold Halt
      rename News _ _ _ _ => Nf
      rename Fr _ _ _ _ => Ff
      k_dflt (refine ConK.use (c_challenge_comesK w g st.ok hsm c pg rest hsep (by rw [ef]; exact List.length_pos_iff.mpr h9) pick _) (by k_asm) Ff (by k_asm) (hb _ _ _ (cb_drop Nf (by walk_at "m tails"))) (by k_asm) rfl (by ktr_room) (by ktr_units) ?_)
      intro g' n' ok' e1 e2 sp h3 tk3 F3 N3
      clear Nf Ff
      k_steps
      refine hQr _ _ ?_
      k_steps
      with_reducible rename News h₀ _ _ _ => Nf
      exact hret _ _ _ _ ⟨g', pg, n', rfl, rfl, ⟨ok', e1.trans (by rw [st.nabs]; rfl), st.kabs, st.pat, st.lst, st.high⟩, e2, rfl, sp⟩ (by k_asm) Nf
    · exact hQn _ _ (fun h => absurd h (by assumption)) (by k_asm) (by k_asm)
  · intro h2 tk2 hP F2 N2
    clear Nf Ff N1
    have hw : (0 : Int) ≤ 10 + 10 * pick.fmod 4 := Int.add_nonneg (by decide) (Int.mul_nonneg (by decide) (Int.fmod_nonneg_of_pos pick (by decide)))
    k_steps
    · have hd9 : S.deed form pick = S.passes (10 + 10 * pick.fmod 4) := by simp only [LS.deed, *, if_true, if_false, reduceIte, Int.reduceEq]
      rw [hd9] at hret
      unfold Halt
      rename News _ _ _ _ => Nf
      rename Fr _ _ _ _ => Ff
      k_dflt (refine ConK.use ((c_passes w g pg S st _ hsep rd.good rd.act _ _ (rd.psm _ hw) (rd.p3 _ hw) (rd.pok _ hw)).toKW) (by k_asm) Ff (by k_asm) (hb _ _ _ (cb_drop Nf (by walk_at "m tails"))) (by k_asm) rfl (by ktr_room) (by ktr_units) ?_)
      intro g' pg' st' e1 e2 e3 sp h3 tk3 F3 N3
      clear Nf Ff
      k_steps
      with_reducible rename News h₀ _ _ _ => Nf
      exact hret _ _ _ _ (postL_ofK st' e1 e2 e3 sp) (by k_asm) Nf
    · have hd9 : S.deed form pick = S.asks := by simp only [LS.deed, *, if_true, if_false, reduceIte, Int.reduceEq]
      rw [hd9] at hret
      unfold Halt
      rename News _ _ _ _ => Nf
      rename Fr _ _ _ _ => Ff
      k_dflt (refine ConK.use ((c_asks w g pg S st _ hsep rd.good rd.act rd.act3 rd.c0 rd.c1 rd.free).toKA) (by k_asm) Ff (by k_asm) (hb _ _ _ (cb_drop Nf (by walk_at "m tails"))) (by k_asm) rfl (by ktr_room) (by ktr_units) ?_)
      intro g' pg' more st' e1 e2 e3 sp h3 tk3 F3 N3
      clear Nf Ff
      k_steps
      with_reducible rename News h₀ _ _ _ => Nf
      exact hret _ _ _ _ ⟨g', pg', c.n, rfl, rfl, st', e1, e2, (asked_wl e3 Nf sp).2⟩ (by k_asm) (asked_wl e3 Nf sp).1
    · have hd9 : S.deed form pick = S.moves ((pick.fdiv 3).fmod 3).toNat := by simp only [LS.deed, *, if_true, if_false, reduceIte, Int.reduceEq]
      rw [hd9] at hret
      have hv := Int.fmod_nonneg_of_pos (pick.fdiv 3) (b := 3) (by decide)
      have hlt9 : ((pick.fdiv 3).fmod 3).toNat < 3 := (Int.toNat_lt hv).mpr (Int.fmod_lt_of_pos (pick.fdiv 3) (b := 3) (by decide))
      rw [(Int.toNat_of_nonneg hv).symm]
      unfold Halt
      rename News _ _ _ _ => Nf
      rename Fr _ _ _ _ => Ff
      k_dflt (refine ConK.use ((c_moves w g pg S st _ hsep rd.good _ hlt9 _ rd.act rd.num).toKW) (by k_asm) Ff (by k_asm) (hb _ _ _ (cb_drop Nf (by walk_at "m tails"))) (by k_asm) rfl (by ktr_room) (by ktr_units) ?_)
      intro g' pg' st' e1 e2 e3 sp h3 tk3 F3 N3
      clear Nf Ff
      k_steps
      with_reducible rename News h₀ _ _ _ => Nf
      exact hret _ _ _ _ (postL_ofK st' e1 e2 e3 sp) (by k_asm) Nf
    · have hd9 : S.deed form pick = S := by simp only [LS.deed, *, if_true, if_false, reduceIte, Int.reduceEq]
      rw [hd9] at hret
      unfold Halt
      rename News _ _ _ _ => Nf
      rename Fr _ _ _ _ => Ff
      k_dflt (refine ConK.use ((c_lies w g pg S st _ hsep rd.good _ _ rd.c0 rd.c1 rd.lie).toKW) (by k_asm) Ff (by k_asm) (hb _ _ _ (cb_drop Nf (by walk_at "m tails"))) (by k_asm) rfl (by ktr_room) (by ktr_units) ?_)
      intro g' pg' st' e1 e2 e3 sp h3 tk3 F3 N3
      clear Nf Ff
      k_steps
      with_reducible rename News h₀ _ _ _ => Nf
      exact hret _ _ _ _ (postL_ofK st' e1 e2 e3 sp) (by k_asm) Nf
    · have h0 : form = 0 := by assumption
      have h9 : S.n.forth = [] := List.isEmpty_iff.mp (hP h0)
      have hd9 : S.deed form pick = S := by simp only [LS.deed, h0, h9, if_true, reduceIte]
      rw [hd9] at hret
      with_reducible rename News h₀ _ _ _ => Nf
      rw [show (form == 0) = true from beq_iff_eq.mpr h0]
      exact hret _ _ _ _ ⟨g, pg, c.n, rfl, rfl, st, rfl, rfl, hsep⟩ (by k_asm) (hb _ _ _ Nf)
    · have hbo : S.n.back.isEmpty = true := by assumption
      have h9 : S.n.back = [] := List.isEmpty_iff.mp hbo
      have hd9 : S.deed form pick = S := by simp only [LS.deed, *, if_true, if_false, reduceIte]
      rw [hd9] at hret
      with_reducible rename News h₀ _ _ _ => Nf
      rw [hbo]
      exact hret _ _ _ _ ⟨g, pg, c.n, rfl, rfl, st, rfl, rfl, hsep⟩ (by k_asm) (hb _ _ _ (cb_drop Nf (by walk_at "m tails")))
    · have hbo : S.n.back.isEmpty = false := by assumption
      have h9 : S.n.back ≠ [] := fun h => by rw [h] at hbo; cases hbo
      have hd9 : S.deed form pick = S.answer pick := by simp only [LS.deed, *, if_false]
      rw [hd9] at hret
      unfold Halt
      rename News _ _ _ _ => Nf
      rename Fr _ _ _ _ => Ff
      k_dflt (refine ConK.use ((c_answer_comes w g pg S st _ hsep rd.good _ _ (List.length_pos_iff.mpr h9) (fun x hx => rd.hit x (List.mem_of_getElem? hx))).toKW) (by k_asm) Ff (by k_asm) (hb _ _ _ (cb_drop Nf (by walk_at "m tails"))) (by k_asm) rfl (by ktr_room) (by ktr_units) ?_)
      intro g' pg' st' e1 e2 e3 sp h3 tk3 F3 N3
      clear Nf Ff
      k_steps
      with_reducible rename News h₀ _ _ _ => Nf
      exact hret _ _ _ _ (postL_ofK st' e1 e2 e3 sp) (by k_asm) Nf

end
theorem back_N12 {M : Model} {A : Around} {E : Value → Shared → Prop} {s : Shared} {Q : Unit → Shared → Prop} (h : wpAny M A (PySem.setItem .none .none .none) Q E s) : wpAny M A (PySem.setItem .none .none .none) Q E s := by first | (walk1; fail) | exact h
section
-- N13
theorem off_N13 : True := by w_top off; trivial
section
variable {prog : Program} {w : World} {A : Around} {E : Value → Shared → Prop} {s : Shared} {env : Env} {h₀ : Heap} {L : Addr} {Q : Flow → Shared → Prop}
theorem While_invG {γ : Type} (led : γ → Led) (J : Nat → γ → Prop) {test : Expr} {body : List Stmt} {pos : Pos} {m : Str → Option Value} {n₀ : Nat} (c0 : γ)
    (F : Fr h₀ L s.heap m) (N : News h₀ L s.heap (led c0)) (hJ : J n₀ c0)
    (turn : ∀ n c h₁ tk₁, Fr h₀ L h₁ m → News h₀ L h₁ (led c) → J n c →
      wpAny (model prog w) A (isTrue test env (eval test env)) (fun b s₂ =>
        if b = true then wpAny (model prog w) A (execs body env) (WhileStep h₀ L s (fun n m1 nw => m1 = m ∧ ∃ c, nw = led c ∧ J n c) n) E s₂ else Q .next s₂) E { s with heap := h₁, toks := tk₁ })
    (hE : PassesOwn (model prog w) A env E) : wpAny (model prog w) A (exec (.While test body [] pos) env) Q E s :=
  While_inv (fun n m1 nw => m1 = m ∧ ∃ c, nw = led c ∧ J n c) F N ⟨rfl, c0, rfl, hJ⟩ (fun n m1 nw h1 tk1 F1 N1 hj => by obtain ⟨e1, c, e2, hc⟩ := hj; subst e1; subst e2; exact turn n c h1 tk1 F1 N1 hc) hE
end
theorem deed_frontE {w : World} {h₀ h : Heap} {L x : Addr} {g : NG} {pg : PG} {c : CG} {rest : Led} (hx : g.nd = x) (N : News h₀ L h (WL w g pg c rest)) :
    ∃ R, News h₀ L h ((x, g.nob) :: (g.fo, listOf (g.forth.map FT.ref).toArray g.fon) :: (g.ba, bl g.back g.ban) :: R) ∧ ∀ h₀ h L, News h₀ L h ((x, g.nob) :: (g.fo, listOf (g.forth.map FT.ref).toArray g.fon) :: (g.ba, bl g.back g.ban) :: R) → News h₀ L h (WL w g pg c rest) := by
  subst hx; exact deed_front N
structure AC where
  g : NG
  pg : PG
  cn : Nat
  S : LS
noncomputable def AC.led (w : World) (c : CG) (rest : Led) (q : AC) : Led := WL w q.g q.pg { c with n := q.cn } rest
structure ComeJ (I : LS → Prop) (w : World) (x p : Addr) (c : CG) (rest : Led) (P : LS → Prop) (q : AC) : Prop where
  st : St w q.g q.pg q.S
  inv : I q.S
  rel : P q.S
  nd : q.g.nd = x
  p : q.pg.p = p
  sep : Sep (q.led w c rest)
theorem c_all_come (I : LS → Prop) (hrd : ∀ S, I S → S.Ready) (hcc : ∀ S, I S → S.n.forth ≠ [] → I (S.comes 0)) (han : ∀ S, I S → S.n.back ≠ [] → I (S.answer 0))
    (w : World) (g : NG) (pg : PG) (c : CG) (S : LS) (st : St w g pg S) (rest : List (Addr × Obj)) (hsep : Sep (WL w g pg c rest)) (hI : I S) :
    Con w 330 4 (WL w g pg c rest) [.ref g.nd, .ref pg.p, .ref c.p] (PostL w g pg c rest S.allCome) := by
  unfold Con; k_fill; intro mean mg mb dep un gd cn cs fa ccd cl outer A₀ base h₀ L m s Q E B F X N T hk hdep hun hret
  refine wpAny_call ?_; k_dflt ktr_enter
  k_steps
  unfold Halt
  rename News _ _ _ _ => Nf
  rename Fr _ _ _ _ => Ff
  refine While_invG (AC.led w c rest) (fun n => ComeJ I w g.nd pg.p c rest fun S1 => S1.n.forth.length = n ∧ LS.forthAll n S1 = LS.forthAll S.n.forth.length S) ⟨g, pg, c.n, S⟩ Ff Nf ⟨st, hI, ⟨rfl, rfl⟩, rfl, rfl, hsep⟩ ?_ (by first | passes_own | with_unfolding_all passes_own)
  clear Nf Ff
  intro n q h1 tk1 F1 N1 J1
  have rd1 := hrd q.S J1.inv
  have hsm1 := sm_of J1.st.nabs rd1.good.sm
  have hnet := J1.st.ok.net
  have hz7 := hsm1.forth
  have hfe : (q.g.forth.map FT.ref).isEmpty = q.S.n.forth.isEmpty := by rw [List.isEmpty_map, ← J1.st.nabs]; simp only [NG.abs, List.isEmpty_map]
  first | ((with_reducible refine hideW ?_); intro G9 k9; obtain ⟨R, N2, hb⟩ := deed_frontE J1.nd N1; refine k9 ?_; clear k9 G9) | (obtain ⟨R, N2, hb⟩ := deed_frontE J1.nd N1)
  clear N1
  k_steps
  · have hem : q.S.n.forth.isEmpty = true := by assumption
    have hn0 : n = 0 := by rw [← J1.rel.1, List.isEmpty_iff.mp hem]; rfl
    have hrel := J1.rel.2
    rw [hn0] at hrel
    unfold Halt
    rename News _ _ _ _ => Nf
    rename Fr _ _ _ _ => Ff
    refine While_invG (AC.led w c rest) (fun n => ComeJ I w g.nd pg.p c rest fun S1 => S1.n.back.length = n ∧ LS.backAll n S1 = S.allCome) q Ff (hb _ _ _ (cb_drop Nf (by walk_at "m tails"))) ⟨J1.st, J1.inv, ⟨rfl, by unfold LS.allCome; rw [← hrel]; rfl⟩, J1.nd, J1.p, J1.sep⟩ ?_ (by first | passes_own | with_unfolding_all passes_own)
    clear Nf Ff hrel hn0 hem hfe hnet hz7 hsm1 rd1 hb J1
    intro n q h1 tk1 F1 N1 J1
    have rd1 := hrd q.S J1.inv
    have hsm1 := sm_of J1.st.nabs rd1.good.sm
    have hnet := J1.st.ok.net
    have hz8 := hsm1.back
    have hbe : (q.g.back.map bval).isEmpty = q.S.n.back.isEmpty := by rw [List.isEmpty_map, ← J1.st.nabs]; simp only [NG.abs, fsts, List.isEmpty_map]
    first | ((with_reducible refine hideW ?_); intro G9 k9; obtain ⟨R, N2, hb⟩ := deed_frontE J1.nd N1; refine k9 ?_; clear k9 G9) | (obtain ⟨R, N2, hb⟩ := deed_frontE J1.nd N1)
    clear N1
    k_steps
    · have hem : q.S.n.back.isEmpty = true := by assumption
      have hn0 : n = 0 := by rw [← J1.rel.1, List.isEmpty_iff.mp hem]; rfl
      have hrel := J1.rel.2
      rw [hn0] at hrel
      have st1 := J1.st
      rw [show q.S = S.allCome from hrel] at st1
      with_reducible rename News h₀ _ _ _ => Nf
      exact hret _ _ _ _ ⟨q.g, q.pg, q.cn, rfl, rfl, st1, J1.nd, J1.p, J1.sep⟩ (by k_asm) (hb _ _ _ (cb_drop Nf (by walk_at "m tails")))
    · have hbo : q.S.n.back.isEmpty = false := by assumption
      have hb9 : q.S.n.back ≠ [] := fun h => by rw [h] at hbo; cases hbo
      unfold Halt
      rename News _ _ _ _ => Nf
      rename Fr _ _ _ _ => Ff
      k_dflt (refine ConK.use ((c_answer_comes w q.g q.pg q.S J1.st _ J1.sep rd1.good 0 _ (List.length_pos_iff.mpr hb9) (fun x hx => rd1.hit x (List.mem_of_getElem? hx))).toKW.at2 J1.nd J1.p) (by k_asm) Ff (by k_asm) (hb _ _ _ (cb_drop Nf (by walk_at "m tails"))) (by k_asm) rfl (by ktr_room) (by ktr_units) ?_)
      intro g' pg' st' e1 e2 e3 sp h2 tk2 F2 N3
      clear Nf Ff
      have hI2 := han q.S J1.inv hb9
      have rd2 := hrd _ hI2
      k_steps
      unfold Halt
      rename News _ _ _ _ => Nf
      rename Fr _ _ _ _ => Ff
      k_dflt (refine ConK.use ((c_stands w g' pg' (q.S.answer 0) st' _ rd2.good rd2.act rd2.act3 rd2.perm rd2.hears rd2.ends).toKS.at2 (e1.trans J1.nd) (e2.trans J1.p)) (by k_asm) Ff (by k_asm) Nf (by k_asm) rfl (by ktr_room) (by ktr_units) ?_)
      intro h3 tk3 F3 N4
      clear Nf Ff
      k_steps
      rename News _ _ _ _ => Nf
      rename Fr _ _ _ _ => Ff
      have hc9 := answered0 hb9
      rw [← answer_back, J1.rel.1] at hc9
      have hrel := J1.rel.2
      rw [← hc9] at hrel
      rw [← e3] at Nf sp
      exact WhileStep.intro Ff Nf (by rw [← hc9]; exact Nat.lt_succ_self _) ⟨rfl, ⟨g', pg', q.cn, q.S.answer 0⟩, rfl, ⟨st', hI2, ⟨rfl, hrel⟩, e1.trans J1.nd, e2.trans J1.p, sp⟩⟩
  · have hfo : q.S.n.forth.isEmpty = false := by assumption
    have hfo9 : q.S.n.forth ≠ [] := fun h => by rw [h] at hfo; cases hfo
    have ef : q.g.forth.length = q.S.n.forth.length := by rw [← J1.st.nabs]; simp [NG.abs]
    unfold Halt
    rename News _ _ _ _ => Nf
    rename Fr _ _ _ _ => Ff
    k_dflt (refine ConK.use ((c_challenge_comesK w q.g J1.st.ok hsm1 { c with n := q.cn } q.pg rest J1.sep (by rw [ef]; exact List.length_pos_iff.mpr hfo9) 0 _).at1 J1.nd) (by k_asm) Ff (by k_asm) (hb _ _ _ (cb_drop Nf (by walk_at "m tails"))) (by k_asm) rfl (by ktr_room) (by ktr_units) ?_)
    intro g' n' ok' e1 e2 sp h2 tk2 F2 N3
    clear Nf Ff
    k_steps
    rename News _ _ _ _ => Nf
    rename Fr _ _ _ _ => Ff
    have hc9 := comes0 hfo9
    rw [J1.rel.1] at hc9
    have hrel := J1.rel.2
    rw [← hc9] at hrel
    exact WhileStep.intro Ff Nf (by rw [← hc9]; exact Nat.lt_succ_self _) ⟨rfl, ⟨g', q.pg, n', q.S.comes 0⟩, rfl, ⟨⟨ok', e1.trans (by rw [J1.st.nabs]; rfl), J1.st.kabs, J1.st.pat, J1.st.lst, J1.st.high⟩, hcc q.S J1.inv hfo9, ⟨rfl, hrel⟩, e2.trans J1.nd, J1.p, sp⟩⟩

end
section
-- N3
theorem off_N3 : True := by w_top off; trivial
theorem c_take (w : World) (bx sl : Addr) (vs : List Value) (ns : List Int) (hi : IntsAre vs ns) (n ln : Nat) (rest : List (Addr × Obj)) (hz : ns.length ≤ 1000) (k : Int) (kt : Tok) (h0 : 0 ≤ k) (h1 : k ≤ 1000)
    (hsep : Sep ((bx, listOf #[.ref sl, .int k kt] n) :: (sl, listOf vs.toArray ln) :: rest)) (many : Int) (mt : Tok) (hm : 0 < many) (hm2 : many ≤ 1000) :
    Con w 254 1 ((bx, listOf #[.ref sl, .int k kt] n) :: (sl, listOf vs.toArray ln) :: rest) [.ref bx, .int many mt]
      (fun v news' => ∃ (r : Int) (t kt' : Tok) (n' : Nat), v = .int r t ∧ 0 ≤ r ∧ r < many ∧ news' = (bx, listOf #[.ref sl, .int (k + 1) kt'] n') :: (sl, listOf vs.toArray ln) :: rest) := by
  unfold Con; k_fill; intro mean mg mb dep un gd cn cs fa ccd cl outer A₀ base h₀ L m s Q E B F X N T hk hdep hun hret
  simp only [List.cons_append, List.nil_append, Sep, List.forall_mem_cons] at hsep; refine hide ?_; intro G9 k9; obtain ⟨⟨_, _⟩, _, hsepR⟩ := hsep; refine k9 ?_; clear k9 G9
  refine wpAny_call ?_; k_dflt ktr_enter
  k_steps
  all_goals
    rename News _ _ _ _ => Nf
    exact hret _ _ _ _ ⟨_, _, _, _, rfl, Int.fmod_nonneg_of_pos _ hm, Int.fmod_lt_of_pos _ hm, rfl⟩ (by k_asm) (cb_drop Nf (by walk_at "m sub"))
theorem c_takeK (w : World) (bx sl : Addr) (vs : List Value) (ns : List Int) (hi : IntsAre vs ns) (n ln : Nat) (rest : List (Addr × Obj)) (hz : ns.length ≤ 1000) (k : Int) (kt : Tok) (h0 : 0 ≤ k) (h1 : k ≤ 1000)
    (hsep : Sep ((bx, listOf #[.ref sl, .int k kt] n) :: (sl, listOf vs.toArray ln) :: rest)) (many : Int) (mt : Tok) (hm : 0 < many) (hm2 : many ≤ 1000) :
    ConK w 254 1 ((bx, listOf #[.ref sl, .int k kt] n) :: (sl, listOf vs.toArray ln) :: rest) [.ref bx, .int many mt]
      (fun R => ∀ (r : Int) (t kt' : Tok) (n' : Nat), 0 ≤ r → r < many → R (.int r t) ((bx, listOf #[.ref sl, .int (k + 1) kt'] n') :: (sl, listOf vs.toArray ln) :: rest)) :=
  (c_take w bx sl vs ns hi n ln rest hz k kt h0 h1 hsep many mt hm hm2).toK (by rintro R hk v nw ⟨r, t, kt', n', e1, a, b, e2⟩; rw [e1, e2]; exact hk r t kt' n' a b)

end
section
-- L11
theorem off_L11 : True := by w_top off; trivial
/-- the law's state ahead of its deeds -/
noncomputable def LS.start (isp b0 b1 b2 : Bool) : LS :=
  ⟨⟨tri false b0 b1 b2, isp, [], [], if isp = true then [1] else [], tri [] [] [] [], tri none none none none, [], [], 1, 0, 0, 1⟩, [⟨1, if isp = true then .proven else .unproven, isp, 0, 0, [], none, false⟩], 1, if isp = true then some 1 else none, -1⟩
theorem range8 (r : Int) (h0 : 0 ≤ r) (h1 : r < 6) : Builtin.Range.small 0 (8 + r) 1 = true ∧ Builtin.Range.rangeSize 0 (8 + r) 1 = ((8 + r).toNat : Int) := by
  have : r = 0 ∨ r = 1 ∨ r = 2 ∨ r = 3 ∨ r = 4 ∨ r = 5 := by omega
  rcases this with rfl | rfl | rfl | rfl | rfl | rfl
  all_goals exact ⟨by decide +kernel, by decide +kernel⟩
section
variable {prog : Program} {w : World} {A : Around} {E : Value → Shared → Prop} {s : Shared} {env : Env} {h₀ : Heap} {x : Str} {body : List Stmt} {Q : Flow → Shared → Prop}
theorem rangeRest_ofM {I : Addr} {a : Int} {n : Nat} {m₀ : Str → Option Value} (J : Nat → (Str → Option Value) → List (Addr × Obj) → Prop)
    (turn : ∀ i t it h tk m nw, i < n → J i m nw → (∀ p ∈ nw, p.1 ≠ I) → Fr h₀ env.locals h (fun y => if y = x then some (.int (a + (i : Int)) t) else m y) → News h₀ env.locals h ((I, it) :: nw) →
      wpAny (model prog w) A (execs body env) (UnrPost h₀ env.locals { s with heap := h, toks := tk } I it (fun m' n' => J (i + 1) m' n') Q) E { s with heap := h, toks := tk })
    (done : ∀ h tk m nw, J n m nw → Fr h₀ env.locals h m → News h₀ env.locals h nw → Q .next { s with heap := h, toks := tk })
    (news : List (Addr × Obj)) (hj : J 0 m₀ news) (hI : ∀ p ∈ news, p.1 < I) : RangeRest prog w A E h₀ env x body Q s I a n n 0 m₀ news := by
  have key : ∀ (k i : Nat) (m : Str → Option Value) (nw : List (Addr × Obj)), i + k = n → J i m nw → (∀ p ∈ nw, p.1 ≠ I) → RangeRest prog w A E h₀ env x body Q s I a n k i m nw := by
    intro k
    induction k with
    | zero =>
      intro i m nw hi hJ hI
      obtain rfl : i = n := by omega
      exact RangeRest.zero fun h tk F N => done h tk m nw hJ F N
    | succ k ih =>
      intro i m nw hi hJ hI
      refine RangeRest.succ fun t h tk F N => ?_
      refine wpAny_mono (turn i t _ h tk m nw (by omega) hJ hI F N) (fun f s₂ hp => ?_) fun _ _ e => e
      cases f with
      | ret v => exact hp
      | brk => exact hp
      | next =>
        obtain ⟨h', tk, m', n', e, F', N', o, x3⟩ := hp
        exact ⟨h', tk, _, n', e, F', N', o, ih (i + 1) m' n' (by omega) x3 o⟩
      | cont =>
        obtain ⟨h', tk, m', n', e, F', N', o, x3⟩ := hp
        exact ⟨h', tk, _, n', e, F', N', o, ih (i + 1) m' n' (by omega) x3 o⟩
  exact key n 0 m₀ news (by omega) hj fun p hp => Nat.ne_of_lt (hI p hp)
theorem rangeRest_ofN {I : Addr} {a : Int} {n : Nat} {m₀ : Str → Option Value} (J : (Str → Option Value) → Nat → (Str → Option Value) → List (Addr × Obj) → Prop)
    (turn : ∀ i t it h tk m nw, i < n → J m₀ i m nw → (∀ p ∈ nw, p.1 ≠ I) → Fr h₀ env.locals h (fun y => if y = x then some (.int (a + (i : Int)) t) else m y) → News h₀ env.locals h ((I, it) :: nw) →
      wpAny (model prog w) A (execs body env) (UnrPost h₀ env.locals { s with heap := h, toks := tk } I it (fun m' n' => J m₀ (i + 1) m' n') Q) E { s with heap := h, toks := tk })
    (done : ∀ h tk m nw, J m₀ n m nw → Fr h₀ env.locals h m → News h₀ env.locals h nw → Q .next { s with heap := h, toks := tk })
    (news : List (Addr × Obj)) (hj : J m₀ 0 m₀ news) (hI : ∀ p ∈ news, p.1 < I) : RangeRest prog w A E h₀ env x body Q s I a n n 0 m₀ news := rangeRest_ofM (J m₀) turn done news hj hI
end
theorem ft_init (a b : Str) (m₀ : Str → Option Value) : ∃ uf ut, m₀ = fun y => if y = a then uf else if y = b then ut else m₀ y :=
  ⟨m₀ a, m₀ b, by
    funext y
    split
    · rename_i h; rw [h]
    · split
      · rename_i h; rw [h]
      · rfl⟩
theorem ft_step (a b : Str) (m₀ : Str → Option Value) (uf ut vf vt : Option Value) : ∃ uf' ut', (fun y => if y = a then vf else if y = b then vt else if y = a then uf else if y = b then ut else m₀ y) = fun y => if y = a then uf' else if y = b then ut' else m₀ y :=
  ⟨vf, vt, by funext y; by_cases h : y = a <;> by_cases h2 : y = b <;> simp [h, h2]⟩

end
section
-- L12
theorem off_L12 : True := by w_top off; trivial
structure PathOk (n : LN) (b : Nat) (p : P) : Prop where
  chal : p.chal = n.open_ p.place
  dead : p.dead = n.end_ p.place
  try_ : p.st = .trying ↔ p.dead ≠ none
  prv : p.st = .proven ↔ (p.place : Int) ∈ n.proven
  fld : p.st = .failed ↔ (p.place : Int) ∈ n.failed
  free : p.free = true ↔ p.st = .proven
  idle : p.st ≠ .trying → p.chal = []
  hears : p.st = .proven → n.hears p.place = true ∨ (p.place = 1 ∧ n.first = true)
  rcv : 0 ≤ p.recv ∧ p.recv ≤ 100 * b
  k3 : p.place < 3
/-- what holds of the law's state after at most b deeds -/
structure Inv (b : Nat) (S : LS) : Prop where
  paths : ∀ p ∈ S.ps, PathOk S.n b p
  nd : PlacesNd S.ps
  act : S.n.active = S.act
  has : ∃ p ∈ S.ps, p.place = S.act
  un : ∀ a < 3, (∀ p ∈ S.ps, p.place ≠ a) → S.n.open_ a = [] ∧ S.n.end_ a = none
  prvs : ∀ z ∈ S.n.proven, ∃ p ∈ S.ps, (p.place : Int) = z
  flds : ∀ z ∈ S.n.failed, ∃ p ∈ S.ps, (p.place : Int) = z
  prvNd : S.n.proven.Nodup
  last : ∀ c, S.last = some c → (c : Int) ∈ S.n.proven
  freshO : ∀ x ∈ S.n.over, ∃ k : Int, 1 ≤ k ∧ k < S.n.count ∧ x = b8 k
  freshA : ∀ a, ∀ x ∈ S.n.open_ a, ∃ k : Int, 1 ≤ k ∧ k < S.n.count ∧ x = b8 k
  freshF : ∀ f ∈ S.n.forth, ∃ k : Int, 1 ≤ k ∧ k < S.n.count ∧ f.2 = b8 k
  freshB : ∀ x ∈ S.n.back, ∃ k : Int, 1 ≤ k ∧ k < S.n.count ∧ x = b8 k
  cnt : 1 ≤ S.n.count ∧ S.n.count ≤ b + 1
  disj : ∀ a a' x, x ∈ S.n.open_ a → x ∈ S.n.open_ a' → a = a'
  over : ∀ a, ∀ x ∈ S.n.over, x ∉ S.n.open_ a
  forth : ∀ f ∈ S.n.forth, ∀ d, f.2 ∈ S.n.open_ d → S.n.hears d = true
  back : ∀ x ∈ S.n.back, ∀ d, x ∈ S.n.open_ d → S.n.hears d = true
  high : S.high ≤ S.n.number
  soon : ∀ a d, S.n.end_ a = some d → d ≤ S.n.now + 60
  szOver : S.n.over.length + (S.n.open_ 0).length + (S.n.open_ 1).length + (S.n.open_ 2).length ≤ b
  szLine : S.n.forth.length + S.n.back.length ≤ b
  szFail : S.n.failed.length ≤ 3 * b

end
section
-- L13
theorem off_L13 : True := by w_top off; trivial
theorem PathOk.of {n n' : LN} {b b' : Nat} {p : P} (h : PathOk n b p) (ho : n'.open_ p.place = n.open_ p.place) (he : n'.end_ p.place = n.end_ p.place) (hp : (p.place : Int) ∈ n'.proven ↔ (p.place : Int) ∈ n.proven) (hf : (p.place : Int) ∈ n'.failed ↔ (p.place : Int) ∈ n.failed) (hh : n'.hears = n.hears) (h1 : n'.first = n.first) (hb : b ≤ b') : PathOk n' b' p :=
  ⟨h.chal.trans ho.symm, h.dead.trans he.symm, h.try_, h.prv.trans hp.symm, h.fld.trans hf.symm, h.free, h.idle, by rw [hh, h1]; exact h.hears, ⟨h.rcv.1, Int.le_trans h.rcv.2 (by omega)⟩, h.k3⟩
theorem len3 (l : List Int) (hn : l.Nodup) (h : ∀ z ∈ l, z = 0 ∨ z = 1 ∨ z = 2) : l.length ≤ 3 := by
  have key : ∀ l : List Int, (∀ z ∈ l, z = 0 ∨ z = 1 ∨ z = 2) → l.length = l.count 0 + l.count 1 + l.count 2 := by
    intro l
    induction l with
    | nil => intro _; rfl
    | cons a r ih =>
      intro h
      have := ih fun z hz => h z (.tail _ hz)
      rcases h a (.head _) with rfl | rfl | rfl
      all_goals simp [List.count_cons]; omega
  have h0 := List.nodup_iff_count.mp hn 0
  have h1 := List.nodup_iff_count.mp hn 1
  have h2 := List.nodup_iff_count.mp hn 2
  have := key l h
  omega
theorem b8_inj {k m : Int} (h0 : 0 ≤ k) (h1 : k < 256) (h2 : 0 ≤ m) (h3 : m < 256) (h : b8 k = b8 m) : k = m := by
  unfold b8 at h
  have h9 := congrArg (fun a : Bts => a.toList[0]?) h
  simp only [List.toList_toArray, List.getElem?_replicate] at h9
  simp at h9
  have := congrArg UInt8.toNat h9
  simp at this
  omega
theorem b9_ne (k : Int) : b9 ≠ b8 k := by
  intro h
  unfold b9 b8 at h
  have h0 := congrArg (fun a : Bts => a.toList[0]?) h
  have h7 := congrArg (fun a : Bts => a.toList[7]?) h
  simp only [List.toList_toArray, List.getElem?_replicate] at h0 h7
  simp at h0 h7
  rw [← h0] at h7
  revert h7
  decide
theorem Inv.k3 {b : Nat} {S : LS} (h : Inv b S) : ∀ p ∈ S.ps, p.place < 3 := fun p hp => (h.paths p hp).k3
theorem Inv.act3 {b : Nat} {S : LS} (h : Inv b S) : S.act < 3 := by
  obtain ⟨p, hp, e⟩ := h.has
  rw [← e]; exact h.k3 p hp
theorem Inv.len {b : Nat} {S : LS} (h : Inv b S) : S.ps.length ≤ 3 := by
  have h1 := len3 (S.ps.map fun p => (p.place : Int)) (by
    have := h.nd
    unfold PlacesNd at this
    rw [show (S.ps.map fun p => (p.place : Int)) = (S.ps.map (·.place)).map (fun a : Nat => (a : Int)) by simp]
    exact List.Pairwise.map _ (fun a b hab he => hab (by have : (a : Int) = (b : Int) := he; omega)) this) (fun z hz => by
    obtain ⟨p, hp, rfl⟩ := List.mem_map.mp hz
    have := h.k3 p hp
    omega)
  simpa using h1
theorem nd_same : ∀ {l : List P}, PlacesNd l → ∀ {p q : P}, p ∈ l → q ∈ l → p.place = q.place → p = q
  | [], _, _, _, h, _, _ => nomatch h
  | a :: r, hn, p, q, hp, hq, e => by
    unfold PlacesNd at hn
    rw [List.map_cons, List.nodup_cons] at hn
    rcases List.mem_cons.mp hp with e1 | hp
    · rcases List.mem_cons.mp hq with e2 | hq
      · rw [e1, e2]
      · exact absurd (List.mem_map.mpr ⟨q, hq, by rw [← e, e1]⟩) hn.1
    · rcases List.mem_cons.mp hq with e2 | hq
      · exact absurd (List.mem_map.mpr ⟨p, hp, by rw [e, e2]⟩) hn.1
      · exact nd_same hn.2 hp hq e
theorem Inv.same {b : Nat} {S : LS} (h : Inv b S) {p q : P} (hp : p ∈ S.ps) (hq : q ∈ S.ps) (e : p.place = q.place) : p = q := nd_same h.nd hp hq e
theorem Inv.find {b : Nat} {S : LS} (h : Inv b S) {p : P} (hp : p ∈ S.ps) : S.ps.find? (·.place == p.place) = some p := by
  cases hf : S.ps.find? (·.place == p.place) with
  | none => exact absurd (List.find?_eq_none.mp hf p hp) (by simp)
  | some q =>
    have h1 := List.find?_some hf
    rw [h.same (List.mem_of_find?_eq_some hf) hp (by simpa using h1)]
theorem Inv.prvLen {b : Nat} {S : LS} (h : Inv b S) : S.n.proven.length ≤ 3 := len3 _ h.prvNd fun z hz => by
  obtain ⟨p, hp, e⟩ := h.prvs z hz
  have := h.k3 p hp
  omega
/-- a place where something goes on is known -/
theorem Inv.known {b : Nat} {S : LS} (h : Inv b S) {a : Nat} (ha : a < 3) (hx : S.n.open_ a ≠ [] ∨ S.n.end_ a ≠ none) : ∃ p ∈ S.ps, p.place = a := by
  by_cases hk : ∃ p ∈ S.ps, p.place = a
  · exact hk
  · have := h.un a ha fun p hp e => hk ⟨p, hp, e⟩
    rcases hx with hx | hx
    · exact absurd this.1 hx
    · exact absurd this.2 hx
theorem inv_start' (isp b0 b1 b2 : Bool) : Inv 0 (LS.start isp b0 b1 b2) := by
  cases isp
  all_goals
    constructor
    case paths =>
      intro p hp
      obtain rfl := List.mem_singleton.mp hp
      constructor <;> simp [LS.start, tri]
    all_goals simp [LS.start, tri, PlacesNd]
    all_goals (intro a; rcases a with _ | _ | _ | a <;> simp [tri])
theorem inv_comes {b b' : Nat} {S : LS} (h : Inv b S) (pick : Int) (hb : b ≤ b') (hsz : (S.comes pick).n.forth.length + (S.comes pick).n.back.length ≤ b') : Inv b' (S.comes pick) where
  paths := fun p hp => (h.paths p hp).of rfl rfl .rfl .rfl rfl rfl hb
  nd := h.nd
  act := h.act
  has := h.has
  un := h.un
  prvs := h.prvs
  flds := h.flds
  prvNd := h.prvNd
  last := h.last
  freshO := h.freshO
  freshA := h.freshA
  freshF := fun f hf => h.freshF f ((fateL_sub pick S.n.forth).subset hf)
  freshB := fun x hx => by
    have hx2 : x ∈ (S.n.challengeComes pick).back := hx
    unfold LN.challengeComes at hx2
    dsimp only at hx2
    split at hx2
    · rcases List.mem_append.mp hx2 with h1 | h1
      · exact h.freshB x h1
      · rw [Option.mem_toList, Option.map_eq_some_iff] at h1
        obtain ⟨f, hf, rfl⟩ := h1
        exact h.freshF f (List.mem_of_getElem? hf)
    · exact h.freshB x hx2
  cnt := ⟨h.cnt.1, Int.le_trans h.cnt.2 (by omega)⟩
  disj := h.disj
  over := h.over
  forth := fun f hf => h.forth f ((fateL_sub pick S.n.forth).subset hf)
  back := fun x hx d hd => by
    have hx2 : x ∈ (S.n.challengeComes pick).back := hx
    unfold LN.challengeComes at hx2
    dsimp only at hx2
    split at hx2
    · rcases List.mem_append.mp hx2 with h1 | h1
      · exact h.back x h1 d hd
      · rw [Option.mem_toList, Option.map_eq_some_iff] at h1
        obtain ⟨f, hf, rfl⟩ := h1
        exact h.forth f (List.mem_of_getElem? hf) d hd
    · exact h.back x hx2 d hd
  high := h.high
  soon := h.soon
  szOver := Nat.le_trans h.szOver hb
  szLine := hsz
  szFail := Nat.le_trans h.szFail (by omega)
theorem atK_mem {f : P → P} {ps : List P} {a : Nat} {p' : P} : p' ∈ atK f ps a ↔ ∃ p ∈ ps, p' = if p.place = a then f p else p := by
  unfold atK
  rw [List.mem_map]
  constructor
  · rintro ⟨p, hp, rfl⟩; exact ⟨p, hp, rfl⟩
  · rintro ⟨p, hp, rfl⟩; exact ⟨p, hp, rfl⟩
theorem atK_places {f : P → P} (hf : ∀ p, (f p).place = p.place) (ps : List P) (a : Nat) : (atK f ps a).map (·.place) = ps.map (·.place) := by
  unfold atK
  rw [List.map_map]
  refine List.map_congr_left fun p _ => ?_
  simp only [Function.comp]
  split
  · exact hf p
  · rfl
theorem nd_of {ps qs : List P} (h : PlacesNd ps) (e : qs.map (·.place) = ps.map (·.place)) : PlacesNd qs := by
  unfold PlacesNd at h ⊢; rw [e]; exact h
theorem has_of {ps qs : List P} {a : Nat} (h : ∃ p ∈ ps, p.place = a) (e : qs.map (·.place) = ps.map (·.place)) : ∃ p ∈ qs, p.place = a := by
  obtain ⟨p, hp, rfl⟩ := h
  have : p.place ∈ qs.map (·.place) := by rw [e]; exact List.mem_map.mpr ⟨p, hp, rfl⟩
  obtain ⟨q, hq, hq2⟩ := List.mem_map.mp this
  exact ⟨q, hq, hq2⟩
theorem hasI_of {ps qs : List P} {z : Int} (h : ∃ p ∈ ps, (p.place : Int) = z) (e : qs.map (·.place) = ps.map (·.place)) : ∃ p ∈ qs, (p.place : Int) = z := by
  obtain ⟨p, hp, rfl⟩ := h
  obtain ⟨q, hq, hq2⟩ := has_of ⟨p, hp, rfl⟩ e
  exact ⟨q, hq, by rw [hq2]⟩
theorem un_of {n n' : LN} {ps qs : List P} (h : ∀ a < 3, (∀ p ∈ ps, p.place ≠ a) → n.open_ a = [] ∧ n.end_ a = none) (e : qs.map (·.place) = ps.map (·.place)) (h2 : ∀ a < 3, (∀ p ∈ ps, p.place ≠ a) → n.open_ a = [] ∧ n.end_ a = none → n'.open_ a = [] ∧ n'.end_ a = none) :
    ∀ a < 3, (∀ p ∈ qs, p.place ≠ a) → n'.open_ a = [] ∧ n'.end_ a = none := fun a ha hq => by
  have hp : ∀ p ∈ ps, p.place ≠ a := fun p hp he => by
    obtain ⟨q, hq2, e2⟩ := has_of ⟨p, hp, he⟩ e
    exact hq q hq2 e2
  exact h2 a ha hp (h a ha hp)
theorem upd_at {α : Type} (f : Nat → α) (a : Nat) (v : α) : upd f a v a = v := if_pos rfl
theorem upd_ne {α : Type} (f : Nat → α) {a c : Nat} (v : α) (h : c ≠ a) : upd f a v c = f c := if_neg h
theorem inv_answered {b : Nat} {S : LS} (h : Inv b S) (pick : Int) : Inv b { S with n := S.n.answered pick } where
  paths := fun p hp => (h.paths p hp).of rfl rfl .rfl .rfl rfl rfl (Nat.le_refl _)
  nd := h.nd
  act := h.act
  has := h.has
  un := h.un
  prvs := h.prvs
  flds := h.flds
  prvNd := h.prvNd
  last := h.last
  freshO := h.freshO
  freshA := h.freshA
  freshF := h.freshF
  freshB := fun x hx => h.freshB x ((fateL_sub pick S.n.back).subset hx)
  cnt := h.cnt
  disj := h.disj
  over := h.over
  forth := h.forth
  back := fun x hx => h.back x ((fateL_sub pick S.n.back).subset hx)
  high := h.high
  soon := h.soon
  szOver := h.szOver
  szLine := Nat.le_trans (Nat.add_le_add_left (fateL_sub pick S.n.back).length_le _) h.szLine
  szFail := h.szFail
noncomputable def LS.proves (S : LS) (d : Nat) : LS := { S with n := ({ S.n with proven := S.n.proven ++ [(d : Int)] } : LN).ended d, ps := atK P.prove S.ps d, last := if d = S.act then some d else S.last }
theorem inv_proves {b : Nat} {S : LS} (h : Inv b S) {d : Nat} (hd : d < 3) {x : Bts} (hx : x ∈ S.n.open_ d) (hh : S.n.hears d = true) : Inv b (S.proves d) := by
  have hne : S.n.open_ d ≠ [] := fun e => by rw [e] at hx; cases hx
  obtain ⟨q, hq, hqd⟩ := h.known hd (.inl hne)
  have hqo := h.paths q hq
  have hqt : q.st = .trying := by
    by_cases ht : q.st = .trying
    · exact ht
    · have := hqo.idle ht
      rw [hqo.chal, hqd] at this
      exact absurd this hne
  have hnp : (d : Int) ∉ S.n.proven := fun hm => by
    have := hqo.prv.mpr (by rw [hqd]; exact hm)
    rw [hqt] at this; cases this
  have hnf : (d : Int) ∉ S.n.failed := fun hm => by
    have := hqo.fld.mpr (by rw [hqd]; exact hm)
    rw [hqt] at this; cases this
  have epl := atK_places (f := P.prove) (fun _ => rfl) S.ps d
  exact {
    paths := fun p' hp' => by
      obtain ⟨p, hp, rfl⟩ := atK_mem.mp hp'
      have hpo := h.paths p hp
      by_cases hpd : p.place = d
      · rw [if_pos hpd]
        refine ⟨?_, ?_, ?_, ?_, ?_, ?_, ?_, ?_, hpo.rcv, hpo.k3⟩
        · show [] = upd S.n.open_ d [] p.place
          rw [hpd, upd_at]
        · show none = upd S.n.end_ d none p.place
          rw [hpd, upd_at]
        · exact ⟨fun e => (by cases e), fun e => absurd rfl e⟩
        · exact ⟨fun _ => List.mem_append_right _ (by show (p.place : Int) ∈ [(d : Int)]; rw [hpd]; exact .head _), fun _ => rfl⟩
        · refine ⟨fun e => (by cases e), fun e => absurd (show (d : Int) ∈ S.n.failed from ?_) hnf⟩
          rw [← hpd]; exact e
        · exact ⟨fun _ => rfl, fun _ => rfl⟩
        · intro _; rfl
        · intro _; exact .inl (by show S.n.hears p.place = true; rw [hpd]; exact hh)
      · rw [if_neg hpd]
        refine hpo.of (upd_ne _ _ hpd) (upd_ne _ _ hpd) ?_ .rfl rfl rfl (Nat.le_refl _)
        show (p.place : Int) ∈ S.n.proven ++ [(d : Int)] ↔ _
        rw [List.mem_append, List.mem_singleton]
        exact ⟨fun e => e.resolve_right (by omega), .inl⟩
    nd := nd_of h.nd epl
    act := h.act
    has := has_of h.has epl
    un := un_of h.un epl fun a ha hp e => by
      have hpd : a ≠ d := fun e => hp q hq (hqd.trans e.symm)
      exact ⟨(upd_ne _ _ hpd).trans e.1, (upd_ne _ _ hpd).trans e.2⟩
    prvs := fun z hz => by
      rcases List.mem_append.mp hz with hz | hz
      · exact hasI_of (h.prvs z hz) epl
      · obtain rfl := List.mem_singleton.mp hz
        exact hasI_of ⟨q, hq, by rw [hqd]⟩ epl
    flds := fun z hz => hasI_of (h.flds z hz) epl
    prvNd := List.nodup_append.mpr ⟨h.prvNd, List.nodup_cons.mpr ⟨List.not_mem_nil, List.nodup_nil⟩, fun a ha c hc e => by
      obtain rfl := List.mem_singleton.mp hc
      exact hnp (e ▸ ha)⟩
    last := fun c hc => by
      have hc2 : (if d = S.act then some d else S.last) = some c := hc
      split at hc2
      · cases hc2; exact List.mem_append_right _ (.head _)
      · exact List.mem_append_left _ (h.last c hc2)
    freshO := fun x hx => by
      rcases List.mem_append.mp hx with hx | hx
      · exact h.freshO x hx
      · exact h.freshA d x hx
    freshA := fun a x hx => by
      have hx2 : x ∈ upd S.n.open_ d [] a := hx
      by_cases e : a = d
      · rw [e, upd_at] at hx2; cases hx2
      · rw [upd_ne _ _ e] at hx2; exact h.freshA a x hx2
    freshF := h.freshF
    freshB := h.freshB
    cnt := h.cnt
    disj := fun a a' x hx hx' => by
      have hx2 : x ∈ upd S.n.open_ d [] a := hx
      have hx3 : x ∈ upd S.n.open_ d [] a' := hx'
      by_cases e : a = d
      · rw [e, upd_at] at hx2; cases hx2
      · by_cases e' : a' = d
        · rw [e', upd_at] at hx3; cases hx3
        · rw [upd_ne _ _ e] at hx2; rw [upd_ne _ _ e'] at hx3; exact h.disj a a' x hx2 hx3
    over := fun a x hx hx' => by
      have hx3 : x ∈ upd S.n.open_ d [] a := hx'
      by_cases e : a = d
      · rw [e, upd_at] at hx3; cases hx3
      · rw [upd_ne _ _ e] at hx3
        rcases List.mem_append.mp hx with hx | hx
        · exact h.over a x hx hx3
        · exact e (h.disj a d x hx3 hx)
    forth := fun f hf a hx => by
      have hx3 : f.2 ∈ upd S.n.open_ d [] a := hx
      by_cases e : a = d
      · rw [e, upd_at] at hx3; cases hx3
      · rw [upd_ne _ _ e] at hx3; exact h.forth f hf a hx3
    back := fun x hx a hx' => by
      have hx3 : x ∈ upd S.n.open_ d [] a := hx'
      by_cases e : a = d
      · rw [e, upd_at] at hx3; cases hx3
      · rw [upd_ne _ _ e] at hx3; exact h.back x hx a hx3
    high := h.high
    soon := fun a z hz => by
      have hz2 : upd S.n.end_ d none a = some z := hz
      by_cases e : a = d
      · rw [e, upd_at] at hz2; cases hz2
      · rw [upd_ne _ _ e] at hz2; exact h.soon a z hz2
    szOver := by
      have h9 := h.szOver
      show (S.n.over ++ S.n.open_ d).length + (upd S.n.open_ d [] 0).length + (upd S.n.open_ d [] 1).length + (upd S.n.open_ d [] 2).length ≤ b
      rw [List.length_append]
      rcases places_lt hd with rfl | rfl | rfl
      all_goals simp only [upd]; simp; omega
    szLine := h.szLine
    szFail := h.szFail }
theorem inv_answer' {b : Nat} {S : LS} (h : Inv b S) (pick : Int) : Inv b (S.answer pick) := by
  have h1 := inv_answered h pick
  unfold LS.answer
  split
  · split
    · rename_i x hx
      split
      · rename_i d r hd
        have hdm : d ∈ due S.n x 3 := by rw [hd]; exact .head _
        obtain ⟨hd3, hdo⟩ := List.mem_filter.mp hdm
        have hxo : x ∈ S.n.open_ d := by simpa using hdo
        exact inv_proves h1 (List.mem_range.mp hd3) hxo (h.back x (List.mem_of_getElem? hx) d hxo)
      · exact h1
    · exact h1
  · exact h1

end
section
-- L14
theorem off_L14 : True := by w_top off; trivial
theorem challenge_place (x : Bts) (e : Int) (p : P) : (p.challenge x e).place = p.place := by unfold P.challenge; split <;> rfl
theorem Inv.wants {b : Nat} {S : LS} (h : Inv b S) {q : P} (hq : q ∈ S.ps) (hqa : q.place = S.act) : S.wantsB = decide (q.st = .unproven ∨ (q.st = .trying ∧ q.wants = true)) := by
  unfold LS.wantsB
  rw [← hqa, h.find hq]
theorem inv_mono {b b' : Nat} {S : LS} (h : Inv b S) (hb : b ≤ b') : Inv b' S :=
  { h with
    paths := fun p hp => (h.paths p hp).of rfl rfl .rfl .rfl rfl rfl hb
    cnt := ⟨h.cnt.1, Int.le_trans h.cnt.2 (by omega)⟩
    szOver := Nat.le_trans h.szOver hb
    szLine := Nat.le_trans h.szLine hb
    szFail := Nat.le_trans h.szFail (by omega) }
theorem inv_asks' {b : Nat} {S : LS} (h : Inv b S) (hb : b ≤ 60) : Inv (b + 1) S.asks := by
  unfold LS.asks
  by_cases hw : S.wantsB = true
  case neg => rw [if_neg hw]; exact inv_mono h (Nat.le_succ b)
  rw [if_pos hw]
  obtain ⟨q, hq, hqa⟩ := h.has
  have ha3 := h.act3
  rw [h.wants hq hqa] at hw
  have hw2 := of_decide_eq_true hw
  have hqo := h.paths q hq
  have hc := h.cnt
  have epl := atK_places (f := fun p => p.challenge (b8 S.n.count) (S.n.now + 60)) (challenge_place _ _) S.ps S.act
  have hnew : ∀ k : Int, 1 ≤ k → k < S.n.count → b8 k ≠ b8 S.n.count := fun k h1 h2 e => by
    have := b8_inj (by omega) (by omega) (by omega) (by omega) e
    omega
  have hnewA : ∀ a, b8 S.n.count ∉ S.n.open_ a := fun a hm => by
    obtain ⟨k, h1, h2, e⟩ := h.freshA a _ hm
    exact hnew k h1 h2 e.symm
  have hopen : ∀ a x, x ∈ S.n.asked.open_ a → x ∈ S.n.open_ a ∨ (a = S.act ∧ x = b8 S.n.count) := fun a x hx => by
    have hx2 : x ∈ upd S.n.open_ S.n.active (S.n.open_ S.n.active ++ [b8 S.n.count]) a := hx
    by_cases e : a = S.n.active
    · rw [e, upd_at] at hx2
      rcases List.mem_append.mp hx2 with h1 | h1
      · left; rw [e]; exact h1
      · right; exact ⟨e.trans h.act, List.mem_singleton.mp h1⟩
    · rw [upd_ne _ _ e] at hx2; exact .inl hx2
  have hend : S.n.asked.end_ = if S.n.end_ S.n.active = none then upd S.n.end_ S.n.active (some (S.n.now + 60)) else S.n.end_ := rfl
  have hforth : ∀ f ∈ S.n.asked.forth, f ∈ S.n.forth ∨ (S.n.hears S.act = true ∧ f.2 = b8 S.n.count) := fun f hf => by
    have hf2 : f ∈ (if S.n.hears S.n.active = true then S.n.forth ++ [(S.n.active, b8 S.n.count)] else S.n.forth) := hf
    split at hf2
    · rename_i hh
      rcases List.mem_append.mp hf2 with h1 | h1
      · exact .inl h1
      · right; rw [List.mem_singleton.mp h1]; exact ⟨h.act ▸ hh, rfl⟩
    · exact .inl hf2
  exact {
    paths := fun p' hp' => by
      obtain ⟨p, hp, rfl⟩ := atK_mem.mp hp'
      have hpo := h.paths p hp
      by_cases hpa : p.place = S.act
      · obtain rfl := h.same hp hq (hpa.trans hqa.symm)
        rw [if_pos hpa]
        have hpn : p.place = S.n.active := hpa.trans h.act.symm
        have hop : S.n.asked.open_ p.place = S.n.open_ p.place ++ [b8 S.n.count] := by
          show upd S.n.open_ S.n.active (S.n.open_ S.n.active ++ [b8 S.n.count]) p.place = _
          rw [hpn, upd_at]
        unfold P.challenge
        by_cases ht : p.st = .trying
        · rw [if_pos ht]
          have hdd := hpo.try_.mp ht
          have hee : S.n.asked.end_ = S.n.end_ := by
            rw [hend, if_neg]
            rw [← hpn, ← hpo.dead]; exact hdd
          refine ⟨?_, ?_, ?_, ?_, ?_, ?_, ?_, ?_, ?_, hpo.k3⟩
          · show p.chal ++ [b8 S.n.count] = _
            rw [hop, hpo.chal]
          · rw [hee]; exact hpo.dead
          · exact hpo.try_
          · exact hpo.prv
          · exact hpo.fld
          · exact hpo.free
          · exact fun e => absurd ht e
          · exact hpo.hears
          · exact ⟨hpo.rcv.1, Int.le_trans hpo.rcv.2 (by omega)⟩
        · rw [if_neg ht]
          have hun : p.st = .unproven := hw2.resolve_right fun e => ht e.1
          have hd0 : p.dead = none := by
            by_cases hd : p.dead = none
            · exact hd
            · exact absurd (hpo.try_.mpr hd) ht
          have hee : S.n.asked.end_ p.place = some (S.n.now + 60) := by
            rw [hend, if_pos (by rw [← hpn, ← hpo.dead]; exact hd0), hpn, upd_at]
          have hch : S.n.open_ p.place = [] := by rw [← hpo.chal]; exact hpo.idle ht
          refine ⟨?_, ?_, ?_, ?_, ?_, ?_, ?_, ?_, ?_, hpo.k3⟩
          · show [b8 S.n.count] = _
            rw [hop, hch]; rfl
          · exact hee.symm
          · exact ⟨fun _ e => (by cases e), fun _ => rfl⟩
          · refine ⟨fun e => (by cases e), fun e => ?_⟩
            have := hpo.prv.mpr e
            rw [hun] at this; cases this
          · refine ⟨fun e => (by cases e), fun e => ?_⟩
            have := hpo.fld.mpr e
            rw [hun] at this; cases this
          · refine ⟨fun e => ?_, fun e => (by cases e)⟩
            have := hpo.free.mp e
            rw [hun] at this; cases this
          · exact fun e => absurd rfl e
          · intro e; cases e
          · exact ⟨hpo.rcv.1, Int.le_trans hpo.rcv.2 (by omega)⟩
      · rw [if_neg hpa]
        have hpn : p.place ≠ S.n.active := fun e => hpa (e.trans h.act)
        refine hpo.of (upd_ne _ _ hpn) ?_ .rfl .rfl rfl rfl (Nat.le_succ b)
        show S.n.asked.end_ p.place = _
        rw [hend]
        split
        · exact upd_ne _ _ hpn
        · rfl
    nd := nd_of h.nd epl
    act := h.act
    has := has_of h.has epl
    un := un_of h.un epl fun a ha hp e => by
      have hpn : a ≠ S.n.active := fun e => hp q hq (hqa.trans (h.act.symm.trans e.symm))
      refine ⟨(upd_ne _ _ hpn).trans e.1, ?_⟩
      show S.n.asked.end_ a = none
      rw [hend]
      split
      · exact (upd_ne _ _ hpn).trans e.2
      · exact e.2
    prvs := fun z hz => hasI_of (h.prvs z hz) epl
    flds := fun z hz => hasI_of (h.flds z hz) epl
    prvNd := h.prvNd
    last := h.last
    freshO := fun x hx => by
      obtain ⟨k, h1, h2, e⟩ := h.freshO x hx
      exact ⟨k, h1, Int.lt_trans h2 (Int.lt_succ _), e⟩
    freshA := fun a x hx => by
      rcases hopen a x hx with h1 | ⟨_, h1⟩
      · obtain ⟨k, h1, h2, e⟩ := h.freshA a x h1
        exact ⟨k, h1, Int.lt_trans h2 (Int.lt_succ _), e⟩
      · exact ⟨S.n.count, hc.1, Int.lt_succ _, h1⟩
    freshF := fun f hf => by
      rcases hforth f hf with h1 | ⟨_, h1⟩
      · obtain ⟨k, h1, h2, e⟩ := h.freshF f h1
        exact ⟨k, h1, Int.lt_trans h2 (Int.lt_succ _), e⟩
      · exact ⟨S.n.count, hc.1, Int.lt_succ _, h1⟩
    freshB := fun x hx => by
      obtain ⟨k, h1, h2, e⟩ := h.freshB x hx
      exact ⟨k, h1, Int.lt_trans h2 (Int.lt_succ _), e⟩
    cnt := by
      show 1 ≤ S.n.count + 1 ∧ S.n.count + 1 ≤ ((b + 1 : Nat) : Int) + 1
      omega
    disj := fun a a' x hx hx' => by
      rcases hopen a x hx with h1 | ⟨h1, h2⟩
      · rcases hopen a' x hx' with h3 | ⟨_, h4⟩
        · exact h.disj a a' x h1 h3
        · exact absurd (h4 ▸ h1) (hnewA a)
      · rcases hopen a' x hx' with h3 | ⟨h3, _⟩
        · exact absurd (h2 ▸ h3) (hnewA a')
        · exact h1.trans h3.symm
    over := fun a x hx hx' => by
      rcases hopen a x hx' with h1 | ⟨_, h1⟩
      · exact h.over a x hx h1
      · obtain ⟨k, h2, h3, e⟩ := h.freshO x hx
        exact hnew k h2 h3 (e.symm.trans h1)
    forth := fun f hf a hx => by
      rcases hopen a f.2 hx with h1 | ⟨h1, h2⟩
      · rcases hforth f hf with h3 | ⟨_, h3⟩
        · exact h.forth f h3 a h1
        · exact absurd (h3 ▸ h1) (hnewA a)
      · rcases hforth f hf with h3 | ⟨h3, _⟩
        · obtain ⟨k, h4, h5, e⟩ := h.freshF f h3
          exact absurd (e.symm.trans h2) (hnew k h4 h5)
        · rw [h1]; exact h3
    back := fun x hx a hx' => by
      rcases hopen a x hx' with h1 | ⟨h1, h2⟩
      · exact h.back x hx a h1
      · obtain ⟨k, h4, h5, e⟩ := h.freshB x hx
        exact absurd (e.symm.trans h2) (hnew k h4 h5)
    high := h.high
    soon := fun a z hz => by
      have hz2 : S.n.asked.end_ a = some z := hz
      rw [hend] at hz2
      split at hz2
      · by_cases e : a = S.n.active
        · rw [e, upd_at] at hz2
          cases hz2
          exact Int.le_refl _
        · rw [upd_ne _ _ e] at hz2; exact h.soon a z hz2
      · exact h.soon a z hz2
    szOver := by
      have h9 := h.szOver
      show S.n.over.length + (upd S.n.open_ S.n.active (S.n.open_ S.n.active ++ [b8 S.n.count]) 0).length + (upd S.n.open_ S.n.active (S.n.open_ S.n.active ++ [b8 S.n.count]) 1).length + (upd S.n.open_ S.n.active (S.n.open_ S.n.active ++ [b8 S.n.count]) 2).length ≤ b + 1
      have h8 := h.act
      rcases places_lt ha3 with e | e | e
      all_goals rw [h8, e]; simp only [upd]; simp; omega
    szLine := by
      have h9 := h.szLine
      show (if S.n.hears S.n.active = true then S.n.forth ++ [(S.n.active, b8 S.n.count)] else S.n.forth).length + S.n.back.length ≤ b + 1
      split
      · rw [List.length_append, List.length_singleton]; omega
      · omega
    szFail := by
      have h9 := h.szFail
      show S.n.failed.length ≤ 3 * (b + 1)
      omega }

end
section
-- L15
theorem off_L15 : True := by w_top off; trivial
/-- the paths once place a has been opened -/
theorem open_ok {b : Nat} {S : LS} (h : Inv b S) {a : Nat} (ha : a < 3) : ∀ p ∈ openK S.ps a, PathOk S.n b p := fun p hp => by
  unfold openK at hp
  split at hp
  · exact h.paths p hp
  · rename_i hn
    rcases List.mem_append.mp hp with hp | hp
    · exact h.paths p hp
    · obtain rfl := List.mem_singleton.mp hp
      have hno : ∀ q ∈ S.ps, q.place ≠ a := fun q hq e => hn (List.any_eq_true.mpr ⟨q, hq, by rw [e]; exact beq_self_eq_true _⟩)
      obtain ⟨u1, u2⟩ := h.un a ha hno
      have hnI : ∀ z : Int, (∃ q ∈ S.ps, (q.place : Int) = z) → z ≠ (a : Int) := fun z ⟨q, hq, e⟩ e2 => hno q hq (by omega)
      refine ⟨u1.symm, u2.symm, ⟨fun e => (by cases e), fun e => absurd rfl e⟩, ⟨fun e => (by cases e), fun e => absurd rfl (hnI _ (h.prvs _ e))⟩, ⟨fun e => (by cases e), fun e => absurd rfl (hnI _ (h.flds _ e))⟩, ⟨fun e => (by cases e), fun e => (by cases e)⟩, fun _ => rfl, fun e => (by cases e), ⟨Int.le_refl _, ?_⟩, ha⟩
      show (0 : Int) ≤ 100 * (b : Int)
      omega
theorem openK_has (ps : List P) (a : Nat) : ∃ p ∈ openK ps a, p.place = a := by
  unfold openK
  split
  · rename_i h
    obtain ⟨q, hq, e⟩ := List.any_eq_true.mp h
    exact ⟨q, hq, by simpa using e⟩
  · exact ⟨P.new a, List.mem_append_right _ (.head _), rfl⟩
theorem openK_sub {ps : List P} {a : Nat} {p : P} (h : p ∈ ps) : p ∈ openK ps a := by
  unfold openK
  split
  · exact h
  · exact List.mem_append_left _ h
theorem recvK_mem {ps : List P} {a : Nat} {n : Int} {p' : P} : p' ∈ recvK ps a n ↔ ∃ p ∈ ps, p' = if p.place = a then { p with recv := p.recv + n } else p := by
  unfold recvK
  rw [List.mem_map]
  constructor
  · rintro ⟨p, hp, rfl⟩; exact ⟨p, hp, rfl⟩
  · rintro ⟨p, hp, rfl⟩; exact ⟨p, hp, rfl⟩
theorem renewK_mem {ps : List P} {a : Nat} {p' : P} : p' ∈ renewK ps a ↔ ∃ p ∈ ps, p' = if p.place = a then p.renew else p := by
  unfold renewK
  rw [List.mem_map]
  constructor
  · rintro ⟨p, hp, rfl⟩; exact ⟨p, hp, rfl⟩
  · rintro ⟨p, hp, rfl⟩; exact ⟨p, hp, rfl⟩
theorem renewK_places (ps : List P) (a : Nat) : (renewK ps a).map (·.place) = ps.map (·.place) := by
  unfold renewK
  rw [List.map_map]
  refine List.map_congr_left fun p _ => ?_
  simp only [Function.comp]
  split
  · exact renew_place p
  · rfl
theorem recv_ok {n : LN} {b : Nat} {p : P} (h : PathOk n b p) (a : Nat) : PathOk n (b + 1) (if p.place = a then { p with recv := p.recv + 100 } else p) := by
  have hr := h.rcv
  split
  · exact ⟨h.chal, h.dead, h.try_, h.prv, h.fld, h.free, h.idle, h.hears, by show 0 ≤ p.recv + 100 ∧ p.recv + 100 ≤ 100 * ((b + 1 : Nat) : Int); omega, h.k3⟩
  · exact h.of rfl rfl .rfl .rfl rfl rfl (Nat.le_succ b)
theorem inv_moves' {b : Nat} {S : LS} (h : Inv b S) {a : Nat} (ha : a < 3) : Inv (b + 1) (S.moves a) := by
  have hop := open_ok h ha
  have hnd1 : PlacesNd (openK S.ps a) := openK_nd h.nd
  have epl1 := recvK_places (openK S.ps a) a 100
  have hrec : ∀ p ∈ recvK (openK S.ps a) a 100, PathOk S.n (b + 1) p := fun p' hp' => by
    obtain ⟨p, hp, rfl⟩ := recvK_mem.mp hp'
    exact recv_ok (hop p hp) a
  have hact := h.act
  have hps : (S.moves a).ps = if a = S.act then recvK (openK S.ps a) a 100 else renewK (recvK (openK S.ps a) a 100) a := rfl
  have epl : (S.moves a).ps.map (·.place) = (openK S.ps a).map (·.place) := by
    rw [hps]
    split
    · exact epl1
    · rw [renewK_places]; exact epl1
  have hfail : (S.moves a).n.failed = if a ≠ S.n.active then S.n.failed.filter (fun o => o != (a : Int)) else S.n.failed := rfl
  have hfsub : ∀ z ∈ (S.moves a).n.failed, z ∈ S.n.failed := fun z hz => by
    rw [hfail] at hz
    split at hz
    · exact (List.mem_filter.mp hz).1
    · exact hz
  have hkn : ∀ z : Int, (∃ q ∈ S.ps, (q.place : Int) = z) → ∃ q ∈ (S.moves a).ps, (q.place : Int) = z := fun z ⟨q, hq, e⟩ => hasI_of ⟨q, openK_sub hq, e⟩ epl
  exact {
    paths := fun p' hp' => by
      rw [hps] at hp'
      by_cases haa : a = S.act
      · rw [if_pos haa] at hp'
        have h9 := hrec p' hp'
        refine h9.of rfl rfl .rfl ?_ rfl rfl (Nat.le_refl _)
        rw [hfail, if_neg (by rw [hact]; exact fun e => e haa)]
      · rw [if_neg haa] at hp'
        obtain ⟨p, hp, rfl⟩ := renewK_mem.mp hp'
        have h9 := hrec p hp
        have hff : (S.moves a).n.failed = S.n.failed.filter (fun o => o != (a : Int)) := by rw [hfail, if_pos (by rw [hact]; exact haa)]
        by_cases hpa : p.place = a
        · rw [if_pos hpa]
          have hnf : (p.place : Int) ∉ (S.moves a).n.failed := by
            rw [hff, hpa]
            intro hm
            have := (List.mem_filter.mp hm).2
            simp at this
          unfold P.renew
          by_cases hf : p.st = .failed
          · rw [if_pos hf]
            have hnt : ¬ p.dead ≠ none := fun e => by
              have := h9.try_.mpr e
              rw [hf] at this; cases this
            refine ⟨h9.chal, h9.dead, ⟨fun e => (by cases e), fun e => absurd e hnt⟩, ⟨fun e => (by cases e), fun e => ?_⟩, ⟨fun e => (by cases e), fun e => absurd e hnf⟩, ⟨fun e => ?_, fun e => (by cases e)⟩, fun _ => h9.idle (by rw [hf]; decide), fun e => (by cases e), h9.rcv, h9.k3⟩
            · have := h9.prv.mpr e
              rw [hf] at this; cases this
            · have := h9.free.mp e
              rw [hf] at this; cases this
          · rw [if_neg hf]
            refine h9.of rfl rfl .rfl ⟨fun e => absurd e hnf, fun e => absurd (h9.fld.mpr e) hf⟩ rfl rfl (Nat.le_refl _)
        · rw [if_neg hpa]
          refine h9.of rfl rfl .rfl ?_ rfl rfl (Nat.le_refl _)
          rw [hff, List.mem_filter]
          exact ⟨fun e => e.1, fun e => ⟨e, by simp; omega⟩⟩
    nd := nd_of hnd1 epl
    act := rfl
    has := has_of (openK_has S.ps a) epl
    un := un_of (ps := openK S.ps a) (n := S.n) (fun c hc hp => h.un c hc fun p hpp => hp p (openK_sub hpp)) epl fun c hc hp e => e
    prvs := fun z hz => hkn z (h.prvs z hz)
    flds := fun z hz => hkn z (h.flds z (hfsub z hz))
    prvNd := h.prvNd
    last := fun c hc => by
      have hc2 : (if a ≠ S.act ∧ ((recvK (openK S.ps a) a 100).find? (·.place == S.act)).map (·.st) = some .proven then some S.act else S.last) = some c := hc
      split at hc2
      · rename_i hh
        cases hc2
        obtain ⟨p, hp, he⟩ := Option.map_eq_some_iff.mp hh.2
        have hpm := List.mem_of_find?_eq_some hp
        have hpe : p.place = S.act := by have := List.find?_some hp; simpa using this
        rw [← hpe]
        exact (hrec p hpm).prv.mp he
      · exact h.last c hc2
    freshO := h.freshO
    freshA := h.freshA
    freshF := h.freshF
    freshB := h.freshB
    cnt := ⟨h.cnt.1, Int.le_trans h.cnt.2 (by omega)⟩
    disj := h.disj
    over := h.over
    forth := h.forth
    back := h.back
    high := Int.le_refl _
    soon := h.soon
    szOver := Nat.le_trans h.szOver (Nat.le_succ b)
    szLine := Nat.le_trans h.szLine (Nat.le_succ b)
    szFail := by
      have h9 := h.szFail
      rw [hfail]
      split
      · have := List.length_filter_le (fun o : Int => o != (a : Int)) S.n.failed
        omega
      · omega }

end
section
-- L16
theorem off_L16 : True := by w_top off; trivial
noncomputable def LN.Due (n : LN) (a : Nat) : Prop := ∃ d, n.end_ a = some d ∧ d ≤ n.now
structure Lapsed (n : LN) (k : Nat) (m : LN) : Prop where
  hit : ∀ a, a < k → n.Due a → m.open_ a = [] ∧ m.end_ a = none
  keep : ∀ a, ¬ (a < k ∧ n.Due a) → m.open_ a = n.open_ a ∧ m.end_ a = n.end_ a
  fail : ∀ z, z ∈ m.failed ↔ z ∈ n.failed ∨ ∃ a, a < k ∧ n.Due a ∧ z = (a : Int)
  over : ∀ x, x ∈ m.over ↔ x ∈ n.over ∨ ∃ a, a < k ∧ n.Due a ∧ x ∈ n.open_ a
  sz : m.over.length + (m.open_ 0).length + (m.open_ 1).length + (m.open_ 2).length = n.over.length + (n.open_ 0).length + (n.open_ 1).length + (n.open_ 2).length
  szf : m.failed.length ≤ n.failed.length + k
  prv : m.proven = n.proven
  hears : m.hears = n.hears
  first : m.first = n.first
  forth : m.forth = n.forth
  back : m.back = n.back
  count : m.count = n.count
  number : m.number = n.number
  now : m.now = n.now
  active : m.active = n.active
theorem lapsed_succ {n m : LN} {k : Nat} (hk : k < 3) (h : Lapsed n k m) : Lapsed n (k + 1) (m.lapse k) := by
  have hkk := h.keep k (fun e => Nat.lt_irrefl k e.1)
  have hek := hkk.2
  have hok := hkk.1
  have hnow := h.now
  by_cases hd : n.Due k
  · have hd0 := hd
    obtain ⟨d, hd1, hd2⟩ := hd
    have e : m.lapse k = { (m.ended k) with failed := m.failed ++ [(k : Int)] } := by
      unfold LN.lapse
      rw [hek, hd1]
      show (if d ≤ m.now then _ else _) = _
      rw [hnow, if_pos hd2]
    rw [e]
    exact {
      hit := fun a ha hda => by
        by_cases e : a = k
        · subst e; exact ⟨upd_at _ _ _, upd_at _ _ _⟩
        · have := h.hit a (by omega) hda
          exact ⟨(upd_ne _ _ e).trans this.1, (upd_ne _ _ e).trans this.2⟩
      keep := fun a hn => by
        have e : a ≠ k := fun e => hn ⟨by omega, e ▸ hd0⟩
        have := h.keep a (fun x => hn ⟨by omega, x.2⟩)
        exact ⟨(upd_ne _ _ e).trans this.1, (upd_ne _ _ e).trans this.2⟩
      fail := fun z => by
        show z ∈ m.failed ++ [(k : Int)] ↔ _
        rw [List.mem_append, List.mem_singleton, h.fail]
        constructor
        · rintro ((h1 | ⟨a, h1, h2, h3⟩) | h1)
          · exact .inl h1
          · exact .inr ⟨a, by omega, h2, h3⟩
          · exact .inr ⟨k, by omega, hd0, h1⟩
        · rintro (h1 | ⟨a, h1, h2, h3⟩)
          · exact .inl (.inl h1)
          · by_cases e : a = k
            · subst e; exact .inr h3
            · exact .inl (.inr ⟨a, by omega, h2, h3⟩)
      over := fun x => by
        show x ∈ m.over ++ m.open_ k ↔ _
        rw [List.mem_append, h.over, hok]
        constructor
        · rintro ((h1 | ⟨a, h1, h2, h3⟩) | h1)
          · exact .inl h1
          · exact .inr ⟨a, by omega, h2, h3⟩
          · exact .inr ⟨k, by omega, hd0, h1⟩
        · rintro (h1 | ⟨a, h1, h2, h3⟩)
          · exact .inl (.inl h1)
          · by_cases e : a = k
            · subst e; exact .inr h3
            · exact .inl (.inr ⟨a, by omega, h2, h3⟩)
      sz := by
        have h9 := h.sz
        show (m.over ++ m.open_ k).length + (upd m.open_ k [] 0).length + (upd m.open_ k [] 1).length + (upd m.open_ k [] 2).length = _
        rw [List.length_append]
        rcases places_lt hk with rfl | rfl | rfl
        all_goals simp only [upd]; simp; omega
      szf := by
        have h9 := h.szf
        show (m.failed ++ [(k : Int)]).length ≤ _
        rw [List.length_append, List.length_singleton]; omega
      prv := h.prv
      hears := h.hears
      first := h.first
      forth := h.forth
      back := h.back
      count := h.count
      number := h.number
      now := h.now
      active := h.active }
  · have e : m.lapse k = m := by
      unfold LN.lapse
      rw [hek]
      cases hh : n.end_ k with
      | none => rfl
      | some d =>
        show (if d ≤ m.now then _ else _) = m
        rw [if_neg]
        intro hle
        exact hd ⟨d, hh, hnow ▸ hle⟩
    have hlt : ∀ a, a < k + 1 → n.Due a → a < k := fun a h1 h2 => by
      by_cases e : a = k
      · subst e; exact absurd h2 hd
      · omega
    rw [e]
    exact { h with
      hit := fun a ha hda => h.hit a (hlt a ha hda) hda
      keep := fun a hn => h.keep a fun x => hn ⟨by omega, x.2⟩
      fail := fun z => (h.fail z).trans ⟨fun h1 => h1.imp id fun ⟨a, h2, h3, h4⟩ => ⟨a, by omega, h3, h4⟩, fun h1 => h1.imp id fun ⟨a, h2, h3, h4⟩ => ⟨a, hlt a h2 h3, h3, h4⟩⟩
      over := fun z => (h.over z).trans ⟨fun h1 => h1.imp id fun ⟨a, h2, h3, h4⟩ => ⟨a, by omega, h3, h4⟩, fun h1 => h1.imp id fun ⟨a, h2, h3, h4⟩ => ⟨a, hlt a h2 h3, h3, h4⟩⟩
      szf := Nat.le_trans h.szf (Nat.le_succ _) }
theorem lapsed (n : LN) : ∀ k, k ≤ 3 → Lapsed n k (n.lapses k)
  | 0, _ => ⟨fun a h => absurd h (Nat.not_lt_zero a), fun a _ => ⟨rfl, rfl⟩, fun z => ⟨.inl, fun h => h.elim id fun ⟨a, h1, _⟩ => absurd h1 (Nat.not_lt_zero a)⟩, fun z => ⟨.inl, fun h => h.elim id fun ⟨a, h1, _⟩ => absurd h1 (Nat.not_lt_zero a)⟩, rfl, Nat.le_refl _, rfl, rfl, rfl, rfl, rfl, rfl, rfl, rfl, rfl⟩
  | k + 1, h => lapsed_succ (by omega) (lapsed n k (by omega))

end
section
-- L17
theorem off_L17 : True := by w_top off; trivial
theorem due_iff {b : Nat} {S : LS} (h : Inv b S) {wait : Int} {p : P} (hp : p ∈ S.ps) : (S.n.later wait).Due p.place ↔ ∃ d, p.dead = some d ∧ d ≤ S.n.now + wait := by
  have e := (h.paths p hp).dead
  unfold LN.Due
  rw [show (S.n.later wait).end_ p.place = S.n.end_ p.place from rfl, ← e]
  exact .rfl
theorem expire_due {now : Int} {p : P} (h : ∃ d, p.dead = some d ∧ d ≤ now) : p.expire now = p.fail := by
  obtain ⟨d, h1, h2⟩ := h
  unfold P.expire
  rw [h1]
  exact if_pos h2
theorem expire_not {now : Int} {p : P} (h : ¬ ∃ d, p.dead = some d ∧ d ≤ now) : p.expire now = p := by
  unfold P.expire
  cases hd : p.dead with
  | none => rfl
  | some d => exact if_neg fun e => h ⟨d, hd, e⟩
theorem expired_ok {b : Nat} {S : LS} (h : Inv b S) {wait : Int} {p : P} (hp : p ∈ S.ps) : PathOk (S.passN wait) (b + 1) (p.expire (S.n.now + wait)) := by
  have hL := lapsed (S.n.later wait) 3 (Nat.le_refl 3)
  have hpo := h.paths p hp
  have hr := hpo.rcv
  by_cases hd : ∃ d, p.dead = some d ∧ d ≤ S.n.now + wait
  · have hdue := (due_iff h hp (wait := wait)).mpr hd
    have ht : p.st = .trying := hpo.try_.mpr (by obtain ⟨d, e, _⟩ := hd; rw [e]; exact fun x => by cases x)
    have hh := hL.hit p.place hpo.k3 hdue
    rw [expire_due hd]
    refine ⟨hh.1.symm, hh.2.symm, ⟨fun e => (by cases e), fun e => absurd rfl e⟩, ⟨fun e => (by cases e), fun e => ?_⟩, ⟨fun _ => (hL.fail _).mpr (.inr ⟨p.place, hpo.k3, hdue, rfl⟩), fun _ => rfl⟩, ⟨fun e => (by cases e), fun e => (by cases e)⟩, fun _ => rfl, fun e => (by cases e), ⟨hr.1, by show p.recv ≤ 100 * ((b + 1 : Nat) : Int); omega⟩, hpo.k3⟩
    have e2 : (p.place : Int) ∈ S.n.proven := by
      have e3 : (p.place : Int) ∈ ((S.n.later wait).lapses 3).proven := e
      rw [hL.prv] at e3; exact e3
    have := hpo.prv.mpr e2
    rw [ht] at this; cases this
  · have hnd : ¬ (S.n.later wait).Due p.place := fun e => hd ((due_iff h hp).mp e)
    rw [expire_not hd]
    have hk := hL.keep p.place fun e => hnd e.2
    refine hpo.of hk.1 hk.2 ?_ ?_ hL.hears hL.first (Nat.le_succ b)
    · show _ ∈ ((S.n.later wait).lapses 3).proven ↔ _
      rw [hL.prv]; exact .rfl
    · refine (hL.fail _).trans ⟨fun e => e.elim id fun ⟨a, h1, h2, h3⟩ => ?_, .inl⟩
      have : a = p.place := by omega
      exact absurd (this ▸ h2) hnd
theorem again_ok {n : LN} {b : Nat} {p : P} (h : PathOk n b p) : PathOk n b p.again := ⟨h.chal, h.dead, h.try_, h.prv, h.fld, h.free, h.idle, h.hears, h.rcv, h.k3⟩
theorem expire_places (now : Int) (ps : List P) : (ps.map (P.expire now)).map (·.place) = ps.map (·.place) := by
  rw [List.map_map]
  exact List.map_congr_left fun p _ => expire_place now p
theorem again_places (ps : List P) : (ps.map P.again).map (·.place) = ps.map (·.place) := by
  rw [List.map_map]
  exact List.map_congr_left fun p _ => rfl
theorem find_at {ps : List P} (hn : PlacesNd ps) {p : P} (hp : p ∈ ps) : ps.find? (·.place == p.place) = some p := by
  cases hf : ps.find? (·.place == p.place) with
  | none => exact absurd (List.find?_eq_none.mp hf p hp) (by simp)
  | some q =>
    have h1 := List.find?_some hf
    rw [nd_same hn (List.mem_of_find?_eq_some hf) hp (by simpa using h1)]
theorem back_spec {b : Nat} {S : LS} (h : Inv b S) (wait : Int) : (∀ c, backP (S.ps.map (P.expire (S.n.now + wait))) S.last = some c → (c : Int) ∈ S.n.proven) ∧ (backP (S.ps.map (P.expire (S.n.now + wait))) S.last = none → S.n.proven = []) := by
  have hnd1 : PlacesNd (S.ps.map (P.expire (S.n.now + wait))) := nd_of h.nd (expire_places _ _)
  have hprv : ∀ z ∈ S.n.proven, ∃ p ∈ S.ps, (p.place : Int) = z ∧ p.st = .proven ∧ p.expire (S.n.now + wait) = p := fun z hz => by
    obtain ⟨p, hp, rfl⟩ := h.prvs z hz
    have hst := (h.paths p hp).prv.mpr hz
    refine ⟨p, hp, rfl, hst, expire_not ?_⟩
    rintro ⟨d, hd, _⟩
    have := (h.paths p hp).try_.mpr (by rw [hd]; exact fun x => by cases x)
    rw [hst] at this; cases this
  have hshown : (∀ c, shownP (S.ps.map (P.expire (S.n.now + wait))) = some c → (c : Int) ∈ S.n.proven) ∧ (shownP (S.ps.map (P.expire (S.n.now + wait))) = none → S.n.proven = []) := by
    unfold shownP
    constructor
    · intro c hc
      obtain ⟨p1, hp1, rfl⟩ := Option.map_eq_some_iff.mp hc
      obtain ⟨hm, hst⟩ := List.mem_filter.mp (List.mem_of_getLast? hp1)
      obtain ⟨p, hp, rfl⟩ := List.mem_map.mp hm
      have h9 := (expired_ok h hp (wait := wait)).prv.mp (by simpa using hst)
      have h8 : ((p.expire (S.n.now + wait)).place : Int) ∈ ((S.n.later wait).lapses 3).proven := h9
      rw [(lapsed (S.n.later wait) 3 (Nat.le_refl 3)).prv] at h8
      exact h8
    · intro hn
      rw [Option.map_eq_none_iff, List.getLast?_eq_none_iff] at hn
      refine List.eq_nil_iff_forall_not_mem.mpr fun z hz => ?_
      obtain ⟨p, hp, _, hst, he⟩ := hprv z hz
      have : p ∈ (S.ps.map (P.expire (S.n.now + wait))).filter (·.st == .proven) := List.mem_filter.mpr ⟨List.mem_map.mpr ⟨p, hp, he⟩, by rw [hst]; rfl⟩
      rw [hn] at this; cases this
  unfold backP
  cases hl : S.last with
  | none => exact hshown
  | some c =>
    obtain ⟨p, hp, hpc, hst, he⟩ := hprv _ (h.last c hl)
    have hpc2 : p.place = c := by omega
    have hm : p ∈ S.ps.map (P.expire (S.n.now + wait)) := List.mem_map.mpr ⟨p, hp, he⟩
    have hf := find_at hnd1 hm
    rw [hpc2] at hf
    rw [Option.bind_some, hf]
    dsimp only
    rw [if_pos ((h.paths p hp).free.mpr hst)]
    exact ⟨fun c' e => (by cases e; exact hpc ▸ (h.paths p hp).prv.mp hst), fun e => (by cases e)⟩
/-- what on_time tells, and where it leads -/
theorem pass_spec {b : Nat} {S : LS} (h : Inv b S) (wait : Int) :
    ((S.act : Int) ∈ (S.passN wait).failed ∧ (S.n.proven = [] ∧ S.passR wait = (Str.ofString "lost", S.act) ∨ S.n.proven ≠ [] ∧ (S.passR wait).1 = Str.ofString "back" ∧ ((S.passR wait).2 : Int) ∈ S.n.proven)) ∨
    ((S.act : Int) ∉ (S.passN wait).failed ∧ S.passR wait = (Str.ofString "same", S.act)) := by
  obtain ⟨q, hq, hqa⟩ := h.has
  have hnd1 : PlacesNd (S.ps.map (P.expire (S.n.now + wait))) := nd_of h.nd (expire_places _ _)
  have hf := find_at hnd1 (List.mem_map.mpr ⟨q, hq, rfl⟩)
  rw [expire_place, hqa] at hf
  have hfld := (expired_ok h hq (wait := wait)).fld
  rw [expire_place, hqa] at hfld
  obtain ⟨hb1, hb2⟩ := back_spec h wait
  unfold LS.passR onTimeP
  rw [hf]
  dsimp only
  by_cases hst : (q.expire (S.n.now + wait)).st = .failed
  · left
    rw [if_pos hst]
    refine ⟨hfld.mp hst, ?_⟩
    cases hbk : backP (S.ps.map (P.expire (S.n.now + wait))) S.last with
    | none => exact .inl ⟨hb2 hbk, rfl⟩
    | some c =>
      have := hb1 c hbk
      exact .inr ⟨fun e => (by rw [e] at this; cases this), rfl, this⟩
  · right
    rw [if_neg hst]
    exact ⟨fun e => hst (hfld.mpr e), rfl⟩

end
section
-- L18
theorem off_L18 : True := by w_top off; trivial
theorem inv_passes' {b : Nat} {S : LS} (h : Inv b S) {wait : Int} (hw : 0 ≤ wait) : Inv (b + 1) (S.passes wait) := by
  have hL := lapsed (S.n.later wait) 3 (Nat.le_refl 3)
  have hmn : S.passN wait = (S.n.later wait).lapses 3 := rfl
  rw [← hmn] at hL
  have epl : (S.passes wait).ps.map (·.place) = S.ps.map (·.place) := (again_places _).trans (expire_places _ _)
  have hspec := pass_spec h wait
  have hsub : ∀ a x, x ∈ (S.passN wait).open_ a → x ∈ S.n.open_ a := fun a x hx => by
    by_cases hd : a < 3 ∧ (S.n.later wait).Due a
    · rw [(hL.hit a hd.1 hd.2).1] at hx; cases hx
    · rw [(hL.keep a hd).1] at hx; exact hx
  have hdue : ∀ a x, x ∈ (S.passN wait).open_ a → ¬ (a < 3 ∧ (S.n.later wait).Due a) := fun a x hx hd => by
    rw [(hL.hit a hd.1 hd.2).1] at hx; cases hx
  have hend : ∀ a d, (S.passN wait).end_ a = some d → S.n.end_ a = some d := fun a d hx => by
    by_cases hd : a < 3 ∧ (S.n.later wait).Due a
    · rw [(hL.hit a hd.1 hd.2).2] at hx; cases hx
    · rw [(hL.keep a hd).2] at hx; exact hx
  have hover : ∀ x ∈ (S.passN wait).over, x ∈ S.n.over ∨ ∃ a, a < 3 ∧ (S.n.later wait).Due a ∧ x ∈ S.n.open_ a := fun x hx => (hL.over x).mp hx
  have hpr : (S.passN wait).proven = S.n.proven := hL.prv
  exact {
    paths := fun p' hp' => by
      obtain ⟨p1, hp1, rfl⟩ := List.mem_map.mp hp'
      obtain ⟨p, hp, rfl⟩ := List.mem_map.mp hp1
      exact (again_ok (expired_ok h hp)).of rfl rfl .rfl .rfl rfl rfl (Nat.le_refl _)
    nd := nd_of h.nd epl
    act := by
      show (if (S.n.active : Int) ∈ (S.passN wait).failed then (S.passR wait).2 else S.n.active) = (S.passR wait).2
      rw [h.act]
      rcases hspec with ⟨h1, _⟩ | ⟨h1, h2⟩
      · rw [if_pos h1]
      · rw [if_neg h1, h2]
    has := by
      have h9 : ∃ p ∈ S.ps, p.place = (S.passR wait).2 := by
        rcases hspec with ⟨_, ⟨_, h2⟩ | ⟨_, _, h2⟩⟩ | ⟨_, h2⟩
        · rw [h2]; exact h.has
        · obtain ⟨p, hp, e⟩ := h.prvs _ h2
          exact ⟨p, hp, by omega⟩
        · rw [h2]; exact h.has
      exact has_of h9 epl
    un := un_of h.un epl fun a ha hp e => by
      have hk := hL.keep a (fun ⟨_, d, hd, _⟩ => by
        have h9 : S.n.end_ a = some d := hd
        rw [e.2] at h9; cases h9)
      exact ⟨hk.1.trans e.1, hk.2.trans e.2⟩
    prvs := fun z hz => by
      have hz2 : z ∈ (S.passN wait).proven := hz
      rw [hpr] at hz2
      exact hasI_of (h.prvs z hz2) epl
    flds := fun z hz => by
      have hz2 : z ∈ (S.passN wait).failed := hz
      rcases (hL.fail z).mp hz2 with h1 | ⟨a, h1, ⟨d, h2, _⟩, h3⟩
      · exact hasI_of (h.flds z h1) epl
      · have h9 : S.n.end_ a = some d := h2
        obtain ⟨p, hp, e⟩ := h.known h1 (.inr (by rw [h9]; exact fun e => by cases e))
        exact hasI_of ⟨p, hp, by rw [h3, e]⟩ epl
    prvNd := by
      show (S.passN wait).proven.Nodup
      rw [hpr]; exact h.prvNd
    last := fun c hc => by
      show (c : Int) ∈ (S.passN wait).proven
      rw [hpr]; exact h.last c hc
    freshO := fun x hx => by
      show ∃ k : Int, 1 ≤ k ∧ k < (S.passN wait).count ∧ x = b8 k
      rw [hL.count]
      rcases hover x hx with h1 | ⟨a, _, _, h1⟩
      · exact h.freshO x h1
      · exact h.freshA a x h1
    freshA := fun a x hx => by
      show ∃ k : Int, 1 ≤ k ∧ k < (S.passN wait).count ∧ x = b8 k
      rw [hL.count]
      exact h.freshA a x (hsub a x hx)
    freshF := fun f hf => by
      have hf2 : f ∈ (S.passN wait).forth := hf
      rw [hL.forth] at hf2
      show ∃ k : Int, 1 ≤ k ∧ k < (S.passN wait).count ∧ f.2 = b8 k
      rw [hL.count]
      exact h.freshF f hf2
    freshB := fun x hx => by
      have hf2 : x ∈ (S.passN wait).back := hx
      rw [hL.back] at hf2
      show ∃ k : Int, 1 ≤ k ∧ k < (S.passN wait).count ∧ x = b8 k
      rw [hL.count]
      exact h.freshB x hf2
    cnt := by
      show 1 ≤ (S.passN wait).count ∧ (S.passN wait).count ≤ ((b + 1 : Nat) : Int) + 1
      rw [hL.count]
      have := h.cnt
      show 1 ≤ S.n.count ∧ S.n.count ≤ ((b + 1 : Nat) : Int) + 1
      omega
    disj := fun a a' x hx hx' => h.disj a a' x (hsub a x hx) (hsub a' x hx')
    over := fun a x hx hx' => by
      rcases hover x hx with h1 | ⟨c, h1, h2, h3⟩
      · exact h.over a x h1 (hsub a x hx')
      · have := h.disj a c x (hsub a x hx') h3
        subst this
        exact hdue a x hx' ⟨h1, h2⟩
    forth := fun f hf a hx => by
      have hf2 : f ∈ (S.passN wait).forth := hf
      rw [hL.forth] at hf2
      show (S.passN wait).hears a = true
      rw [hL.hears]
      exact h.forth f hf2 a (hsub a _ hx)
    back := fun x hx a hx' => by
      have hf2 : x ∈ (S.passN wait).back := hx
      rw [hL.back] at hf2
      show (S.passN wait).hears a = true
      rw [hL.hears]
      exact h.back x hf2 a (hsub a _ hx')
    high := by
      show S.high ≤ (S.passN wait).number
      rw [hL.number]; exact h.high
    soon := fun a d hd => by
      have := h.soon a d (hend a d hd)
      show d ≤ (S.passN wait).now + 60
      rw [hL.now]
      show d ≤ S.n.now + wait + 60
      omega
    szOver := by
      have h9 := h.szOver
      have h8 := hL.sz
      have h7 : (S.n.later wait).over.length + ((S.n.later wait).open_ 0).length + ((S.n.later wait).open_ 1).length + ((S.n.later wait).open_ 2).length = S.n.over.length + (S.n.open_ 0).length + (S.n.open_ 1).length + (S.n.open_ 2).length := rfl
      show (S.passN wait).over.length + ((S.passN wait).open_ 0).length + ((S.passN wait).open_ 1).length + ((S.passN wait).open_ 2).length ≤ b + 1
      omega
    szLine := by
      show (S.passN wait).forth.length + (S.passN wait).back.length ≤ b + 1
      rw [hL.forth, hL.back]
      exact Nat.le_trans h.szLine (Nat.le_succ b)
    szFail := by
      have h9 := h.szFail
      have h8 := hL.szf
      have h7 : (S.n.later wait).failed.length = S.n.failed.length := rfl
      show (S.passN wait).failed.length ≤ 3 * (b + 1)
      omega }
theorem inv_deed' {b : Nat} {S : LS} (h : Inv b S) (hb : b ≤ 60) (form pick : Int) : Inv (b + 1) (S.deed form pick) := by
  unfold LS.deed
  split
  · split
    · exact inv_mono h (Nat.le_succ b)
    · refine inv_comes h pick (Nat.le_succ b) ?_
      have h9 := h.szLine
      show (fateL pick S.n.forth).length + (if pick.fmod 3 = 1 ∨ pick.fmod 3 = 0 then S.n.back ++ ((S.n.forth[fateK pick S.n.forth.length]?).map (·.2)).toList else S.n.back).length ≤ b + 1
      have h8 := (fateL_sub pick S.n.forth).length_le
      have h7 : ((S.n.forth[fateK pick S.n.forth.length]?).map (·.2)).toList.length ≤ 1 := by
        cases (S.n.forth[fateK pick S.n.forth.length]?) <;> simp
      split
      · rw [List.length_append]; omega
      · omega
  · split
    · refine inv_passes' h ?_
      have := Int.fmod_nonneg_of_pos pick (b := 4) (by omega)
      omega
    · split
      · exact inv_asks' h hb
      · split
        · have hw2 := Int.fmod_lt_of_pos (pick.fdiv 3) (b := 3) (by omega)
          exact inv_moves' h (by omega)
        · split
          · exact inv_mono h (Nat.le_succ b)
          · split
            · exact inv_mono h (Nat.le_succ b)
            · exact inv_mono (inv_answer' h pick) (Nat.le_succ b)
theorem inv_comes0' {b : Nat} {S : LS} (h : Inv b S) : Inv b (S.comes 0) := by
  refine inv_comes h 0 (Nat.le_refl b) ?_
  have h9 := h.szLine
  show (fateL 0 S.n.forth).length + (if (0 : Int).fmod 3 = 1 ∨ (0 : Int).fmod 3 = 0 then S.n.back ++ ((S.n.forth[fateK 0 S.n.forth.length]?).map (·.2)).toList else S.n.back).length ≤ b
  rw [if_pos (.inr (by decide)), List.length_append, fateK_zero]
  cases hf : S.n.forth with
  | nil => rw [hf] at h9; simp [fateL, fateK_zero] at h9 ⊢; omega
  | cons a r => rw [hf] at h9; simp [fateL, fateK_zero] at h9 ⊢; omega
theorem inv_forthAll {b : Nat} : ∀ (k : Nat) {S : LS}, Inv b S → Inv b (LS.forthAll k S)
  | 0, _, h => h
  | k + 1, _, h => inv_forthAll k (inv_comes0' h)
theorem inv_backAll {b : Nat} : ∀ (k : Nat) {S : LS}, Inv b S → Inv b (LS.backAll k S)
  | 0, _, h => h
  | k + 1, _, h => inv_backAll k (inv_answer' h 0)
theorem inv_allCome' {b : Nat} {S : LS} (h : Inv b S) : Inv b S.allCome := inv_backAll _ (inv_forthAll _ h)

end
section
-- L19
theorem off_L19 : True := by w_top off; trivial
theorem has_iff {b : Nat} {S : LS} (h : Inv b S) {p : P} (hp : p ∈ S.ps) (x : Bts) : p.has x = true ↔ x ∈ S.n.open_ p.place := by
  unfold P.has
  rw [(h.paths p hp).chal]
  simp
theorem inv_hit {b : Nat} {S : LS} (h : Inv b S) (x : Bts) : S.Hit x := by
  by_cases hx : ∃ d, d < 3 ∧ x ∈ S.n.open_ d
  · obtain ⟨d, hd, hxd⟩ := hx
    right
    obtain ⟨q, hq, hqd⟩ := h.known hd (.inl fun e => by rw [e] at hxd; cases hxd)
    refine ⟨d, q, ?_, ?_, hqd⟩
    · have key : ∀ a, (S.n.open_ a).contains x = decide (a = d) := fun a => by
        by_cases e : a = d
        · subst e; simpa using hxd
        · have : x ∉ S.n.open_ a := fun hm => e (h.disj a d x hm hxd)
          simp [e, this]
      unfold due
      rw [List.filter_congr (fun a _ => key a)]
      rcases places_lt hd with rfl | rfl | rfl <;> decide
    · cases hf : S.ps.find? (P.has x) with
      | none => exact absurd ((has_iff h hq x).mpr (by rw [hqd]; exact hxd)) (by simpa using List.find?_eq_none.mp hf q hq)
      | some q' =>
        have h1 := List.mem_of_find?_eq_some hf
        have h2 := (has_iff h h1 x).mp (List.find?_some hf)
        rw [h.same h1 hq ((h.disj _ _ x h2 hxd).trans hqd.symm)]
  · left
    have hno : ∀ a, a < 3 → x ∉ S.n.open_ a := fun a ha hm => hx ⟨a, ha, hm⟩
    refine ⟨List.filter_eq_nil_iff.mpr fun a ha => by simpa using hno a (List.mem_range.mp ha), fun p hp => ?_⟩
    rw [Bool.eq_false_iff]
    exact fun e => hno _ (h.k3 p hp) ((has_iff h hp x).mp e)
theorem sm_of_sizes {n : LN} {b : Nat} (hb : b ≤ 61) (h1 : n.over.length + (n.open_ 0).length + (n.open_ 1).length + (n.open_ 2).length ≤ b) (h2 : n.forth.length + n.back.length ≤ b) (h3 : n.failed.length ≤ 3 * b + 3) (h4 : n.proven.length ≤ 3) : n.Sm :=
  ⟨by omega, by omega, by omega, by omega, by omega, by omega, by omega, by omega⟩
theorem inv_ready' {b : Nat} {S : LS} (h : Inv b S) (hb : b ≤ 60) : S.Ready := by
  have hsz := h.szOver
  have hc := h.cnt
  exact {
    good := ⟨sm_of_sizes (by omega) h.szOver h.szLine (Nat.le_trans h.szFail (by omega)) h.prvLen, h.k3, h.len, h.nd, fun p hp => by
      have := (h.paths p hp).rcv
      omega, fun p hp => by
      have hpo := h.paths p hp
      rw [hpo.chal]
      rcases places_lt hpo.k3 with e | e | e <;> rw [e] <;> omega⟩
    act := h.act
    act3 := h.act3
    num := Int.lt_add_one_of_le h.high
    c0 := by omega
    c1 := by omega
    free := fun hw hm => by
      obtain ⟨q, hq, hqa⟩ := h.has
      rw [h.wants hq hqa] at hw
      have hw2 := of_decide_eq_true hw
      rw [← hqa] at hm
      rcases List.mem_append.mp hm with hm | hm
      · have := (h.paths q hq).prv.mpr hm
        rw [this] at hw2; rcases hw2 with e | ⟨e, _⟩ <;> cases e
      · have := (h.paths q hq).fld.mpr hm
        rw [this] at hw2; rcases hw2 with e | ⟨e, _⟩ <;> cases e
    psm := fun wait _ k hk => by
      have hL := lapsed (S.n.later wait) k (by omega)
      refine sm_of_sizes (b := b) (by omega) ?_ ?_ ?_ ?_
      · rw [hL.sz]; exact h.szOver
      · rw [hL.forth, hL.back]; exact h.szLine
      · have h9 := hL.szf
        have h8 := h.szFail
        have h7 : (S.n.later wait).failed.length = S.n.failed.length := rfl
        omega
      · rw [hL.prv]; exact h.prvLen
    p3 := fun wait _ => by
      rcases pass_spec h wait with ⟨_, ⟨_, h2⟩ | ⟨_, _, h2⟩⟩ | ⟨_, h2⟩
      · rw [h2]; exact h.act3
      · obtain ⟨p, hp, e⟩ := h.prvs _ h2
        have := h.k3 p hp
        omega
      · rw [h2]; exact h.act3
    pok := fun wait _ => by
      unfold LS.PassOk
      rw [h.act]
      rcases pass_spec h wait with ⟨h1, ⟨h3, h2⟩ | ⟨h3, h4, h2⟩⟩ | ⟨h1, h2⟩
      · rw [if_pos h1, if_pos h3, h2]
      · rw [if_pos h1, if_neg h3]; exact ⟨h4, h2⟩
      · rw [if_neg h1, h2]
    lie := fun x hx p hp => by
      rw [Bool.eq_false_iff]
      intro e
      have hm := (has_iff h hp x).mp e
      obtain ⟨k, h1, h2, h3⟩ := h.freshA _ x hm
      unfold LS.lieSet at hx
      simp only [List.mem_append, List.mem_cons, List.not_mem_nil, or_false] at hx
      rcases hx with hx | rfl | rfl | rfl
      · exact h.over _ x hx hm
      · have := b8_inj (by omega) (by omega) (by omega) (by omega) h3; omega
      · have := b8_inj (by omega) (by omega) (by omega) (by omega) h3; omega
      · exact b9_ne k h3
    hit := fun x _ => inv_hit h x
    perm := by
      refine (List.perm_ext_iff_of_nodup ?_ h.prvNd).mpr fun z => ?_
      · have h9 : ((S.ps.filter (·.st == .proven)).map (·.place)).Nodup := List.Nodup.sublist (List.Sublist.map _ List.filter_sublist) h.nd
        rw [show ((S.ps.filter (·.st == .proven)).map fun p => (p.place : Int)) = ((S.ps.filter (·.st == .proven)).map (·.place)).map (fun a : Nat => (a : Int)) by simp]
        exact List.Pairwise.map _ (fun a b hab he => hab (by have : (a : Int) = (b : Int) := he; omega)) h9
      · rw [List.mem_map]
        constructor
        · rintro ⟨p, hp, rfl⟩
          obtain ⟨hp1, hp2⟩ := List.mem_filter.mp hp
          exact (h.paths p hp1).prv.mp (by simpa using hp2)
        · intro hz
          obtain ⟨p, hp, rfl⟩ := h.prvs z hz
          exact ⟨p, List.mem_filter.mpr ⟨hp, by rw [(h.paths p hp).prv.mpr hz]; rfl⟩, rfl⟩
    hears := fun p hp hst => (h.paths p hp).hears hst
    ends := fun d => by
      unfold deads
      rw [List.mem_filterMap]
      constructor
      · rintro ⟨p, hp, e⟩
        have hpo := h.paths p hp
        exact ⟨p.place, hpo.k3, by rw [← hpo.dead]; exact e⟩
      · rintro ⟨a, ha, e⟩
        obtain ⟨p, hp, rfl⟩ := h.known ha (.inr (by rw [e]; exact fun x => by cases x))
        exact ⟨p, hp, by rw [(h.paths p hp).dead]; exact e⟩ }

end
section
-- L20
theorem off_L20 : True := by w_top off; trivial
theorem comes_cons {S : LS} {a : Nat × Bts} {r : List (Nat × Bts)} (h : S.n.forth = a :: r) : (S.comes 0).n.forth = r ∧ (S.comes 0).n.back = S.n.back ++ [a.2] := by
  constructor
  · show fateL 0 S.n.forth = r
    rw [h, fateL, if_neg (by decide), fateK_zero]; rfl
  · show (if (0 : Int).fmod 3 = 1 ∨ (0 : Int).fmod 3 = 0 then S.n.back ++ ((S.n.forth[fateK 0 S.n.forth.length]?).map (·.2)).toList else S.n.back) = _
    rw [if_pos (.inr (by decide)), fateK_zero, h]; rfl
structure Came (S S' : LS) : Prop where
  open_ : S'.n.open_ = S.n.open_
  end_ : S'.n.end_ = S.n.end_
  prv : S'.n.proven = S.n.proven
  fld : S'.n.failed = S.n.failed
  hears : S'.n.hears = S.n.hears
  active : S'.n.active = S.n.active
  act : S'.act = S.act
  forth : ∀ f ∈ S.n.forth, f.2 ∈ S'.n.back
  back : ∀ x ∈ S.n.back, x ∈ S'.n.back
theorem came : ∀ (k : Nat) {S : LS}, S.n.forth.length = k → Came S (LS.forthAll k S)
  | 0, S, h => ⟨rfl, rfl, rfl, rfl, rfl, rfl, rfl, fun f hf => (by rw [List.eq_nil_of_length_eq_zero h] at hf; cases hf), fun _ h => h⟩
  | k + 1, S, h => by
    cases hf : S.n.forth with
    | nil => rw [hf] at h; cases h
    | cons a r =>
      obtain ⟨h1, h2⟩ := comes_cons hf
      have ih := came k (S := S.comes 0) (by rw [h1]; rw [hf] at h; simpa using h)
      show Came S (LS.forthAll k (S.comes 0))
      refine ⟨ih.open_, ih.end_, ih.prv, ih.fld, ih.hears, ih.active, ih.act, fun f hm => ?_, fun x hx => ih.back x (by rw [h2]; exact List.mem_append_left _ hx)⟩
      rw [hf] at hm
      rcases List.mem_cons.mp hm with rfl | hm
      · exact ih.back _ (by rw [h2]; exact List.mem_append_right _ (.head _))
      · exact ih.forth f (by rw [h1]; exact hm)
/-- the present path is tried, proven or failed -/
noncomputable def LS.Seen (S : LS) : Prop := (S.n.active : Int) ∈ S.n.proven ∨ (S.n.active : Int) ∈ S.n.failed ∨ S.n.end_ S.n.active ≠ none
structure Told (S S' : LS) : Prop where
  prv : ∀ z ∈ S.n.proven, z ∈ S'.n.proven
  fld : S'.n.failed = S.n.failed
  hears : S'.n.hears = S.n.hears
  active : S'.n.active = S.n.active
  back : ∀ x ∈ S.n.back, ∀ d, d < 3 → x ∈ S.n.open_ d → (d : Int) ∈ S'.n.proven
  seen : S.Seen → S'.Seen
theorem told_step {b : Nat} {S : LS} (h : Inv b S) {x0 : Bts} {r : List Bts} (hb : S.n.back = x0 :: r) {S' : LS} (ih : Told (S.answer 0) S') : Told S S' := by
  have hg : S.n.back[fateK 0 S.n.back.length]? = some x0 := by rw [fateK_zero, hb]; rfl
  have hbk : (S.answer 0).n.back = r := by
    rw [answer_back]
    show fateL 0 S.n.back = r
    rw [hb, fateL, if_neg (by decide), fateK_zero]; rfl
  have ha : S.answer 0 = (match due S.n x0 3 with
      | d :: _ => { S with n := ({ S.n.answered 0 with proven := S.n.proven ++ [(d : Int)] } : LN).ended d, ps := atK P.prove S.ps d, last := if d = S.act then some d else S.last }
      | [] => { S with n := S.n.answered 0 }) := by
    unfold LS.answer
    rw [if_pos (.inr (by decide)), hg]
    try rfl
  have hhit := inv_hit h x0
  cases hd : due S.n x0 3 with
  | nil =>
    rw [hd] at ha
    dsimp only at ha
    have hno : ∀ d, d < 3 → x0 ∉ S.n.open_ d := fun d hd3 hm => by
      have : d ∈ due S.n x0 3 := List.mem_filter.mpr ⟨List.mem_range.mpr hd3, by simpa using hm⟩
      rw [hd] at this; cases this
    rw [ha] at ih hbk
    refine ⟨ih.prv, ih.fld, ih.hears, ih.active, fun x hx d hd3 hxd => ?_, ih.seen⟩
    rw [hb] at hx
    rcases List.mem_cons.mp hx with rfl | hx
    · exact absurd hxd (hno d hd3)
    · exact ih.back x (by rw [hbk]; exact hx) d hd3 hxd
  | cons d0 rr =>
    rw [hd] at ha
    dsimp only at ha
    have hd0 : d0 ∈ due S.n x0 3 := by rw [hd]; exact .head _
    have hx0 : x0 ∈ S.n.open_ d0 := by have := (List.mem_filter.mp hd0).2; simpa using this
    rw [ha] at ih hbk
    have hin : (d0 : Int) ∈ S'.n.proven := ih.prv _ (List.mem_append_right _ (.head _))
    refine ⟨fun z hz => ih.prv z (List.mem_append_left _ hz), ih.fld, ih.hears, ih.active, fun x hx d hd3 hxd => ?_, fun hs => ih.seen ?_⟩
    · by_cases e : d = d0
      · rw [e]; exact hin
      · rw [hb] at hx
        rcases List.mem_cons.mp hx with rfl | hx
        · exact absurd (h.disj d d0 _ hxd hx0) e
        · exact ih.back x (by rw [hbk]; exact hx) d hd3 (by show x ∈ upd S.n.open_ d0 [] d; rw [upd_ne _ _ e]; exact hxd)
    · rcases hs with h1 | h1 | h1
      · exact .inl (List.mem_append_left _ h1)
      · exact .inr (.inl h1)
      · by_cases e : S.n.active = d0
        · refine .inl (List.mem_append_right _ ?_)
          show (S.n.active : Int) ∈ [(d0 : Int)]
          rw [e]; exact .head _
        · refine .inr (.inr ?_)
          show upd S.n.end_ d0 none S.n.active ≠ none
          rw [upd_ne _ _ e]; exact h1
theorem told : ∀ (k : Nat) {b : Nat} {S : LS}, Inv b S → S.n.back.length = k → Told S (LS.backAll k S)
  | 0, _, S, _, h => ⟨fun _ h => h, rfl, rfl, rfl, fun x hx => (by rw [List.eq_nil_of_length_eq_zero h] at hx; cases hx), id⟩
  | k + 1, b, S, hI, h => by
    cases hb : S.n.back with
    | nil => rw [hb] at h; cases h
    | cons x0 r =>
      have hne : S.n.back ≠ [] := by rw [hb]; exact fun e => by cases e
      have h9 := answered0 hne
      rw [← answer_back] at h9
      show Told S (LS.backAll k (S.answer 0))
      exact told_step hI hb (told k (inv_answer' hI 0) (by omega))
theorem allCome_told {b : Nat} {S : LS} (h : Inv b S) : (∀ z ∈ S.n.proven, z ∈ S.allCome.n.proven) ∧ S.allCome.n.failed = S.n.failed ∧ S.allCome.n.hears = S.n.hears ∧ S.allCome.n.active = S.n.active ∧ (∀ f ∈ S.n.forth, ∀ d, d < 3 → f.2 ∈ S.n.open_ d → (d : Int) ∈ S.allCome.n.proven) ∧ (S.Seen → S.allCome.Seen) := by
  have h1 := came _ (S := S) rfl
  have h2 := told _ (inv_forthAll S.n.forth.length h) rfl
  refine ⟨fun z hz => h2.prv z (by rw [h1.prv]; exact hz), h2.fld.trans h1.fld, h2.hears.trans h1.hears, h2.active.trans h1.active, fun f hf d hd hx => h2.back f.2 (h1.forth f hf) d hd (by rw [h1.open_]; exact hx), fun hs => h2.seen ?_⟩
  unfold LS.Seen at hs ⊢
  rw [h1.prv, h1.fld, h1.end_, h1.active]; exact hs
theorem passes_wants (S : LS) (wait : Int) : ∀ p ∈ (S.passes wait).ps, p.st = .trying → p.wants = true := fun p hp ht => by
  obtain ⟨p1, _, rfl⟩ := List.mem_map.mp hp
  show (p1.st == .trying) = true
  have : p1.st = .trying := ht
  rw [this]; rfl
/-- once the present path has been asked -/
theorem asked_seen {b : Nat} {S : LS} (h : Inv b S) (hw : ∀ p ∈ S.ps, p.st = .trying → p.wants = true) : S.asks.Seen ∧ (S.asks.n.hears S.asks.n.active = true → (S.asks.n.active : Int) ∈ S.asks.n.proven ∨ (S.asks.n.active : Int) ∈ S.asks.n.failed ∨ ∃ f ∈ S.asks.n.forth, f.2 ∈ S.asks.n.open_ S.asks.n.active) := by
  obtain ⟨q, hq, hqa⟩ := h.has
  have hqn : q.place = S.n.active := hqa.trans h.act.symm
  have hqo := h.paths q hq
  have hwb := h.wants hq hqa
  unfold LS.asks
  by_cases hb : S.wantsB = true
  · rw [if_pos hb]
    constructor
    · refine .inr (.inr ?_)
      show (if S.n.end_ S.n.active = none then upd S.n.end_ S.n.active (some (S.n.now + 60)) else S.n.end_) S.n.active ≠ none
      by_cases e : S.n.end_ S.n.active = none
      · rw [if_pos e, upd_at]; exact fun x => by cases x
      · rw [if_neg e]; exact e
    · intro hh
      have hh2 : S.n.hears S.n.active = true := hh
      refine .inr (.inr ⟨(S.n.active, b8 S.n.count), ?_, ?_⟩)
      · show _ ∈ (if S.n.hears S.n.active = true then S.n.forth ++ [(S.n.active, b8 S.n.count)] else S.n.forth)
        rw [if_pos hh2]; exact List.mem_append_right _ (.head _)
      · show b8 S.n.count ∈ upd S.n.open_ S.n.active (S.n.open_ S.n.active ++ [b8 S.n.count]) S.n.active
        rw [upd_at]; exact List.mem_append_right _ (.head _)
  · rw [if_neg hb]
    rw [hwb] at hb
    have hn : ¬ (q.st = .unproven ∨ (q.st = .trying ∧ q.wants = true)) := fun e => hb (decide_eq_true e)
    have hpf : (S.n.active : Int) ∈ S.n.proven ∨ (S.n.active : Int) ∈ S.n.failed := by
      rw [← hqn]
      cases hst : q.st with
      | unproven => exact absurd (.inl hst) hn
      | trying => exact absurd (.inr ⟨hst, hw q hq hst⟩) hn
      | proven => exact .inl (hqo.prv.mp hst)
      | failed => exact .inr (hqo.fld.mp hst)
    exact ⟨hpf.elim .inl fun e => .inr (.inl e), fun _ => hpf.elim .inl fun e => .inr (.inl e)⟩
theorem here_of {b : Nat} {T : LS} (h2 : Inv b T) (hb : b ≤ 60) (hw : ∀ p ∈ T.ps, p.st = .trying → p.wants = true) : T.asks.allCome.n.hears T.asks.allCome.n.active = true → (T.asks.allCome.n.active : Int) ∈ T.asks.allCome.n.proven ++ T.asks.allCome.n.failed := by
  have h3 := inv_asks' h2 hb
  obtain ⟨a1, a2⟩ := asked_seen h2 hw
  obtain ⟨c1, c2, c3, c4, c5, c6⟩ := allCome_told h3
  have ha3 := h3.act3
  rw [← h3.act] at ha3
  generalize T.asks.allCome = U at c1 c2 c3 c4 c5 c6 ⊢
  generalize T.asks = V at a2 c1 c2 c3 c4 c5 ha3
  intro hh
  rw [c3, c4] at hh
  rw [c4, c2]
  rcases a2 hh with e | e | ⟨f, hf, hx⟩
  · exact List.mem_append_left _ (c1 _ e)
  · exact List.mem_append_right _ e
  · exact List.mem_append_left _ (c5 f hf _ ha3 hx)
theorem seen_of {b : Nat} {T : LS} (h2 : Inv b T) (hb : b ≤ 60) (hw : ∀ p ∈ T.ps, p.st = .trying → p.wants = true) : T.asks.allCome.Seen :=
  (allCome_told (inv_asks' h2 hb)).2.2.2.2.2 (asked_seen h2 hw).1
theorem end_due {b : Nat} {S : LS} (h : Inv b S) (a : Nat) (he : S.n.end_ a ≠ none) : (S.n.later 1000).Due a := by
  cases hd : S.n.end_ a with
  | none => exact absurd hd he
  | some d =>
    refine ⟨d, hd, ?_⟩
    have := h.soon a d hd
    show d ≤ S.n.now + 1000
    omega
theorem deads_of {b : Nat} {U : LS} (h4 : Inv b U) : deads (U.passes 1000).ps = [] := by
  have h5 := inv_passes' h4 (wait := 1000) (by decide)
  have hL := lapsed (U.n.later 1000) 3 (Nat.le_refl 3)
  have hn : ∀ a, a < 3 → ((U.n.later 1000).lapses 3).end_ a = none := fun a ha => by
    by_cases he : U.n.end_ a = none
    · by_cases hd : (U.n.later 1000).Due a
      · exact (hL.hit _ ha hd).2
      · exact (hL.keep _ fun e => hd e.2).2.trans he
    · exact (hL.hit _ ha (end_due h4 _ he)).2
  unfold deads
  rw [List.filterMap_eq_nil_iff]
  intro p hp
  have hpo := h5.paths p hp
  rw [hpo.dead]
  exact hn _ hpo.k3
theorem last_of {b : Nat} {U : LS} (h4 : Inv b U) (hs : U.Seen) : ((U.passes 1000).n.active : Int) ∈ (U.passes 1000).n.proven ∨ (U.passes 1000).n.proven = [] := by
  have h5 := inv_passes' h4 (wait := 1000) (by decide)
  have hL := lapsed (U.n.later 1000) 3 (Nat.le_refl 3)
  have hpr : (U.passes 1000).n.proven = U.n.proven := hL.prv
  have hac : (U.passes 1000).n.active = (U.passR 1000).2 := h5.act
  rw [hpr, hac]
  rcases pass_spec h4 1000 with ⟨h1, ⟨h3, h2⟩ | ⟨h3, h6, h2⟩⟩ | ⟨h1, h2⟩
  · exact .inr h3
  · exact .inl h2
  · rw [h2]
    have h1' : (U.act : Int) ∉ ((U.n.later 1000).lapses 3).failed := h1
    unfold LS.Seen at hs
    rw [h4.act] at hs
    rcases hs with e | e | e
    · exact .inl e
    · exact absurd ((hL.fail _).mpr (.inl e)) h1'
    · exact absurd ((hL.fail _).mpr (.inr ⟨_, h4.act3, end_due h4 _ e, rfl⟩)) h1'

end
section
-- N14a
theorem off_N14a : True := by w_top off; trivial
theorem c_Path (w : World) (R : Led) (hs : Sep R) (a : Nat) (t : Tok) (b : Bool) :
    ConK w 121 2 R [.str (placeStr a) t, .bool b] (fun K => ∀ q : G, q.abs = ⟨a, if b = true then .proven else .unproven, b, 0, 0, [], none, false⟩ → Sep (q.cells w ++ R) → K (.ref q.x) (q.cells w ++ R)) := by
  unfold ConK; k_fill; intro mean mg mb dep un gd cn cs fa ccd cl outer A₀ base h₀ L m s Q E B F X N T hk hdep hun hret
  have hnd := ndOf hs
  cases b
  all_goals
    k_dflt (refine' call_cls ?k1 ?k2 ?k3 ?k4 ?k5 ?k6 ?_; (case k1 => k_asm); (case k2 => k_asm); (case k3 => k_asm); (case k4 => k_is); (case k5 => k_is); (case k6 => k_is); k_whole; intro x' d' h' F' N' l1 l2; k_lt l1; k_lt2 l2; (try k_sweep); ktr_enter)
    k_steps
    with_reducible rename News h₀ _ _ _ => Nf
    with_reducible rename List.Nodup _ => hnd9
    have hS9 := fun o1 o2 o3 => (sep_of_nd (l := (_, o1) :: (x', o2) :: (d', o3) :: R) hnd9).selY 3 [R] [1, 2, 0, 3] rfl rfl
    exact hret ⟨x', d', _, _, _, _, _, _, _, _, _, a, t, _, _, _, 0, _, 0, _, [], 0, none, false⟩ rfl (hS9 _ _ _) _ _ (by k_asm) (News.selY Nf 3 [R] [1, 2, 0, 3] rfl)

end
section
-- N14b
theorem off_N14b : True := by w_top off; trivial
local macro_rules | `(tactic| walk_at "call ref") => `(tactic| ((with_reducible show wpAny _ _ (call (Value.ref 121) _) _ _ _); refine halt ?_))
theorem front2 {h₀ h : Heap} {L a b : Addr} {oa ob : Obj} {X R : Led} (N : News h₀ L h (X ++ ((a, oa) :: (b, ob) :: R))) (S : Sep (X ++ ((a, oa) :: (b, ob) :: R))) :
    ∃ R2, R2 = X ++ R ∧ News h₀ L h ((a, oa) :: (b, ob) :: R2) ∧ (a :: b :: R2.map (·.1)).Nodup :=
  ⟨_, rfl, News.selY N 0 [X, [_], [_], R] [1, 2, 0, 3] rfl, ndOf (S.selY 0 [X, [_], [_], R] [1, 2, 0, 3] rfl rfl)⟩
theorem c_Paths (w : World) (R : Led) (hs : Sep R) (role : Str) (rt t : Tok) (b m9 : Bool) :
    ConK w 236 6 R [.str role rt, .str (Str.ofString "home") t, .bool b, .bool m9] (fun K => ∀ (q : G) (p dp kl al : Addr) (t0 t1 t2 t3 t4 t5 t6 hit : Tok), q.abs = ⟨1, if b = true then .proven else .unproven, b, 0, 0, [], none, false⟩ →
      (∀ o1 o2 o3 o4, Sep ((p, o1) :: (dp, o2) :: (kl, o3) :: (al, o4) :: (q.cells w ++ R))) →
      K (.ref p) ((p, instObj 236 dp) :: (dp, dictOf [ent w "role" t0 (.str role rt), ent w "may_move" t1 (.bool m9), ent w "known" t2 (.ref kl), ent w "active" t3 (.ref q.x), ent w "last_proven" t4 (lastV (if b = true then some q.x else none)), ent w "highest" t5 (.int (-1) hit), ent w "answers" t6 (.ref al)] 7) :: (kl, listOf #[.ref q.x] 0) :: (al, listOf #[] 0) :: (q.cells w ++ R))) := by
  unfold ConK; k_fill; intro mean mg mb dep un gd cn cs fa ccd cl outer A₀ base h₀ L m s Q E B F X N T hk hdep hun hret
  have hnd := ndOf hs
  cases b
  all_goals
    k_dflt (refine' call_cls ?k1 ?k2 ?k3 ?k4 ?k5 ?k6 ?_; (case k1 => k_asm); (case k2 => k_asm); (case k3 => k_asm); (case k4 => k_is); (case k5 => k_is); (case k6 => k_is); k_whole; intro x' d' h' F' N' l1 l2; k_lt l1; k_lt2 l2; (try k_sweep); ktr_enter)
    k_steps
    unfold Halt
    with_reducible rename News _ _ _ _ => Nf
    with_reducible rename Fr _ _ _ _ => Ff
    with_reducible rename List.Nodup _ => hnd9
    k_dflt (refine ConK.use (c_Path w ((x', _) :: (d', _) :: R) (sep_of_nd hnd9) 1 _ _) (by k_asm) Ff (by k_asm) Nf (by k_asm) rfl (by ktr_room) (by have hcL9 := cLine_is; simp only [units_deeper, units_under_make, cLine] at *; omega) ?_)
    intro q hq hSq h2 tk2 F2 N2
    clear hnd9 Nf Ff
    first | ((with_reducible refine hideW ?_); intro G9 k9; obtain ⟨R2, hR2, N3, hnd2⟩ := front2 N2 hSq; refine k9 ?_; clear k9 G9) | (obtain ⟨R2, hR2, N3, hnd2⟩ := front2 N2 hSq)
    clear N2 hSq
    k_steps
    subst hR2
    with_reducible rename News h₀ _ _ _ => Nf
    with_reducible rename List.Nodup _ => hnd9
    exact hret q x' d' _ _ _ _ _ _ _ _ _ _ hq (fun o1 o2 o3 o4 => (sep_of_nd (l := (_, o4) :: (_, o3) :: (x', o1) :: (d', o2) :: (q.cells w ++ R)) hnd9).selY 4 [q.cells w ++ R] [2, 3, 1, 0, 4] rfl rfl) _ _ (by k_asm) (News.selY Nf 4 [q.cells w ++ R] [2, 3, 1, 0, 4] rfl)

end
theorem back_N14b {M : Model} {A : Around} {E : Value → Shared → Prop} {s : Shared} {Q : Unit → Shared → Prop} (h : wpAny M A (PySem.setItem .none .none .none) Q E s) : wpAny M A (PySem.setItem .none .none .none) Q E s := by first | (walk1; fail) | exact h
section
-- L21
theorem off_L21 : True := by w_top off; trivial
/-- the law's written ledger ahead of its deeds, packed -/
theorem law_pack2 (w : World) (isp : Bool) {h₀ h : Heap} {L : Addr} {ba fo d2 ed o2 o1 o0 od pl d1 ol fl hl nd Dt cal ckl cp cdp al kl p dp bx sl : Addr} {ob2 eob oob ob1 nob tup1 cko bo so : Obj} {b0 b1 b2 : Bool}
    {tp ct nt wt at_ s0 s1 s2 s3 s4 s5 s6 t0 t1 t2 t3 t4 t5 t6 rlt hit : Tok} {u0 u1 u2 u3 u4 u5 : Value} {q cq : G} {R2 : Led}
    (hR : R2 = (cp, instObj 236 cdp) :: (cdp, dictOf [ent w "role" s0 u0, ent w "may_move" s1 u1, ent w "known" s2 u2, ent w "active" s3 u3, ent w "last_proven" s4 u4, ent w "highest" s5 u5, ent w "answers" s6 (.ref cal)] 7) :: (ckl, cko) :: (cal, listOf #[] 0) :: (cq.cells w ++ ((p, instObj 236 dp) :: (dp, dictOf [ent w "role" t0 (.str (Str.ofString "server") rlt), ent w "may_move" t1 (.bool true), ent w "known" t2 (.ref kl), ent w "active" t3 (.ref q.x), ent w "last_proven" t4 (lastV (if isp = true then some q.x else none)), ent w "highest" t5 (.int (-1) hit), ent w "answers" t6 (.ref al)] 7) :: (kl, listOf #[.ref q.x] 0) :: (al, listOf #[] 0) :: (q.cells w ++ [(bx, bo), (sl, so)]))))
    (hq : q.abs = ⟨1, if isp = true then .proven else .unproven, isp, 0, 0, [], none, false⟩)
    (N : News h₀ L h ((ba, listOf #[] 0) :: (fo, listOf #[] 0) :: (d2, ob2) :: (ed, eob) :: (o2, listOf #[] 0) :: (o1, listOf #[] 0) :: (o0, listOf #[] 0) :: (od, oob) :: (pl, il (if isp = true then [(1, tp)] else []) 0) :: (d1, ob1) :: (ol, listOf #[] 0) :: (fl, listOf #[] 0) :: (hl, listOf #[.bool b0, .bool b1, .bool b2] 0) :: (nd, nob) :: (Dt, tup1) :: R2))
    (hnd : (ba :: fo :: d2 :: ed :: o2 :: o1 :: o0 :: od :: pl :: d1 :: ol :: fl :: hl :: nd :: Dt :: R2.map (·.1)).Nodup)
    (hnet : nob.IsDictOf (strKind PR w) [(Str.ofString "hears", .ref hl), (Str.ofString "first", .bool isp), (Str.ofString "failed", .ref fl), (Str.ofString "over", .ref ol), (Str.ofString "proven", .ref pl), (Str.ofString "open", .ref od), (Str.ofString "end", .ref ed), (Str.ofString "forth", .ref fo), (Str.ofString "back", .ref ba), (Str.ofString "count", .int 1 ct), (Str.ofString "number", .int 0 nt), (Str.ofString "now", .int 0 wt), (Str.ofString "active", .int 1 at_)])
    (hopn : oob.IsDictOf (intKind PR w) [(0, .ref o0), (1, .ref o1), (2, .ref o2)]) (hend : eob.IsDictOf (intKind PR w) [(0, .none), (1, .none), (2, .none)]) :
    ∃ (g : NG) (pg : PG) (c : CG), News h₀ L h (WL w g pg c [(bx, bo), (sl, so)]) ∧ St w g pg (LS.start isp b0 b1 b2) ∧ Sep (WL w g pg c [(bx, bo), (sl, so)]) ∧ nd = g.nd ∧ p = pg.p ∧ cp = c.p := by
  subst hR
  have hS := sep_of_nd (l := (ba, listOf #[] 0) :: (fo, listOf #[] 0) :: (d2, ob2) :: (ed, eob) :: (o2, listOf #[] 0) :: (o1, listOf #[] 0) :: (o0, listOf #[] 0) :: (od, oob) :: (pl, il (if isp = true then [(1, tp)] else []) 0) :: (d1, ob1) :: (ol, listOf #[] 0) :: (fl, listOf #[] 0) :: (hl, listOf #[.bool b0, .bool b1, .bool b2] 0) :: (nd, nob) :: (Dt, tup1) :: _) hnd
  have hp : q.place = 1 := congrArg P.place hq
  refine ⟨⟨nd, hl, fl, ol, pl, od, o0, o1, o2, ed, fo, ba, nob, oob, eob, b0, b1, b2, 0, isp, [], 0, [], 0, if isp = true then [(1, tp)] else [], 0, [], [], [], 0, 0, 0, none, none, none, [], 0, [], 0, 1, ct, 0, nt, 0, wt, 1, at_⟩,
    ⟨p, dp, kl, al, t0, t1, t2, t3, t4, t5, t6, rlt, [q], 0, q.x, if isp = true then some q.x else none, -1, hit⟩,
    ⟨cp, cdp, cal, s0, s1, s2, s3, s4, s5, s6, u0, u1, u2, u3, u4, u5, 0⟩,
    News.selY N 31 [] [13, 12, 11, 10, 8, 7, 6, 5, 4, 3, 1, 0, 22, 23, 24, 26, 27, 28, 15, 16, 18, 29, 30] rfl, ⟨⟨hnet, hopn, hend⟩, ?_, ?_, ⟨q, .head _, rfl, hp⟩, ?_, rfl⟩, hS.selY 31 [] [13, 12, 11, 10, 8, 7, 6, 5, 4, 3, 1, 0, 22, 23, 24, 26, 27, 28, 15, 16, 18, 29, 30] rfl rfl, rfl, rfl, rfl⟩
  · cases isp <;> rfl
  · exact congrArg (fun x => [x]) hq
  · cases isp
    · trivial
    · exact ⟨q, .head _, rfl, hp⟩

end
section
-- N14
theorem off_N14 : True := by w_top off; trivial
local macro_rules | `(tactic| k_qdec) => `(tactic| first | exact hd.ok1 | exact hd.ok2)
local macro_rules | `(tactic| walk_at "call ref") => `(tactic| ((with_reducible show wpAny _ _ (call (Value.ref 236) _) _ _ _); refine halt ?_))
local macro_rules | `(tactic| walk_at "eval IfExp") => `(tactic| refine halt ?_)
local macro_rules | `(tactic| walk_at "call builtin:dict.update") => `(tactic| refine halt ?_)
local macro_rules | `(tactic| walk_at "exec If") => `(tactic| ((with_reducible show wpAny _ _ (exec (Stmt.If (Expr.BoolOp BoolOp.And _ _) _ _ _) _) _ _ _); refine halt ?_))
theorem cutV {M : Model} {A : Around} {t : Sem Value} {Q E : Value → Shared → Prop} {s : Shared} {h₀ : Heap} {L : Addr} {m : Str → Option Value} (K : (Value → Led → Prop) → Prop)
    (hw : ∀ Q' : Value → Shared → Prop, K (fun v n => ∀ h' tk', Fr h₀ L h' m → News h₀ L h' n → Q' v { s with heap := h', toks := tk' }) → wpAny M A t Q' E s)
    (hr : K (fun v n => ∀ h' tk', Fr h₀ L h' m → News h₀ L h' n → Q v { s with heap := h', toks := tk' })) : wpAny M A t Q E s := hw Q hr
theorem cutIf {M : Model} {A : Around} {t : Sem Value} {Q E : Value → Shared → Prop} {s : Shared} {h₀ : Heap} {L : Addr} {m : Str → Option Value} {news : Led} (_N : News h₀ L s.heap news) (_F : Fr h₀ L s.heap m) (isp : Bool)
    (hw : ∀ Q' : Value → Shared → Prop, (∀ l tp h' tk', Fr h₀ L h' m → News h₀ L h' ((l, il (if isp = true then [(1, tp)] else []) 0) :: news) → (∀ z ∈ news, z.1 < l) → Q' (.ref l) { s with heap := h', toks := tk' }) → wpAny M A t Q' E s)
    (hr : ∀ l tp h' tk', Fr h₀ L h' m → News h₀ L h' ((l, il (if isp = true then [(1, tp)] else []) 0) :: news) → (∀ z ∈ news, z.1 < l) → Q (.ref l) { s with heap := h', toks := tk' }) : wpAny M A t Q E s := hw Q hr
theorem wl_box {w : World} {h₀ h : Heap} {L : Addr} {g : NG} {pg : PG} {c : CG} {a b : Addr × Obj} (N : News h₀ L h (WL w g pg c [a, b])) : News h₀ L h (a :: b :: W0 w g pg (c.cells w ++ tups g.forth)) :=
  News.selY N 0 [g.cells, pg.hdr w, flat w pg.known, c.cells w, tups g.forth, [a], [b]] [5, 6, 0, 1, 2, 3, 4] rfl
theorem box_wl {w : World} {h₀ h : Heap} {L : Addr} {g : NG} {pg : PG} {c : CG} {a b : Addr × Obj} (N : News h₀ L h (a :: b :: W0 w g pg (c.cells w ++ tups g.forth))) : News h₀ L h (WL w g pg c [a, b]) :=
  News.selY N 2 [g.cells, pg.hdr w, flat w pg.known, c.cells w, tups g.forth] [2, 3, 4, 5, 6, 0, 1] rfl
theorem wl_boxS {w : World} {g : NG} {pg : PG} {c : CG} {a b : Addr × Obj} (S : Sep (WL w g pg c [a, b])) : Sep (a :: b :: W0 w g pg (c.cells w ++ tups g.forth)) :=
  Sep.selY S 0 [g.cells, pg.hdr w, flat w pg.known, c.cells w, tups g.forth, [a], [b]] [5, 6, 0, 1, 2, 3, 4] rfl rfl
theorem box_wlS {w : World} {g : NG} {pg : PG} {c : CG} {a b : Addr × Obj} (S : Sep (a :: b :: W0 w g pg (c.cells w ++ tups g.forth))) : Sep (WL w g pg c [a, b]) :=
  Sep.selY S 2 [g.cells, pg.hdr w, flat w pg.known, c.cells w, tups g.forth] [2, 3, 4, 5, 6, 0, 1] rfl rfl
theorem wl_boxI {w : World} {h₀ h : Heap} {L : Addr} {g : NG} {pg : PG} {c : CG} {a b i : Addr × Obj} (N : News h₀ L h (i :: WL w g pg c [a, b])) : News h₀ L h (a :: b :: i :: W0 w g pg (c.cells w ++ tups g.forth)) :=
  News.selY N 1 [g.cells, pg.hdr w, flat w pg.known, c.cells w, tups g.forth, [a], [b]] [6, 7, 0, 1, 2, 3, 4, 5] rfl
theorem wl_boxIS {w : World} {g : NG} {pg : PG} {c : CG} {a b i : Addr × Obj} (S : Sep (i :: WL w g pg c [a, b])) : Sep (a :: b :: i :: W0 w g pg (c.cells w ++ tups g.forth)) :=
  Sep.selY S 1 [g.cells, pg.hdr w, flat w pg.known, c.cells w, tups g.forth, [a], [b]] [6, 7, 0, 1, 2, 3, 4, 5] rfl rfl
theorem box_wlI {w : World} {h₀ h : Heap} {L : Addr} {g : NG} {pg : PG} {c : CG} {a b i : Addr × Obj} (N : News h₀ L h (a :: b :: i :: W0 w g pg (c.cells w ++ tups g.forth))) : News h₀ L h (WL w g pg c [a, b, i]) :=
  News.selY N 3 [g.cells, pg.hdr w, flat w pg.known, c.cells w, tups g.forth] [3, 4, 5, 6, 7, 0, 1, 2] rfl
theorem box_wlIS {w : World} {g : NG} {pg : PG} {c : CG} {a b i : Addr × Obj} (S : Sep (a :: b :: i :: W0 w g pg (c.cells w ++ tups g.forth))) : Sep (WL w g pg c [a, b, i]) :=
  Sep.selY S 3 [g.cells, pg.hdr w, flat w pg.known, c.cells w, tups g.forth] [3, 4, 5, 6, 7, 0, 1, 2] rfl rfl
theorem wl_i {w : World} {h₀ h : Heap} {L : Addr} {g : NG} {pg : PG} {c : CG} {a b i : Addr × Obj} (N : News h₀ L h (WL w g pg c [a, b, i])) : News h₀ L h (i :: WL w g pg c [a, b]) :=
  News.selY N 0 [g.cells, pg.hdr w, flat w pg.known, c.cells w, tups g.forth, [a], [b], [i]] [7, 0, 1, 2, 3, 4, 5, 6] rfl
theorem wl_iS {w : World} {g : NG} {pg : PG} {c : CG} {a b i : Addr × Obj} (S : Sep (WL w g pg c [a, b, i])) : Sep (i :: WL w g pg c [a, b]) :=
  Sep.selY S 0 [g.cells, pg.hdr w, flat w pg.known, c.cells w, tups g.forth, [a], [b], [i]] [7, 0, 1, 2, 3, 4, 5, 6] rfl rfl
/-- the law's ghosts between two turns -/
structure LG where
  g : NG
  pg : PG
  cn : Nat
  S : LS
  k : Int
  kt : Tok
  n : Nat
noncomputable def LG.led (w : World) (c : CG) (bx sl : Addr) (so : Obj) (q : LG) : Led := WL w q.g q.pg { c with n := q.cn } [(bx, listOf #[.ref sl, .int q.k q.kt] q.n), (sl, so)]
structure LawJ (w : World) (x p : Addr) (c : CG) (bx sl : Addr) (so : Obj) (i : Nat) (q : LG) : Prop where
  st : St w q.g q.pg q.S
  inv : Inv i q.S
  k0 : 0 ≤ q.k
  k1 : q.k ≤ 3 + 2 * i
  nd : q.g.nd = x
  p : q.pg.p = p
  sep : Sep (q.led w c bx sl so)
section
variable {prog : Program} {w : World} {A : Around} {E : Value → Shared → Prop} {s : Shared} {env : Env} {h₀ : Heap} {x : Str} {body : List Stmt} {Q : Flow → Shared → Prop}
theorem rangeRest_ofF {γ : Type} (y0 : Str) (led : γ → Led) {I : Addr} {a : Int} {n : Nat} {m₀ : Str → Option Value} (J : Nat → γ → Prop)
    (turn : ∀ i t it h tk uf ut c, i < n → J i c → (∀ p ∈ led c, p.1 ≠ I) → Fr h₀ env.locals h (fun y => if y = x then some (.int (a + (i : Int)) t) else if y = y0 then uf else if y = x then ut else m₀ y) → News h₀ env.locals h ((I, it) :: led c) →
      wpAny (model prog w) A (execs body env) (UnrPost h₀ env.locals { s with heap := h, toks := tk } I it (fun m' n' => (∃ uf ut, m' = fun y => if y = y0 then uf else if y = x then ut else m₀ y) ∧ ∃ c, n' = led c ∧ J (i + 1) c) Q) E { s with heap := h, toks := tk })
    (done : ∀ h tk uf ut c, J n c → Fr h₀ env.locals h (fun y => if y = y0 then uf else if y = x then ut else m₀ y) → News h₀ env.locals h (led c) → Q .next { s with heap := h, toks := tk })
    (c0 : γ) (hj : J 0 c0) (hI : ∀ p ∈ led c0, p.1 < I) : RangeRest prog w A E h₀ env x body Q s I a n n 0 m₀ (led c0) :=
  rangeRest_ofN (fun m0 i m nw => (∃ uf ut, m = fun y => if y = y0 then uf else if y = x then ut else m0 y) ∧ ∃ c, nw = led c ∧ J i c)
    (fun i t it h tk m nw hi hJ => by obtain ⟨⟨uf, ut, e⟩, c, e2, hc⟩ := hJ; subst e; subst e2; exact turn i t it h tk uf ut c hi hc)
    (fun h tk m nw hJ => by obtain ⟨⟨uf, ut, e⟩, c, e2, hc⟩ := hJ; subst e; subst e2; exact done h tk uf ut c hc) (led c0) ⟨ft_init _ _ _, c0, rfl, hj⟩ hI
end
theorem c_next_timeN (w : World) (g : PG) (rest : Led) (hl : g.known.length ≤ 3) (h0 : deads (g.known.map G.abs) = []) : ConK w 228 1 (g.hdr w ++ (flat w g.known ++ rest)) [.ref g.p] (KS .none (g.hdr w ++ (flat w g.known ++ rest))) :=
  (c_next_time w g rest hl).toK fun R k v n h => by
    have h1 := h.1
    rw [h0] at h1
    rw [h.2, show v = .none from h1.elim (fun x => x.2) (fun x => x.elim fun _ x => x.elim fun _ x => nomatch x.2.1)]
    exact k
theorem fill9 : hd.heap_39 = hd.heap_39 ∧ PySem.Challenge.rw_sj0113_01 = PySem.Challenge.rw_sj0113_01 := by
  k_fill
  exact ⟨rfl, rfl⟩
theorem law_holds : PySem.Challenge.rw_sj0113_01.Holds := by
  refine' hd ?a ?b ?c ?w
  case a => exact rfl
  case b => exact rfl
  case c => exact rfl
  k_go0
  all_goals (try k_fold)
  k_steps
  unfold Halt
  rename World => w
  rename List Int => script
  rename List Value => ws
  rename IntsAre _ (List.take 40 _) => hscr
  rename_i sl c' hD' l1 l' h2 l2 h3 F' N' tk' qk'
  have hlen : (List.take 40 script).length ≤ 1000 := by rw [List.length_take]; omega
  have hsp0 : ∀ o1 o2, Sep [(l', o1), (sl, o2)] := fun o1 o2 => ⟨fun q hq => by rw [List.mem_singleton.mp hq]; exact Nat.ne_of_lt l2.1, by simp, trivial⟩
  k_dflt (refine ConK.use (c_takeK _ l' sl _ (List.take 40 script) hscr _ c' [] hlen 0 _ (by decide) (by decide) (hsp0 _ _) _ _ (by decide) (by decide)) (by k_asm) F' (by k_asm) (cb_drop N' (by walk_at "m sub")) (by k_asm) rfl (by ktr_room) (by ktr_units) ?_)
  intro bits t1 kt1 n1 hb0 hb1 h1 tk1 F1 N1
  k_steps
  unfold Halt
  rename News _ _ _ _ => Nf
  rename Fr _ _ _ _ => Ff
  k_dflt (refine ConK.use (c_takeK _ l' sl _ (List.take 40 script) hscr _ c' [] hlen _ _ (by decide) (by decide) (hsp0 _ _) _ _ (by decide) (by decide)) (by k_asm) Ff (by k_asm) Nf (by k_asm) rfl (by ktr_room) (by ktr_units) ?_)
  intro ip t2 kt2 n2 hi0 hi1 h1 tk1 F2 N2
  clear Nf Ff
  k_steps
  unfold Halt
  rename News _ _ _ _ => Nf
  rename Fr _ _ _ _ => Ff
  generalize (ip == 0) = isp at Ff Nf ⊢
  k_dflt (refine ConK.use (c_Paths w [(l', listOf #[.ref sl, .int (0 + 1 + 1) kt2] n2), (sl, listOf ws.toArray c')] (hsp0 _ _) _ _ _ isp true) (by k_asm) Ff (by k_asm) (News.selY Nf 3 [] [1, 2] rfl) (by k_asm) rfl (by ktr_room) (by ktr_units) ?_)
  intro q p dp kl al t0 t1 t2' t3 t4 t5 t6 hit hq hSp hp tkp Fp Np
  obtain ⟨R1, hR1, N1', hS1⟩ : ∃ R1, R1 = _ ∧ News _ _ hp R1 ∧ Sep R1 := ⟨_, rfl, Np, hSp _ _ _ _⟩
  clear Np hSp Nf Ff
  k_steps
  unfold Halt
  rename Fr _ _ _ _ => Ff
  k_dflt (refine ConK.use (c_Paths w R1 hS1 _ _ _ true true) (by k_asm) Ff (by k_asm) N1' (by k_asm) rfl (by ktr_room) (by ktr_units) ?_)
  intro cq cp cdp ckl cal s0 s1 s2 s3 s4 s5 s6 chit hcq hSc hc tkc Fc Nc
  obtain ⟨R2, hR2, N2', hS2⟩ : ∃ R2, R2 = _ ∧ News _ _ hc R2 ∧ Sep R2 := ⟨_, rfl, Nc, hSc _ _ _ _⟩
  have hnd := ndOf hS2
  clear Nc hSc N1' Ff hS1 hS2
  k_steps
  unfold Halt
  rename News _ _ _ _ => Nf
  rename Fr _ _ _ _ => Ff
  with_reducible rename List.Nodup _ => hnd8
  refine cutIf Nf Ff isp ?_ ?_
  · clear hR2 hR1 hq
    intro Q' hret'
    cases isp
    all_goals
      refine IfExp_ ?_
      k_steps
      first | exact hret' _ 0 _ _ (by k_asm) (by k_asm) (by assumption) | exact hret' _ _ _ _ (by k_asm) (by k_asm) (by assumption)
  intro l9 tp h9 tk9 F9 N9 l1
  have hnd9 := ndC l1 hnd8 rfl
  clear Nf Ff hnd8
  k_steps
  unfold Halt
  with_reducible rename List.Nodup _ => hnd9
  k_dflt (refine' m_update (knd := PySem.strKind _ _) ?F ?N ?U ?m ?d ?d2 ?ne ?lo ?z ?_; (case F => k_asm); (case N => k_asm); (case U => exact updT hnd9 rfl (updT (ndT hnd9) rfl (updT (ndT (ndT hnd9)) rfl (updT (ndT (ndT (ndT hnd9))) rfl (updT (ndT (ndT (ndT (ndT hnd9)))) rfl (updT (ndT (ndT (ndT (ndT (ndT hnd9))))) rfl (updT (ndT (ndT (ndT (ndT (ndT (ndT hnd9)))))) rfl (updT (ndT (ndT (ndT (ndT (ndT (ndT (ndT hnd9))))))) rfl (updT (ndT (ndT (ndT (ndT (ndT (ndT (ndT (ndT hnd9)))))))) rfl (updT (ndT (ndT (ndT (ndT (ndT (ndT (ndT (ndT (ndT hnd9))))))))) rfl (updH (ndT (ndT (ndT (ndT (ndT (ndT (ndT (ndT (ndT (ndT hnd9)))))))))) rfl))))))))))); (case m => k_mem); (case d => k_asm); (case d2 => k_asm); (case ne => exact Ne.symm (ndne (ndT (ndT (ndT (ndT (ndT (ndT hnd9)))))) (by repeat (first | exact List.Mem.head _ | refine List.Mem.tail _ ?_)))); (case lo => k_asm); (case z => kob_size))
  intro h8 o8 F8 N8 hd8
  rw [merged1] at hd8
  (try dsimp only at N8)
  (try k_sweep)
  k_steps
  unfold Halt
  with_reducible rename List.Nodup _ => hnd9
  k_dflt (refine' m_update (knd := PySem.strKind _ _) ?F ?N ?U ?m ?d ?d2 ?ne ?lo ?z ?_; (case F => k_asm); (case N => k_asm); (case U => exact updT hnd9 rfl (updT (ndT hnd9) rfl (updT (ndT (ndT hnd9)) rfl (updT (ndT (ndT (ndT hnd9))) rfl (updT (ndT (ndT (ndT (ndT hnd9)))) rfl (updT (ndT (ndT (ndT (ndT (ndT hnd9))))) rfl (updT (ndT (ndT (ndT (ndT (ndT (ndT hnd9)))))) rfl (updT (ndT (ndT (ndT (ndT (ndT (ndT (ndT hnd9))))))) rfl (updT (ndT (ndT (ndT (ndT (ndT (ndT (ndT (ndT hnd9)))))))) rfl (updT (ndT (ndT (ndT (ndT (ndT (ndT (ndT (ndT (ndT hnd9))))))))) rfl (updT (ndT (ndT (ndT (ndT (ndT (ndT (ndT (ndT (ndT (ndT hnd9)))))))))) rfl (updT (ndT (ndT (ndT (ndT (ndT (ndT (ndT (ndT (ndT (ndT (ndT hnd9))))))))))) rfl (updT (ndT (ndT (ndT (ndT (ndT (ndT (ndT (ndT (ndT (ndT (ndT (ndT hnd9)))))))))))) rfl (updH (ndT (ndT (ndT (ndT (ndT (ndT (ndT (ndT (ndT (ndT (ndT (ndT (ndT hnd9))))))))))))) rfl)))))))))))))); (case m => k_mem); (case d => k_asm); (case d2 => k_asm); (case ne => exact Ne.symm (ndne (ndT (ndT hnd9)) (by repeat (first | exact List.Mem.head _ | refine List.Mem.tail _ ?_)))); (case lo => k_asm); (case z => kob_size))
  intro h9 o9 F9 N9 hd9
  rw [merged2] at hd9
  (try dsimp only at N9)
  (try k_sweep)
  with_reducible rename Obj.IsDictOf _ _ (intKeyPairs [(_, Value.ref _), _, _]) => hopn9
  with_reducible rename Obj.IsDictOf _ _ (intKeyPairs [(_, Value.none), _, _]) => hend9
  refine' Exists.elim (law_pack2 w isp (hR2.trans (by rw [hR1])) hq N9 hnd9 hd9 hopn9 hend9) ?_
  clear hnd9 hR2 hR1 hq
  rintro g ⟨pg, c, N10, st0, sp0, rfl, rfl, rfl⟩
  have inv0 := inv_start' isp ((bits.fdiv 2).fmod 2 == 1) (bits.fdiv 4 == 1) (bits.fmod 2 == 1)
  generalize LS.start isp ((bits.fdiv 2).fmod 2 == 1) (bits.fdiv 4 == 1) (bits.fmod 2 == 1) = S0 at st0 inv0
  clear hd9 hopn9 hend9 hd8
  repeat (rename Obj.IsDictOf _ _ _ => hdz; clear hdz)
  repeat (rename _ < _ ∧ _ => hdz; clear hdz)
  k_steps
  unfold Halt
  rename Fr _ _ _ _ => Ff
  k_dflt (refine ConK.use (c_takeK _ l' sl _ (List.take 40 script) hscr _ c' (W0 w g pg (c.cells w ++ tups g.forth)) hlen (0 + 1 + 1) kt2 (by decide) (by decide) (wl_boxS sp0) _ _ (by decide) (by decide)) (by k_asm) Ff (by k_asm) (wl_box N10) (by k_asm) rfl (by ktr_room) (by ktr_units) ?_)
  intro r t4 kt4 n4 hr0 hr1 h4 tk4 F4 N4
  clear Ff N10
  first | ((with_reducible refine hideW ?_); intro G9 k9; obtain ⟨hsm8, hsz8⟩ := range8 r hr0 hr1; refine k9 ?_; clear k9 G9) | (obtain ⟨hsm8, hsz8⟩ := range8 r hr0 hr1)
  generalize hW : W0 w g pg (c.cells w ++ tups g.forth) = Wz at N4
  k_steps
  unfold Halt
  rename Fr _ _ _ _ => lF
  rename News _ _ _ _ => lN
  rename IsRange _ _ _ _ _ _ _ _ => hrg
  subst hW
  refine iter_rangeUnr (n := (8 + r).toNat) (by rfl) hrg hsm8 hsz8 lF (show News _ _ _ (LG.led w c l' sl (listOf ws.toArray c') ⟨g, pg, c.n, S0, 0 + 1 + 1 + 1, kt4, n4⟩) from box_wl lN) ?_
  intro I hI
  clear lF lN hrg
  refine rangeRest_ofF (Str.ofString "form") (LG.led w c l' sl (listOf ws.toArray c')) (LawJ w g.nd pg.p c l' sl (listOf ws.toArray c')) ?_ ?_ ⟨g, pg, c.n, S0, 0 + 1 + 1 + 1, kt4, n4⟩ ⟨st0, inv0, (by decide : (0 : Int) ≤ 0 + 1 + 1 + 1), (by decide : (0 : Int) + 1 + 1 + 1 ≤ 3 + 2 * 0), rfl, rfl, box_wlS ((wl_boxS sp0).congr rfl)⟩ hI
  · clear hI st0 inv0 sp0
    intro i t it h5 tk5 uf ut q hi J1 hoff F5 N5
    have rd1 := inv_ready' J1.inv (by omega)
    have inv2 := fun form pick => inv_deed' J1.inv (by omega) form pick
    have hk1 := J1.k1
    have hk0 := J1.k0
    have spI : Sep ((I, it) :: q.led w c l' sl (listOf ws.toArray c')) := ⟨hoff, J1.sep⟩
    clear hoff
    k_steps
    unfold Halt
    rename Fr _ _ _ _ => Ff
    rename News _ _ _ _ => Nf
    k_dflt (refine ConK.use (c_takeK w l' sl ws (List.take 40 script) hscr q.n c' _ hlen q.k q.kt hk0 (by omega) (wl_boxIS spI) _ _ (by decide) (by decide)) (by k_asm) Ff (by k_asm) (wl_boxI Nf) (by k_asm) rfl (by ktr_room) (by ktr_units) ?_)
    intro form t6 kt6 n6 hf0 hf1 h6 tk6 F6 N6
    clear Nf Ff
    k_steps
    unfold Halt
    rename Fr _ _ _ _ => Ff
    rename News _ _ _ _ => Nf
    k_dflt (refine ConK.use (c_takeK w l' sl ws (List.take 40 script) hscr n6 c' _ hlen (q.k + 1) kt6 (by omega) (by omega) ((wl_boxIS spI).congr rfl) _ _ (by decide) (by decide)) (by k_asm) Ff (by k_asm) Nf (by k_asm) rfl (by ktr_room) (by ktr_units) ?_)
    intro pick t7 kt7 n7 hp0 hp1 h7 tk7 F7 N7
    clear Nf Ff
    k_steps
    unfold Halt
    rename Fr _ _ _ _ => Ff
    rename News _ _ _ _ => Nf
    k_dflt (refine ConK.use (((c_deed w q.g q.pg { c with n := q.cn } q.S J1.st [(l', listOf #[.ref sl, .int (q.k + 1 + 1) kt7] n7), (sl, listOf ws.toArray c'), (I, it)] (box_wlIS ((wl_boxIS spI).congr rfl)) rd1 form pick _ _ (by omega)).toKL).at2 J1.nd J1.p) (by k_asm) Ff (by k_asm) (box_wlI Nf) (by k_asm) rfl (by ktr_room) (by ktr_units) ?_)
    intro g2 pg2 cn2 st2 e3 e4 sp2 h8 tk8 F8 N8
    clear Nf Ff
    have rd2 := inv_ready' (inv2 form pick) (by omega)
    k_steps
    unfold Halt
    rename Fr _ _ _ _ => Ff
    rename News _ _ _ _ => Nf
    k_dflt (refine ConK.use ((c_stands w g2 pg2 (q.S.deed form pick) st2 _ rd2.good rd2.act rd2.act3 rd2.perm rd2.hears rd2.ends).toKS.at2 (e3.trans J1.nd) (e4.trans J1.p)) (by k_asm) Ff (by k_asm) Nf (by k_asm) rfl (by ktr_room) (by ktr_units) ?_)
    intro h9 tk9 F9 N9
    clear Nf Ff
    k_steps
    unfold Halt
    rename Fr _ _ _ _ => Ff
    rename News _ _ _ _ => Nf
    refine UnrEnd.intro Ff (wl_i Nf) _ (fun _ h => h) (wl_iS sp2).1 ⟨ft_step _ _ _ _ _ _ _, ⟨g2, pg2, cn2, q.S.deed form pick, q.k + 1 + 1, kt7, n7⟩, rfl, ⟨st2, inv2 form pick, (by omega : 0 ≤ q.k + 1 + 1), (by omega : q.k + 1 + 1 ≤ 3 + 2 * ((i + 1 : Nat) : Int)), e3.trans J1.nd, e4.trans J1.p, (wl_iS sp2).2⟩⟩
  · clear hI st0 inv0 sp0
    intro h5 tk5 uf ut q J1 F5 N5
    have hb13 : (8 + r).toNat ≤ 13 := by omega
    k_steps
    unfold Halt
    rename Fr _ _ _ _ => Ff
    rename News _ _ _ _ => Nf
    k_dflt (refine ConK.use ((c_all_come (Inv (8 + r).toNat) (fun S h => inv_ready' h (by omega)) (fun S h _ => inv_comes0' h) (fun S h _ => inv_answer' h 0) w q.g q.pg { c with n := q.cn } q.S J1.st [(l', listOf #[.ref sl, .int q.k q.kt] q.n), (sl, listOf ws.toArray c')] J1.sep J1.inv).toKL.at2 J1.nd J1.p) (by k_asm) Ff (by k_asm) Nf (by k_asm) rfl (by ktr_room) (by ktr_units) ?_)
    intro g2 pg2 cn2 st2 e3 e4 sp2 h6 tk6 F6 N6
    clear Nf Ff
    have d2 := e3.trans J1.nd
    have p2 := e4.trans J1.p
    have inv2 := inv_allCome' J1.inv
    clear e3 e4
    generalize q.S.allCome = S2 at st2 inv2
    have rd2 := inv_ready' inv2 (by omega)
    k_steps
    unfold Halt
    rename Fr _ _ _ _ => Ff
    rename News _ _ _ _ => Nf
    k_dflt (refine ConK.use ((c_passes w g2 pg2 S2 st2 _ sp2 rd2.good rd2.act 1 _ (rd2.psm 1 (by decide)) (rd2.p3 1 (by decide)) (rd2.pok 1 (by decide))).toKW.at2 d2 p2) (by k_asm) Ff (by k_asm) Nf (by k_asm) rfl (by ktr_room) (by ktr_units) ?_)
    intro g3 pg3 st3 e5 e6 e7 sp3 h7 tk7 F7 N7
    clear Nf Ff
    have d3 := e5.trans d2
    have p3 := e6.trans p2
    have inv3 := inv_passes' inv2 (wait := 1) (by decide)
    have rd3 := inv_ready' inv3 (by omega)
    k_steps
    unfold Halt
    rename Fr _ _ _ _ => Ff
    rename News _ _ _ _ => Nf
    k_dflt (refine ConK.use ((c_asks w g3 pg3 (S2.passes 1) st3 _ sp3 rd3.good rd3.act rd3.act3 rd3.c0 rd3.c1 rd3.free).toKA.at2 d3 p3) (by k_asm) Ff (by k_asm) Nf (by k_asm) rfl (by ktr_room) (by ktr_units) ?_)
    intro g4 pg4 more st4 e8 e9 e10 sp4 h8 tk8 F8 N8
    clear Nf Ff
    have d4 := e8.trans d3
    have p4 := e9.trans p3
    have inv4 := inv_asks' inv3 (by omega)
    have nx := asked_wl (e10.trans (by rw [e7])) N8 sp4
    have N9 := nx.1
    have sp9 := nx.2
    clear nx N8 sp4 e10 e7
    have hend1 := here_of inv3 (by omega) (passes_wants _ _)
    have hseen := seen_of inv3 (by omega) (passes_wants _ _)
    generalize (S2.passes 1).asks = S4 at st4 inv4 hend1 hseen
    k_steps
    unfold Halt
    rename Fr _ _ _ _ => Ff
    rename News _ _ _ _ => Nf
    k_dflt (refine ConK.use ((c_all_come (Inv ((8 + r).toNat + 1 + 1)) (fun S h => inv_ready' h (by omega)) (fun S h _ => inv_comes0' h) (fun S h _ => inv_answer' h 0) w g4 pg4 { c with n := cn2 } S4 st4 [(l', listOf #[.ref sl, .int q.k q.kt] q.n), (sl, listOf ws.toArray c')] sp9 inv4).toKL.at2 d4 p4) (by k_asm) Ff (by k_asm) Nf (by k_asm) rfl (by ktr_room) (by ktr_units) ?_)
    intro g5 pg5 cn5 st5 e11 e12 sp5 h10 tk10 F10 N10
    clear Nf Ff
    have d5 := e11.trans d4
    have p5 := e12.trans p4
    have inv5 := inv_allCome' inv4
    have hend2 := deads_of inv5
    have hend3 := last_of inv5 hseen
    generalize S4.allCome = S5 at st5 inv5 hend1 hend2 hend3
    have rd5 := inv_ready' inv5 (by omega)
    have hact5 := rd5.act3
    rw [← rd5.act] at hact5
    rw [← st5.nabs] at hend1 hact5
    have hact5' : g5.active < 3 := hact5
    have hnet5 := st5.ok.net
    have hsm5 := sm_of st5.nabs rd5.good.sm
    have hpl5 := hsm5.proven
    have hfl5 := hsm5.failed
    clear hseen hact5 hsm5
    have hend1' : g5.hAt g5.active = true → (((g5.proven.map ival) ++ (g5.failed.map ival)).any (isI (g5.active : Int))) = true := fun h => by
      rw [List.any_append, any_isI, any_isI]
      have h9 := hend1 h
      rw [List.mem_append] at h9
      rw [Bool.or_eq_true]
      refine h9.imp ?_ ?_
      · intro h8
        have h7 : (g5.active : Int) ∈ fsts g5.proven := h8
        simpa using h7
      · intro h8
        have h7 : (g5.active : Int) ∈ fsts g5.failed := h8
        simpa using h7
    have hitb := item_h g5 hact5'
    obtain ⟨T5, N11, sp6⟩ : ∃ T5, News _ _ h10 (W0 w g5 pg5 T5) ∧ Sep (W0 w g5 pg5 T5) := ⟨_, N10, sp5⟩
    obtain ⟨R5, hR5, N12⟩ : ∃ R5, R5 = catB ([2 + 1, 5, 6, 7, 8, 9, 10, 11].map (nthB (headB 12 (g5.cells ++ (pg5.hdr w ++ (flat w pg5.known ++ T5))) [pg5.hdr w, flat w pg5.known, T5])) ++ [pg5.hdr w, flat w pg5.known, T5]) ∧ News _ _ h10 ((g5.nd, g5.nob) :: (g5.hl, listOf #[.bool g5.h0, .bool g5.h1, .bool g5.h2] g5.hn) :: (g5.fl, il g5.failed g5.fn) :: (g5.pl, il g5.proven g5.pn) :: R5) :=
      ⟨_, rfl, News.selY N11 12 [pg5.hdr w, flat w pg5.known, T5] [0, 1, 2, 4, 3, 5, 6, 7, 8, 9, 10, 11, 12, 13, 14] rfl⟩
    rw [d5] at N12
    clear N10 N11 sp5 hend1
    k_steps
    unfold Halt
    rename Fr _ _ _ _ => Ff
    rename News _ _ _ _ => Nf
    refine cutS Nf Ff (α := Unit) (fun _ => True) (fun _ => (g.nd, g5.nob) :: (g5.hl, listOf #[.bool g5.h0, .bool g5.h1, .bool g5.h2] g5.hn) :: (g5.fl, il g5.failed g5.fn) :: (g5.pl, il g5.proven g5.pn) :: R5) ?_ ?_
    · intro Q' hQ'
      refine wpAny_If ?_
      by_cases hbt : g5.hAt g5.active = true
      · have hk9 := hend1' hbt
        rw [hbt] at hitb
        k_steps
        rename News _ _ _ _ => Nf
        exact hQ' () _ _ trivial (by k_asm) (cb_drop Nf (fun q hq => by repeat (first | exact hq | refine List.Mem.tail _ ?_)))
      · rw [Bool.not_eq_true] at hbt
        rw [hbt] at hitb
        k_steps
        rename News _ _ _ _ => Nf
        exact hQ' () _ _ trivial (by k_asm) (cb_drop Nf (fun q hq => by repeat (first | exact hq | refine List.Mem.tail _ ?_)))
    intro u9 h11 tk11 _ F11 N13
    clear Nf Ff hitb hend1'
    rw [hR5, ← d5] at N13
    have N14 : News _ _ _ (W0 w g5 pg5 T5) := News.selY N13 4 ([2 + 1, 5, 6, 7, 8, 9, 10, 11].map (nthB (headB 12 (g5.cells ++ (pg5.hdr w ++ (flat w pg5.known ++ T5))) [pg5.hdr w, flat w pg5.known, T5])) ++ [pg5.hdr w, flat w pg5.known, T5]) [0, 1, 2, 4, 3, 5, 6, 7, 8, 9, 10, 11, 12, 13, 14] rfl
    clear N13
    k_steps
    unfold Halt
    rename Fr _ _ _ _ => Ff
    rename News _ _ _ _ => Nf
    k_dflt (refine ConK.use ((c_passes w g5 pg5 S5 st5 T5 sp6 rd5.good rd5.act 1000 _ (rd5.psm 1000 (by decide)) (rd5.p3 1000 (by decide)) (rd5.pok 1000 (by decide))).toKW.at2 d5 p5) (by k_asm) Ff (by k_asm) Nf (by k_asm) rfl (by ktr_room) (by ktr_units) ?_)
    intro g6 pg6 st6 e13 e14 e15 sp7 h12 tk12 F12 N15
    clear Nf Ff
    have d6 := e13.trans d5
    have p6 := e14.trans p5
    have inv6 := inv_passes' inv5 (wait := 1000) (by decide)
    have rd6 := inv_ready' inv6 (by omega)
    k_steps
    unfold Halt
    rename Fr _ _ _ _ => Ff
    rename News _ _ _ _ => Nf
    k_dflt (refine ConK.use ((c_stands w g6 pg6 (S5.passes 1000) st6 T5 rd6.good rd6.act rd6.act3 rd6.perm rd6.hears rd6.ends).toKS.at2 d6 p6) (by k_asm) Ff (by k_asm) Nf (by k_asm) rfl (by ktr_room) (by ktr_units) ?_)
    intro h13 tk13 F13 N16
    clear Nf Ff
    have hnet6 := st6.ok.net
    have hsm6 := sm_of st6.nabs rd6.good.sm
    have hpl6 := hsm6.proven
    rw [← st6.nabs] at hend3
    have fc6 := facts_of st6 rd6.good
    obtain ⟨R6, hR6, N17⟩ : ∃ R6, R6 = _ ∧ News _ _ h13 ((g6.nd, g6.nob) :: (g6.pl, il g6.proven g6.pn) :: (pg6.hdr w ++ (flat w pg6.known ++ R6))) :=
      ⟨_, rfl, News.selY N16 12 [pg6.hdr w, flat w pg6.known, T5] [0, 4, 12, 13, 1, 2, 3, 5, 6, 7, 8, 9, 10, 11, 14] rfl⟩
    dsimp only [PG.hdr, PG.dict, List.cons_append, List.nil_append] at N17
    rw [d6, p6] at N17
    clear hR6 N16 hsm6
    k_steps
    unfold Halt
    rename Fr _ _ _ _ => Ff
    rename News _ _ _ _ => Nf
    rw [← p6] at Nf
    k_dflt (refine ConK.use ((c_next_timeN w pg6 ((g.nd, g6.nob) :: (g6.pl, il g6.proven g6.pn) :: R6) fc6.len (by rw [st6.kabs, hend2])).at1 p6) (by k_asm) Ff (by k_asm) (News.selY Nf 5 [flat w pg6.known, R6] [2, 3, 4, 5, 0, 1, 6] rfl) (by k_asm) rfl (by ktr_room) (by ktr_units) ?_)
    intro h14 tk14 F14 N18
    clear Nf Ff
    have N19 : News _ _ _ ((g.nd, g6.nob) :: (g6.pl, il g6.proven g6.pn) :: R6) := News.selY N18 3 [flat w pg6.known, [_], [_], R6] [4, 5, 6] rfl
    clear N18
    rcases hend3 with h9 | h9
    · have h8 : (g6.active : Int) ∈ fsts g6.proven := h9
      have hk6 := any_ints h8
      k_steps
    · have h8 : fsts g6.proven = [] := h9
      have hpe6 : (g6.proven.map ival).isEmpty = true := by
        have h7 : g6.proven = [] := List.map_eq_nil_iff.mp h8
        rw [h7]; rfl
      have hk6 := any_intsN (l := g6.proven) (x := (g6.active : Int)) (by rw [h8]; exact List.not_mem_nil)
      k_steps

end
theorem back_N14 {M : Model} {A : Around} {E : Value → Shared → Prop} {s : Shared} {Q : Unit → Shared → Prop} (h : wpAny M A (PySem.setItem .none .none .none) Q E s) : wpAny M A (PySem.setItem .none .none .none) Q E s := by first | (walk1; fail) | exact h
end Mine

theorem PySem.Challenge.cw_sj0113_01_holds : PySem.Challenge.rw_sj0113_01.Holds := by
  exact Mine.law_holds

