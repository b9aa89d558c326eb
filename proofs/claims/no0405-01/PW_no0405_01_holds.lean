import PyProof.Rows.All
import Wide.All
import OpenK.AllK
import Wide.FinOn
import PySem.Challenge.RW_no0405_01
open PySem PySem.W PyProof.Rows
set_option Elab.async false
set_option maxRecDepth 100000
set_option maxHeartbeats 8000000
set_option compiler.extract_closed false
namespace Sk
/-! the head by hand: the written heap, the view, and the top run whole by the kernel -/
/-! the given program's functions, taken out of it by their number -/
noncomputable def fd1 : List Stmt → List (Arguments × List Stmt × Scope)
  | [] => []
  | .FunctionDef _ a b _ _ _ sc _ _ _ :: r => (a, b, sc) :: fd1 r
  | _ :: r => fd1 r
noncomputable def fd2 : List Stmt → List (Arguments × List Stmt × Scope)
  | [] => []
  | .FunctionDef _ a b _ _ _ sc _ _ _ :: r => (a, b, sc) :: fd2 r
  | .ClassDef _ _ _ b _ _ _ _ _ _ _ :: r => fd1 b ++ fd2 r
  | _ :: r => fd2 r
noncomputable def fdN : Nat → List (Arguments × List Stmt × Scope) → Arguments × List Stmt × Scope
  | _, [] => ({ posonlyargs := [], args := [], vararg := none, kwonlyargs := [], kw_defaults := [], kwarg := none, defaults := [] }, [], { kind := .function, names := [], isGenerator := false, isCoroutine := false })
  | 0, x :: _ => x
  | n + 1, _ :: r => fdN n r
noncomputable def fp (n : Nat) : Arguments := (fdN n (fd2 PySem.Challenge.pw_no0405_01.main.body)).1
noncomputable def fb (n : Nat) : List Stmt := (fdN n (fd2 PySem.Challenge.pw_no0405_01.main.body)).2.1
noncomputable def fs (n : Nat) : Scope := (fdN n (fd2 PySem.Challenge.pw_no0405_01.main.body)).2.2
noncomputable def K : Params → Frag := fun P =>
  (nat_lit 2, { cls := Value.none, data := Data.dict #[{ hash := PyData.keyHash P (Str.ofString "type.__subclasses__.Exception.0"), key := Value.str (Str.ofString "type.__subclasses__.Exception.0") 212, val := Value.int 31 0 }, { hash := PyData.keyHash P (Str.ofString "type.__subclasses__.Exception.n"), key := Value.str (Str.ofString "type.__subclasses__.Exception.n") 213, val := Value.int 1 0 }] 2 }) ::
  (nat_lit 3, { cls := Value.type "dict", data := Data.dict #[{ hash := PyData.keyHash P (Str.ofString "__name__"), key := Value.str (Str.ofString "__name__") 165, val := Value.str (Str.ofString "law_no0405_01") 643 }, { hash := PyData.keyHash P (Str.ofString "__doc__"), key := Value.str (Str.ofString "__doc__") 166, val := Value.none }, { hash := PyData.keyHash P (Str.ofString "__package__"), key := Value.str (Str.ofString "__package__") 167, val := Value.none }, { hash := PyData.keyHash P (Str.ofString "__loader__"), key := Value.str (Str.ofString "__loader__") 168, val := Value.builtin "__main__.__loader__#opaque" }, { hash := PyData.keyHash P (Str.ofString "__spec__"), key := Value.str (Str.ofString "__spec__") 169, val := Value.none }, { hash := PyData.keyHash P (Str.ofString "__annotations__"), key := Value.str (Str.ofString "__annotations__") 170, val := Value.ref 6 }, { hash := PyData.keyHash P (Str.ofString "__builtins__"), key := Value.str (Str.ofString "__builtins__") 171, val := Value.ref 4 }, { hash := PyData.keyHash P (Str.ofString "__file__"), key := Value.str (Str.ofString "__file__") 173, val := Value.str (Str.ofString "/claim/cut.py") 172 }, { hash := PyData.keyHash P (Str.ofString "__cached__"), key := Value.str (Str.ofString "__cached__") 174, val := Value.none }, { hash := PyData.keyHash P (Str.ofString "_wall"), key := Value.str (Str.ofString "_wall") 193, val := Value.ref 21 }, { hash := PyData.keyHash P (Str.ofString "KeepError"), key := Value.str (Str.ofString "KeepError") 215, val := Value.ref 31 }, { hash := PyData.keyHash P (Str.ofString "StoreError"), key := Value.str (Str.ofString "StoreError") 231, val := Value.ref 44 }, { hash := PyData.keyHash P (Str.ofString "Corrupt"), key := Value.str (Str.ofString "Corrupt") 247, val := Value.ref 56 }, { hash := PyData.keyHash P (Str.ofString "ShortOctets"), key := Value.str (Str.ofString "ShortOctets") 263, val := Value.ref 68 }, { hash := PyData.keyHash P (Str.ofString "BadOption"), key := Value.str (Str.ofString "BadOption") 279, val := Value.ref 80 }, { hash := PyData.keyHash P (Str.ofString "BuildOrder"), key := Value.str (Str.ofString "BuildOrder") 295, val := Value.ref 92 }, { hash := PyData.keyHash P (Str.ofString "read_fixed32"), key := Value.str (Str.ofString "read_fixed32") 305, val := Value.ref 101 }, { hash := PyData.keyHash P (Str.ofString "read_fixed64"), key := Value.str (Str.ofString "read_fixed64") 313, val := Value.ref 108 }, { hash := PyData.keyHash P (Str.ofString "TAG_LENGTH"), key := Value.str (Str.ofString "TAG_LENGTH") 317, val := Value.int 8 316 }, { hash := PyData.keyHash P (Str.ofString "user_of"), key := Value.str (Str.ofString "user_of") 324, val := Value.ref 115 }, { hash := PyData.keyHash P (Str.ofString "tag_of"), key := Value.str (Str.ofString "tag_of") 331, val := Value.ref 122 }, { hash := PyData.keyHash P (Str.ofString "Order"), key := Value.str (Str.ofString "Order") 384, val := Value.ref 160 }, { hash := PyData.keyHash P (Str.ofString "BytesOrder"), key := Value.str (Str.ofString "BytesOrder") 424, val := Value.ref 195 }, { hash := PyData.keyHash P (Str.ofString "InternalOrder"), key := Value.str (Str.ofString "InternalOrder") 494, val := Value.ref 249 }, { hash := PyData.keyHash P (Str.ofString "check_heights"), key := Value.str (Str.ofString "check_heights") 503, val := Value.ref 258 }, { hash := PyData.keyHash P (Str.ofString "Tower"), key := Value.str (Str.ofString "Tower") 536, val := Value.ref 275 }, { hash := PyData.keyHash P (Str.ofString "SkipList"), key := Value.str (Str.ofString "SkipList") 642, val := Value.ref 345 }, { hash := PyData.keyHash P (Str.ofString "_law_users"), key := Value.str (Str.ofString "_law_users") 650, val := Value.ref 356 }, { hash := PyData.keyHash P (Str.ofString "_law_draw"), key := Value.str (Str.ofString "_law_draw") 658, val := Value.ref 363 }, { hash := PyData.keyHash P (Str.ofString "_law_key"), key := Value.str (Str.ofString "_law_key") 665, val := Value.ref 370 }, { hash := PyData.keyHash P (Str.ofString "_law_rank"), key := Value.str (Str.ofString "_law_rank") 674, val := Value.ref 377 }, { hash := PyData.keyHash P (Str.ofString "_law_refused"), key := Value.str (Str.ofString "_law_refused") 683, val := Value.ref 384 }, { hash := PyData.keyHash P (Str.ofString "_law_floor"), key := Value.str (Str.ofString "_law_floor") 694, val := Value.ref 391 }, { hash := PyData.keyHash P (Str.ofString "_law_stands"), key := Value.str (Str.ofString "_law_stands") 700, val := Value.ref 396 }, { hash := PyData.keyHash P (Str.ofString "_law_told"), key := Value.str (Str.ofString "_law_told") 707, val := Value.ref 403 }, { hash := PyData.keyHash P (Str.ofString "_law_finds"), key := Value.str (Str.ofString "_law_finds") 713, val := Value.ref 408 }, { hash := PyData.keyHash P (Str.ofString "law"), key := Value.str (Str.ofString "law") 719, val := Value.ref 413 }] 37 }) ::
  (nat_lit 15, { cls := Value.type "tuple", data := Data.seq #[] }) ::
  (nat_lit 17, { cls := Value.type "tuple", data := Data.seq #[Value.str (Str.ofString "k") 190] }) ::
  (nat_lit 18, { cls := Value.type "tuple", data := Data.seq #[] }) ::
  (nat_lit 20, { cls := Value.type "code", data := Data.fields #[Value.str (Str.ofString "_wall") 187, Value.str (Str.ofString "_wall") 188, Value.str (Str.ofString "/claim/cut.py") 189, Value.int 1 0, Value.int 1 0, Value.int 0 0, Value.int 0 0, Value.int 3 0, Value.ref 15, Value.bool true, Value.int 181 0, Value.ref 16, Value.none, Value.ref 17, Value.ref 18, Value.ref 19, Value.int 191 0, Value.int 1 0, Value.str (Str.ofString "/claim/cut.py") 192] }) ::
  (nat_lit 21, { cls := Value.type "function", data := Data.func { name := Str.ofString "_wall", qualname := Str.ofString "_wall", params := Sk.fp 0, body := FuncBody.stmts (Sk.fb 0), scope := Sk.fs 0, globals := 3, closure := [], defaults := Value.none, kwdefaults := Value.none, pyModule := Value.str (Str.ofString "__main__") 164, code := Value.ref 20 } }) ::
  (nat_lit 22, { cls := Value.type "tuple", data := Data.seq #[Value.type "Exception"] }) ::
  (nat_lit 29, { cls := Value.type "tuple", data := Data.seq #[] }) ::
  (nat_lit 30, { cls := Value.type "dict", data := Data.dict #[{ hash := PyData.keyHash P (Str.ofString "__module__"), key := Value.str (Str.ofString "__module__") 203, val := Value.str (Str.ofString "raftkeep.errors") 194 }, { hash := PyData.keyHash P (Str.ofString "__firstlineno__"), key := Value.str (Str.ofString "__firstlineno__") 207, val := Value.int 5 206 }, { hash := PyData.keyHash P (Str.ofString "__static_attributes__"), key := Value.str (Str.ofString "__static_attributes__") 208, val := Value.ref 29 }, { hash := PyData.keyHash P (Str.ofString "__weakref__"), key := Value.str (Str.ofString "__weakref__") 210, val := Value.ref 32 }, { hash := PyData.keyHash P (Str.ofString "__doc__"), key := Value.str (Str.ofString "__doc__") 211, val := Value.none }] 3 }) ::
  (nat_lit 31, { cls := Value.type "type", data := Data.cls { name := Str.ofString "KeepError", bases := [Value.type "Exception"], mro := [Value.ref 31, Value.type "Exception", Value.type "BaseException", Value.type "object"], ns := 30, qualname := Str.ofString "KeepError", subclasses := [Value.ref 44] }, slots := #[some (Value.ref 22), none, some (Value.str (Str.ofString "KeepError") 196), some (Value.str (Str.ofString "KeepError") 204), some (Value.builtin "Exception.__new__"), some (Value.bool true)] }) ::
  (nat_lit 32, { cls := Value.type "getset_descriptor", data := Data.fields #[Value.str (Str.ofString "__weakref__") 209, Value.ref 31, Value.builtin "ExceptionGroup.__weakref__", Value.none] }) ::
  (nat_lit 35, { cls := Value.type "tuple", data := Data.seq #[Value.ref 31] }) ::
  (nat_lit 42, { cls := Value.type "tuple", data := Data.seq #[] }) ::
  (nat_lit 43, { cls := Value.type "dict", data := Data.dict #[{ hash := PyData.keyHash P (Str.ofString "__module__"), key := Value.str (Str.ofString "__module__") 223, val := Value.str (Str.ofString "raftkeep.errors") 194 }, { hash := PyData.keyHash P (Str.ofString "__firstlineno__"), key := Value.str (Str.ofString "__firstlineno__") 227, val := Value.int 7 226 }, { hash := PyData.keyHash P (Str.ofString "__static_attributes__"), key := Value.str (Str.ofString "__static_attributes__") 228, val := Value.ref 42 }, { hash := PyData.keyHash P (Str.ofString "__doc__"), key := Value.str (Str.ofString "__doc__") 229, val := Value.none }] 2 }) ::
  (nat_lit 44, { cls := Value.type "type", data := Data.cls { name := Str.ofString "StoreError", bases := [Value.ref 31], mro := [Value.ref 44, Value.ref 31, Value.type "Exception", Value.type "BaseException", Value.type "object"], ns := 43, qualname := Str.ofString "StoreError", subclasses := [Value.ref 56, Value.ref 80, Value.ref 92] }, slots := #[some (Value.ref 35), none, some (Value.str (Str.ofString "StoreError") 216), some (Value.str (Str.ofString "StoreError") 224), some (Value.builtin "Exception.__new__"), some (Value.bool true)] }) ::
  (nat_lit 47, { cls := Value.type "tuple", data := Data.seq #[Value.ref 44] }) ::
  (nat_lit 54, { cls := Value.type "tuple", data := Data.seq #[] }) ::
  (nat_lit 55, { cls := Value.type "dict", data := Data.dict #[{ hash := PyData.keyHash P (Str.ofString "__module__"), key := Value.str (Str.ofString "__module__") 239, val := Value.str (Str.ofString "raftkeep.errors") 194 }, { hash := PyData.keyHash P (Str.ofString "__firstlineno__"), key := Value.str (Str.ofString "__firstlineno__") 243, val := Value.int 9 242 }, { hash := PyData.keyHash P (Str.ofString "__static_attributes__"), key := Value.str (Str.ofString "__static_attributes__") 244, val := Value.ref 54 }, { hash := PyData.keyHash P (Str.ofString "__doc__"), key := Value.str (Str.ofString "__doc__") 245, val := Value.none }] 2 }) ::
  (nat_lit 56, { cls := Value.type "type", data := Data.cls { name := Str.ofString "Corrupt", bases := [Value.ref 44], mro := [Value.ref 56, Value.ref 44, Value.ref 31, Value.type "Exception", Value.type "BaseException", Value.type "object"], ns := 55, qualname := Str.ofString "Corrupt", subclasses := [Value.ref 68] }, slots := #[some (Value.ref 47), none, some (Value.str (Str.ofString "Corrupt") 232), some (Value.str (Str.ofString "Corrupt") 240), some (Value.builtin "Exception.__new__"), some (Value.bool true)] }) ::
  (nat_lit 59, { cls := Value.type "tuple", data := Data.seq #[Value.ref 56] }) ::
  (nat_lit 66, { cls := Value.type "tuple", data := Data.seq #[] }) ::
  (nat_lit 67, { cls := Value.type "dict", data := Data.dict #[{ hash := PyData.keyHash P (Str.ofString "__module__"), key := Value.str (Str.ofString "__module__") 255, val := Value.str (Str.ofString "raftkeep.errors") 194 }, { hash := PyData.keyHash P (Str.ofString "__firstlineno__"), key := Value.str (Str.ofString "__firstlineno__") 259, val := Value.int 11 258 }, { hash := PyData.keyHash P (Str.ofString "__static_attributes__"), key := Value.str (Str.ofString "__static_attributes__") 260, val := Value.ref 66 }, { hash := PyData.keyHash P (Str.ofString "__doc__"), key := Value.str (Str.ofString "__doc__") 261, val := Value.none }] 2 }) ::
  (nat_lit 68, { cls := Value.type "type", data := Data.cls { name := Str.ofString "ShortOctets", bases := [Value.ref 56], mro := [Value.ref 68, Value.ref 56, Value.ref 44, Value.ref 31, Value.type "Exception", Value.type "BaseException", Value.type "object"], ns := 67, qualname := Str.ofString "ShortOctets" }, slots := #[some (Value.ref 59), none, some (Value.str (Str.ofString "ShortOctets") 248), some (Value.str (Str.ofString "ShortOctets") 256), some (Value.builtin "Exception.__new__"), some (Value.bool true)] }) ::
  (nat_lit 71, { cls := Value.type "tuple", data := Data.seq #[Value.ref 44] }) ::
  (nat_lit 78, { cls := Value.type "tuple", data := Data.seq #[] }) ::
  (nat_lit 79, { cls := Value.type "dict", data := Data.dict #[{ hash := PyData.keyHash P (Str.ofString "__module__"), key := Value.str (Str.ofString "__module__") 271, val := Value.str (Str.ofString "raftkeep.errors") 194 }, { hash := PyData.keyHash P (Str.ofString "__firstlineno__"), key := Value.str (Str.ofString "__firstlineno__") 275, val := Value.int 13 274 }, { hash := PyData.keyHash P (Str.ofString "__static_attributes__"), key := Value.str (Str.ofString "__static_attributes__") 276, val := Value.ref 78 }, { hash := PyData.keyHash P (Str.ofString "__doc__"), key := Value.str (Str.ofString "__doc__") 277, val := Value.none }] 2 }) ::
  (nat_lit 80, { cls := Value.type "type", data := Data.cls { name := Str.ofString "BadOption", bases := [Value.ref 44], mro := [Value.ref 80, Value.ref 44, Value.ref 31, Value.type "Exception", Value.type "BaseException", Value.type "object"], ns := 79, qualname := Str.ofString "BadOption" }, slots := #[some (Value.ref 71), none, some (Value.str (Str.ofString "BadOption") 264), some (Value.str (Str.ofString "BadOption") 272), some (Value.builtin "Exception.__new__"), some (Value.bool true)] }) ::
  (nat_lit 83, { cls := Value.type "tuple", data := Data.seq #[Value.ref 44] }) ::
  (nat_lit 90, { cls := Value.type "tuple", data := Data.seq #[] }) ::
  (nat_lit 91, { cls := Value.type "dict", data := Data.dict #[{ hash := PyData.keyHash P (Str.ofString "__module__"), key := Value.str (Str.ofString "__module__") 287, val := Value.str (Str.ofString "raftkeep.errors") 194 }, { hash := PyData.keyHash P (Str.ofString "__firstlineno__"), key := Value.str (Str.ofString "__firstlineno__") 291, val := Value.int 15 290 }, { hash := PyData.keyHash P (Str.ofString "__static_attributes__"), key := Value.str (Str.ofString "__static_attributes__") 292, val := Value.ref 90 }, { hash := PyData.keyHash P (Str.ofString "__doc__"), key := Value.str (Str.ofString "__doc__") 293, val := Value.none }] 2 }) ::
  (nat_lit 92, { cls := Value.type "type", data := Data.cls { name := Str.ofString "BuildOrder", bases := [Value.ref 44], mro := [Value.ref 92, Value.ref 44, Value.ref 31, Value.type "Exception", Value.type "BaseException", Value.type "object"], ns := 91, qualname := Str.ofString "BuildOrder" }, slots := #[some (Value.ref 83), none, some (Value.str (Str.ofString "BuildOrder") 280), some (Value.str (Str.ofString "BuildOrder") 288), some (Value.builtin "Exception.__new__"), some (Value.bool true)] }) ::
  (nat_lit 95, { cls := Value.type "tuple", data := Data.seq #[] }) ::
  (nat_lit 97, { cls := Value.type "tuple", data := Data.seq #[Value.str (Str.ofString "data") 301, Value.str (Str.ofString "at") 302] }) ::
  (nat_lit 98, { cls := Value.type "tuple", data := Data.seq #[] }) ::
  (nat_lit 100, { cls := Value.type "code", data := Data.fields #[Value.str (Str.ofString "read_fixed32") 298, Value.str (Str.ofString "read_fixed32") 299, Value.str (Str.ofString "/claim/cut.py") 300, Value.int 18 0, Value.int 2 0, Value.int 0 0, Value.int 0 0, Value.int 3 0, Value.ref 95, Value.bool true, Value.int 181 0, Value.ref 96, Value.none, Value.ref 97, Value.ref 98, Value.ref 99, Value.int 303 0, Value.int 18 0, Value.str (Str.ofString "/claim/cut.py") 304] }) ::
  (nat_lit 101, { cls := Value.type "function", data := Data.func { name := Str.ofString "read_fixed32", qualname := Str.ofString "read_fixed32", params := Sk.fp 1, body := FuncBody.stmts (Sk.fb 1), scope := Sk.fs 1, globals := 3, closure := [], defaults := Value.none, kwdefaults := Value.none, pyModule := Value.str (Str.ofString "raftkeep.octets") 296, code := Value.ref 100 } }) ::
  (nat_lit 102, { cls := Value.type "tuple", data := Data.seq #[] }) ::
  (nat_lit 104, { cls := Value.type "tuple", data := Data.seq #[Value.str (Str.ofString "data") 309, Value.str (Str.ofString "at") 310] }) ::
  (nat_lit 105, { cls := Value.type "tuple", data := Data.seq #[] }) ::
  (nat_lit 107, { cls := Value.type "code", data := Data.fields #[Value.str (Str.ofString "read_fixed64") 306, Value.str (Str.ofString "read_fixed64") 307, Value.str (Str.ofString "/claim/cut.py") 308, Value.int 22 0, Value.int 2 0, Value.int 0 0, Value.int 0 0, Value.int 3 0, Value.ref 102, Value.bool true, Value.int 181 0, Value.ref 103, Value.none, Value.ref 104, Value.ref 105, Value.ref 106, Value.int 311 0, Value.int 22 0, Value.str (Str.ofString "/claim/cut.py") 312] }) ::
  (nat_lit 108, { cls := Value.type "function", data := Data.func { name := Str.ofString "read_fixed64", qualname := Str.ofString "read_fixed64", params := Sk.fp 2, body := FuncBody.stmts (Sk.fb 2), scope := Sk.fs 2, globals := 3, closure := [], defaults := Value.none, kwdefaults := Value.none, pyModule := Value.str (Str.ofString "raftkeep.octets") 296, code := Value.ref 107 } }) ::
  (nat_lit 109, { cls := Value.type "tuple", data := Data.seq #[] }) ::
  (nat_lit 111, { cls := Value.type "tuple", data := Data.seq #[Value.str (Str.ofString "ik") 321] }) ::
  (nat_lit 112, { cls := Value.type "tuple", data := Data.seq #[] }) ::
  (nat_lit 114, { cls := Value.type "code", data := Data.fields #[Value.str (Str.ofString "user_of") 318, Value.str (Str.ofString "user_of") 319, Value.str (Str.ofString "/claim/cut.py") 320, Value.int 28 0, Value.int 1 0, Value.int 0 0, Value.int 0 0, Value.int 3 0, Value.ref 109, Value.bool true, Value.int 181 0, Value.ref 110, Value.none, Value.ref 111, Value.ref 112, Value.ref 113, Value.int 322 0, Value.int 28 0, Value.str (Str.ofString "/claim/cut.py") 323] }) ::
  (nat_lit 115, { cls := Value.type "function", data := Data.func { name := Str.ofString "user_of", qualname := Str.ofString "user_of", params := Sk.fp 3, body := FuncBody.stmts (Sk.fb 3), scope := Sk.fs 3, globals := 3, closure := [], defaults := Value.none, kwdefaults := Value.none, pyModule := Value.str (Str.ofString "raftkeep.keys") 314, code := Value.ref 114 } }) ::
  (nat_lit 116, { cls := Value.type "tuple", data := Data.seq #[] }) ::
  (nat_lit 118, { cls := Value.type "tuple", data := Data.seq #[Value.str (Str.ofString "ik") 328] }) ::
  (nat_lit 119, { cls := Value.type "tuple", data := Data.seq #[] }) ::
  (nat_lit 121, { cls := Value.type "code", data := Data.fields #[Value.str (Str.ofString "tag_of") 325, Value.str (Str.ofString "tag_of") 326, Value.str (Str.ofString "/claim/cut.py") 327, Value.int 32 0, Value.int 1 0, Value.int 0 0, Value.int 0 0, Value.int 3 0, Value.ref 116, Value.bool true, Value.int 181 0, Value.ref 117, Value.none, Value.ref 118, Value.ref 119, Value.ref 120, Value.int 329 0, Value.int 32 0, Value.str (Str.ofString "/claim/cut.py") 330] }) ::
  (nat_lit 122, { cls := Value.type "function", data := Data.func { name := Str.ofString "tag_of", qualname := Str.ofString "tag_of", params := Sk.fp 4, body := FuncBody.stmts (Sk.fb 4), scope := Sk.fs 4, globals := 3, closure := [], defaults := Value.none, kwdefaults := Value.none, pyModule := Value.str (Str.ofString "raftkeep.keys") 314, code := Value.ref 121 } }) ::
  (nat_lit 130, { cls := Value.type "tuple", data := Data.seq #[] }) ::
  (nat_lit 132, { cls := Value.type "tuple", data := Data.seq #[Value.str (Str.ofString "self") 347, Value.str (Str.ofString "a") 348, Value.str (Str.ofString "b") 349] }) ::
  (nat_lit 133, { cls := Value.type "tuple", data := Data.seq #[] }) ::
  (nat_lit 135, { cls := Value.type "code", data := Data.fields #[Value.str (Str.ofString "compare") 344, Value.str (Str.ofString "Order.compare") 345, Value.str (Str.ofString "/claim/cut.py") 346, Value.int 38 0, Value.int 3 0, Value.int 0 0, Value.int 0 0, Value.int 3 0, Value.ref 130, Value.bool true, Value.int 181 0, Value.ref 131, Value.none, Value.ref 132, Value.ref 133, Value.ref 134, Value.int 350 0, Value.int 38 0, Value.str (Str.ofString "/claim/cut.py") 351] }) ::
  (nat_lit 136, { cls := Value.type "function", data := Data.func { name := Str.ofString "compare", qualname := Str.ofString "Order.compare", params := Sk.fp 5, body := FuncBody.stmts (Sk.fb 5), scope := Sk.fs 5, globals := 3, closure := [], defaults := Value.none, kwdefaults := Value.none, pyModule := Value.str (Str.ofString "raftkeep.keys") 314, code := Value.ref 135 } }) ::
  (nat_lit 137, { cls := Value.type "tuple", data := Data.seq #[] }) ::
  (nat_lit 139, { cls := Value.type "tuple", data := Data.seq #[Value.str (Str.ofString "self") 356, Value.str (Str.ofString "a") 357, Value.str (Str.ofString "b") 358] }) ::
  (nat_lit 140, { cls := Value.type "tuple", data := Data.seq #[] }) ::
  (nat_lit 142, { cls := Value.type "code", data := Data.fields #[Value.str (Str.ofString "separator") 353, Value.str (Str.ofString "Order.separator") 354, Value.str (Str.ofString "/claim/cut.py") 355, Value.int 45 0, Value.int 3 0, Value.int 0 0, Value.int 0 0, Value.int 3 0, Value.ref 137, Value.bool true, Value.int 181 0, Value.ref 138, Value.none, Value.ref 139, Value.ref 140, Value.ref 141, Value.int 359 0, Value.int 45 0, Value.str (Str.ofString "/claim/cut.py") 360] }) ::
  (nat_lit 143, { cls := Value.type "function", data := Data.func { name := Str.ofString "separator", qualname := Str.ofString "Order.separator", params := Sk.fp 6, body := FuncBody.stmts (Sk.fb 6), scope := Sk.fs 15, globals := 3, closure := [], defaults := Value.none, kwdefaults := Value.none, pyModule := Value.str (Str.ofString "raftkeep.keys") 314, code := Value.ref 142 } }) ::
  (nat_lit 144, { cls := Value.type "tuple", data := Data.seq #[] }) ::
  (nat_lit 146, { cls := Value.type "tuple", data := Data.seq #[Value.str (Str.ofString "self") 365, Value.str (Str.ofString "a") 366] }) ::
  (nat_lit 147, { cls := Value.type "tuple", data := Data.seq #[] }) ::
  (nat_lit 149, { cls := Value.type "code", data := Data.fields #[Value.str (Str.ofString "successor") 362, Value.str (Str.ofString "Order.successor") 363, Value.str (Str.ofString "/claim/cut.py") 364, Value.int 48 0, Value.int 2 0, Value.int 0 0, Value.int 0 0, Value.int 3 0, Value.ref 144, Value.bool true, Value.int 181 0, Value.ref 145, Value.none, Value.ref 146, Value.ref 147, Value.ref 148, Value.int 367 0, Value.int 48 0, Value.str (Str.ofString "/claim/cut.py") 368] }) ::
  (nat_lit 150, { cls := Value.type "function", data := Data.func { name := Str.ofString "successor", qualname := Str.ofString "Order.successor", params := Sk.fp 7, body := FuncBody.stmts (Sk.fb 7), scope := Sk.fs 16, globals := 3, closure := [], defaults := Value.none, kwdefaults := Value.none, pyModule := Value.str (Str.ofString "raftkeep.keys") 314, code := Value.ref 149 } }) ::
  (nat_lit 151, { cls := Value.type "tuple", data := Data.seq #[] }) ::
  (nat_lit 153, { cls := Value.type "tuple", data := Data.seq #[Value.str (Str.ofString "self") 373] }) ::
  (nat_lit 154, { cls := Value.type "tuple", data := Data.seq #[] }) ::
  (nat_lit 156, { cls := Value.type "code", data := Data.fields #[Value.str (Str.ofString "name") 370, Value.str (Str.ofString "Order.name") 371, Value.str (Str.ofString "/claim/cut.py") 372, Value.int 51 0, Value.int 1 0, Value.int 0 0, Value.int 0 0, Value.int 3 0, Value.ref 151, Value.bool true, Value.int 181 0, Value.ref 152, Value.none, Value.ref 153, Value.ref 154, Value.ref 155, Value.int 374 0, Value.int 51 0, Value.str (Str.ofString "/claim/cut.py") 375] }) ::
  (nat_lit 157, { cls := Value.type "function", data := Data.func { name := Str.ofString "name", qualname := Str.ofString "Order.name", params := Sk.fp 8, body := FuncBody.stmts (Sk.fb 8), scope := Sk.fs 24, globals := 3, closure := [], defaults := Value.none, kwdefaults := Value.none, pyModule := Value.str (Str.ofString "raftkeep.keys") 314, code := Value.ref 156 } }) ::
  (nat_lit 158, { cls := Value.type "tuple", data := Data.seq #[] }) ::
  (nat_lit 159, { cls := Value.type "dict", data := Data.dict #[{ hash := PyData.keyHash P (Str.ofString "__module__"), key := Value.str (Str.ofString "__module__") 339, val := Value.str (Str.ofString "raftkeep.keys") 314 }, { hash := PyData.keyHash P (Str.ofString "__firstlineno__"), key := Value.str (Str.ofString "__firstlineno__") 343, val := Value.int 36 342 }, { hash := PyData.keyHash P (Str.ofString "compare"), key := Value.str (Str.ofString "compare") 352, val := Value.ref 136 }, { hash := PyData.keyHash P (Str.ofString "separator"), key := Value.str (Str.ofString "separator") 361, val := Value.ref 143 }, { hash := PyData.keyHash P (Str.ofString "successor"), key := Value.str (Str.ofString "successor") 369, val := Value.ref 150 }, { hash := PyData.keyHash P (Str.ofString "name"), key := Value.str (Str.ofString "name") 376, val := Value.ref 157 }, { hash := PyData.keyHash P (Str.ofString "__static_attributes__"), key := Value.str (Str.ofString "__static_attributes__") 377, val := Value.ref 158 }, { hash := PyData.keyHash P (Str.ofString "__dict__"), key := Value.str (Str.ofString "__dict__") 379, val := Value.ref 161 }, { hash := PyData.keyHash P (Str.ofString "__weakref__"), key := Value.str (Str.ofString "__weakref__") 381, val := Value.ref 162 }, { hash := PyData.keyHash P (Str.ofString "__doc__"), key := Value.str (Str.ofString "__doc__") 382, val := Value.none }] 4 }) ::
  (nat_lit 160, { cls := Value.type "type", data := Data.cls { name := Str.ofString "Order", bases := [Value.type "object"], mro := [Value.ref 160, Value.type "object"], ns := 159, qualname := Str.ofString "Order", subclasses := [Value.ref 195, Value.ref 249] }, slots := #[none, none, some (Value.str (Str.ofString "Order") 332), some (Value.str (Str.ofString "Order") 340), some (Value.builtin "object.__new__"), some (Value.bool true)] }) ::
  (nat_lit 161, { cls := Value.type "getset_descriptor", data := Data.fields #[Value.str (Str.ofString "__dict__") 378, Value.ref 160, Value.builtin "function.__dict__", Value.builtin "function.__dict__#set"] }) ::
  (nat_lit 162, { cls := Value.type "getset_descriptor", data := Data.fields #[Value.str (Str.ofString "__weakref__") 380, Value.ref 160, Value.builtin "ExceptionGroup.__weakref__", Value.none] }) ::
  (nat_lit 165, { cls := Value.type "tuple", data := Data.seq #[Value.ref 160] }) ::
  (nat_lit 172, { cls := Value.type "tuple", data := Data.seq #[] }) ::
  (nat_lit 174, { cls := Value.type "tuple", data := Data.seq #[Value.str (Str.ofString "self") 400, Value.str (Str.ofString "a") 401, Value.str (Str.ofString "b") 402] }) ::
  (nat_lit 175, { cls := Value.type "tuple", data := Data.seq #[] }) ::
  (nat_lit 177, { cls := Value.type "code", data := Data.fields #[Value.str (Str.ofString "separator") 397, Value.str (Str.ofString "BytesOrder.separator") 398, Value.str (Str.ofString "/claim/cut.py") 399, Value.int 55 0, Value.int 3 0, Value.int 0 0, Value.int 0 0, Value.int 3 0, Value.ref 172, Value.bool true, Value.int 181 0, Value.ref 173, Value.none, Value.ref 174, Value.ref 175, Value.ref 176, Value.int 403 0, Value.int 55 0, Value.str (Str.ofString "/claim/cut.py") 404] }) ::
  (nat_lit 178, { cls := Value.type "function", data := Data.func { name := Str.ofString "separator", qualname := Str.ofString "BytesOrder.separator", params := Sk.fp 9, body := FuncBody.stmts (Sk.fb 9), scope := Sk.fs 15, globals := 3, closure := [], defaults := Value.none, kwdefaults := Value.none, pyModule := Value.str (Str.ofString "raftkeep.keys") 314, code := Value.ref 177 } }) ::
  (nat_lit 179, { cls := Value.type "tuple", data := Data.seq #[] }) ::
  (nat_lit 181, { cls := Value.type "tuple", data := Data.seq #[Value.str (Str.ofString "self") 409, Value.str (Str.ofString "a") 410] }) ::
  (nat_lit 182, { cls := Value.type "tuple", data := Data.seq #[] }) ::
  (nat_lit 184, { cls := Value.type "code", data := Data.fields #[Value.str (Str.ofString "successor") 406, Value.str (Str.ofString "BytesOrder.successor") 407, Value.str (Str.ofString "/claim/cut.py") 408, Value.int 58 0, Value.int 2 0, Value.int 0 0, Value.int 0 0, Value.int 3 0, Value.ref 179, Value.bool true, Value.int 181 0, Value.ref 180, Value.none, Value.ref 181, Value.ref 182, Value.ref 183, Value.int 411 0, Value.int 58 0, Value.str (Str.ofString "/claim/cut.py") 412] }) ::
  (nat_lit 185, { cls := Value.type "function", data := Data.func { name := Str.ofString "successor", qualname := Str.ofString "BytesOrder.successor", params := Sk.fp 10, body := FuncBody.stmts (Sk.fb 10), scope := Sk.fs 16, globals := 3, closure := [], defaults := Value.none, kwdefaults := Value.none, pyModule := Value.str (Str.ofString "raftkeep.keys") 314, code := Value.ref 184 } }) ::
  (nat_lit 186, { cls := Value.type "tuple", data := Data.seq #[] }) ::
  (nat_lit 188, { cls := Value.type "tuple", data := Data.seq #[Value.str (Str.ofString "self") 417] }) ::
  (nat_lit 189, { cls := Value.type "tuple", data := Data.seq #[] }) ::
  (nat_lit 191, { cls := Value.type "code", data := Data.fields #[Value.str (Str.ofString "name") 414, Value.str (Str.ofString "BytesOrder.name") 415, Value.str (Str.ofString "/claim/cut.py") 416, Value.int 61 0, Value.int 1 0, Value.int 0 0, Value.int 0 0, Value.int 3 0, Value.ref 186, Value.bool true, Value.int 181 0, Value.ref 187, Value.none, Value.ref 188, Value.ref 189, Value.ref 190, Value.int 418 0, Value.int 61 0, Value.str (Str.ofString "/claim/cut.py") 419] }) ::
  (nat_lit 192, { cls := Value.type "function", data := Data.func { name := Str.ofString "name", qualname := Str.ofString "BytesOrder.name", params := Sk.fp 11, body := FuncBody.stmts (Sk.fb 11), scope := Sk.fs 24, globals := 3, closure := [], defaults := Value.none, kwdefaults := Value.none, pyModule := Value.str (Str.ofString "raftkeep.keys") 314, code := Value.ref 191 } }) ::
  (nat_lit 193, { cls := Value.type "tuple", data := Data.seq #[] }) ::
  (nat_lit 194, { cls := Value.type "dict", data := Data.dict #[{ hash := PyData.keyHash P (Str.ofString "__module__"), key := Value.str (Str.ofString "__module__") 392, val := Value.str (Str.ofString "raftkeep.keys") 314 }, { hash := PyData.keyHash P (Str.ofString "__firstlineno__"), key := Value.str (Str.ofString "__firstlineno__") 396, val := Value.int 53 395 }, { hash := PyData.keyHash P (Str.ofString "separator"), key := Value.str (Str.ofString "separator") 405, val := Value.ref 178 }, { hash := PyData.keyHash P (Str.ofString "successor"), key := Value.str (Str.ofString "successor") 413, val := Value.ref 185 }, { hash := PyData.keyHash P (Str.ofString "name"), key := Value.str (Str.ofString "name") 420, val := Value.ref 192 }, { hash := PyData.keyHash P (Str.ofString "__static_attributes__"), key := Value.str (Str.ofString "__static_attributes__") 421, val := Value.ref 193 }, { hash := PyData.keyHash P (Str.ofString "__doc__"), key := Value.str (Str.ofString "__doc__") 422, val := Value.none }] 2 }) ::
  (nat_lit 195, { cls := Value.type "type", data := Data.cls { name := Str.ofString "BytesOrder", bases := [Value.ref 160], mro := [Value.ref 195, Value.ref 160, Value.type "object"], ns := 194, qualname := Str.ofString "BytesOrder" }, slots := #[some (Value.ref 165), none, some (Value.str (Str.ofString "BytesOrder") 385), some (Value.str (Str.ofString "BytesOrder") 393), some (Value.builtin "object.__new__"), some (Value.bool true)] }) ::
  (nat_lit 198, { cls := Value.type "tuple", data := Data.seq #[Value.ref 160] }) ::
  (nat_lit 205, { cls := Value.type "tuple", data := Data.seq #[] }) ::
  (nat_lit 207, { cls := Value.type "tuple", data := Data.seq #[Value.str (Str.ofString "self") 440] }) ::
  (nat_lit 208, { cls := Value.type "tuple", data := Data.seq #[] }) ::
  (nat_lit 210, { cls := Value.type "code", data := Data.fields #[Value.str (Str.ofString "__init__") 437, Value.str (Str.ofString "InternalOrder.__init__") 438, Value.str (Str.ofString "/claim/cut.py") 439, Value.int 65 0, Value.int 1 0, Value.int 0 0, Value.int 0 0, Value.int 3 0, Value.ref 205, Value.bool true, Value.int 181 0, Value.ref 206, Value.none, Value.ref 207, Value.ref 208, Value.ref 209, Value.int 441 0, Value.int 65 0, Value.str (Str.ofString "/claim/cut.py") 442] }) ::
  (nat_lit 211, { cls := Value.type "function", data := Data.func { name := Str.ofString "__init__", qualname := Str.ofString "InternalOrder.__init__", params := Sk.fp 12, body := FuncBody.stmts (Sk.fb 12), scope := Sk.fs 12, globals := 3, closure := [], defaults := Value.none, kwdefaults := Value.none, pyModule := Value.str (Str.ofString "raftkeep.keys") 314, code := Value.ref 210 } }) ::
  (nat_lit 212, { cls := Value.type "tuple", data := Data.seq #[] }) ::
  (nat_lit 214, { cls := Value.type "tuple", data := Data.seq #[Value.str (Str.ofString "self") 447, Value.str (Str.ofString "a") 448, Value.str (Str.ofString "b") 449, Value.str (Str.ofString "c") 450, Value.str (Str.ofString "tag_a") 451, Value.str (Str.ofString "tag_b") 452] }) ::
  (nat_lit 215, { cls := Value.type "tuple", data := Data.seq #[] }) ::
  (nat_lit 217, { cls := Value.type "code", data := Data.fields #[Value.str (Str.ofString "compare") 444, Value.str (Str.ofString "InternalOrder.compare") 445, Value.str (Str.ofString "/claim/cut.py") 446, Value.int 68 0, Value.int 3 0, Value.int 0 0, Value.int 0 0, Value.int 3 0, Value.ref 212, Value.bool true, Value.int 181 0, Value.ref 213, Value.none, Value.ref 214, Value.ref 215, Value.ref 216, Value.int 453 0, Value.int 68 0, Value.str (Str.ofString "/claim/cut.py") 454] }) ::
  (nat_lit 218, { cls := Value.type "function", data := Data.func { name := Str.ofString "compare", qualname := Str.ofString "InternalOrder.compare", params := Sk.fp 13, body := FuncBody.stmts (Sk.fb 13), scope := Sk.fs 13, globals := 3, closure := [], defaults := Value.none, kwdefaults := Value.none, pyModule := Value.str (Str.ofString "raftkeep.keys") 314, code := Value.ref 217 } }) ::
  (nat_lit 219, { cls := Value.type "tuple", data := Data.seq #[] }) ::
  (nat_lit 221, { cls := Value.type "tuple", data := Data.seq #[Value.str (Str.ofString "self") 459, Value.str (Str.ofString "a") 460, Value.str (Str.ofString "user") 461, Value.str (Str.ofString "short") 462] }) ::
  (nat_lit 222, { cls := Value.type "tuple", data := Data.seq #[] }) ::
  (nat_lit 224, { cls := Value.type "code", data := Data.fields #[Value.str (Str.ofString "dress") 456, Value.str (Str.ofString "InternalOrder.dress") 457, Value.str (Str.ofString "/claim/cut.py") 458, Value.int 80 0, Value.int 4 0, Value.int 0 0, Value.int 0 0, Value.int 3 0, Value.ref 219, Value.bool true, Value.int 181 0, Value.ref 220, Value.none, Value.ref 221, Value.ref 222, Value.ref 223, Value.int 463 0, Value.int 80 0, Value.str (Str.ofString "/claim/cut.py") 464] }) ::
  (nat_lit 225, { cls := Value.type "function", data := Data.func { name := Str.ofString "dress", qualname := Str.ofString "InternalOrder.dress", params := Sk.fp 14, body := FuncBody.stmts (Sk.fb 14), scope := Sk.fs 14, globals := 3, closure := [], defaults := Value.none, kwdefaults := Value.none, pyModule := Value.str (Str.ofString "raftkeep.keys") 314, code := Value.ref 224 } }) ::
  (nat_lit 226, { cls := Value.type "tuple", data := Data.seq #[] }) ::
  (nat_lit 228, { cls := Value.type "tuple", data := Data.seq #[Value.str (Str.ofString "self") 469, Value.str (Str.ofString "a") 470, Value.str (Str.ofString "b") 471] }) ::
  (nat_lit 229, { cls := Value.type "tuple", data := Data.seq #[] }) ::
  (nat_lit 231, { cls := Value.type "code", data := Data.fields #[Value.str (Str.ofString "separator") 466, Value.str (Str.ofString "InternalOrder.separator") 467, Value.str (Str.ofString "/claim/cut.py") 468, Value.int 83 0, Value.int 3 0, Value.int 0 0, Value.int 0 0, Value.int 3 0, Value.ref 226, Value.bool true, Value.int 181 0, Value.ref 227, Value.none, Value.ref 228, Value.ref 229, Value.ref 230, Value.int 472 0, Value.int 83 0, Value.str (Str.ofString "/claim/cut.py") 473] }) ::
  (nat_lit 232, { cls := Value.type "function", data := Data.func { name := Str.ofString "separator", qualname := Str.ofString "InternalOrder.separator", params := Sk.fp 15, body := FuncBody.stmts (Sk.fb 15), scope := Sk.fs 15, globals := 3, closure := [], defaults := Value.none, kwdefaults := Value.none, pyModule := Value.str (Str.ofString "raftkeep.keys") 314, code := Value.ref 231 } }) ::
  (nat_lit 233, { cls := Value.type "tuple", data := Data.seq #[] }) ::
  (nat_lit 235, { cls := Value.type "tuple", data := Data.seq #[Value.str (Str.ofString "self") 478, Value.str (Str.ofString "a") 479] }) ::
  (nat_lit 236, { cls := Value.type "tuple", data := Data.seq #[] }) ::
  (nat_lit 238, { cls := Value.type "code", data := Data.fields #[Value.str (Str.ofString "successor") 475, Value.str (Str.ofString "InternalOrder.successor") 476, Value.str (Str.ofString "/claim/cut.py") 477, Value.int 86 0, Value.int 2 0, Value.int 0 0, Value.int 0 0, Value.int 3 0, Value.ref 233, Value.bool true, Value.int 181 0, Value.ref 234, Value.none, Value.ref 235, Value.ref 236, Value.ref 237, Value.int 480 0, Value.int 86 0, Value.str (Str.ofString "/claim/cut.py") 481] }) ::
  (nat_lit 239, { cls := Value.type "function", data := Data.func { name := Str.ofString "successor", qualname := Str.ofString "InternalOrder.successor", params := Sk.fp 16, body := FuncBody.stmts (Sk.fb 16), scope := Sk.fs 16, globals := 3, closure := [], defaults := Value.none, kwdefaults := Value.none, pyModule := Value.str (Str.ofString "raftkeep.keys") 314, code := Value.ref 238 } }) ::
  (nat_lit 240, { cls := Value.type "tuple", data := Data.seq #[] }) ::
  (nat_lit 242, { cls := Value.type "tuple", data := Data.seq #[Value.str (Str.ofString "self") 486] }) ::
  (nat_lit 243, { cls := Value.type "tuple", data := Data.seq #[] }) ::
  (nat_lit 245, { cls := Value.type "code", data := Data.fields #[Value.str (Str.ofString "name") 483, Value.str (Str.ofString "InternalOrder.name") 484, Value.str (Str.ofString "/claim/cut.py") 485, Value.int 89 0, Value.int 1 0, Value.int 0 0, Value.int 0 0, Value.int 3 0, Value.ref 240, Value.bool true, Value.int 181 0, Value.ref 241, Value.none, Value.ref 242, Value.ref 243, Value.ref 244, Value.int 487 0, Value.int 89 0, Value.str (Str.ofString "/claim/cut.py") 488] }) ::
  (nat_lit 246, { cls := Value.type "function", data := Data.func { name := Str.ofString "name", qualname := Str.ofString "InternalOrder.name", params := Sk.fp 17, body := FuncBody.stmts (Sk.fb 17), scope := Sk.fs 24, globals := 3, closure := [], defaults := Value.none, kwdefaults := Value.none, pyModule := Value.str (Str.ofString "raftkeep.keys") 314, code := Value.ref 245 } }) ::
  (nat_lit 247, { cls := Value.type "tuple", data := Data.seq #[Value.str (Str.ofString "user_order") 490] }) ::
  (nat_lit 248, { cls := Value.type "dict", data := Data.dict #[{ hash := PyData.keyHash P (Str.ofString "__module__"), key := Value.str (Str.ofString "__module__") 432, val := Value.str (Str.ofString "raftkeep.keys") 314 }, { hash := PyData.keyHash P (Str.ofString "__firstlineno__"), key := Value.str (Str.ofString "__firstlineno__") 436, val := Value.int 63 435 }, { hash := PyData.keyHash P (Str.ofString "__init__"), key := Value.str (Str.ofString "__init__") 443, val := Value.ref 211 }, { hash := PyData.keyHash P (Str.ofString "compare"), key := Value.str (Str.ofString "compare") 455, val := Value.ref 218 }, { hash := PyData.keyHash P (Str.ofString "dress"), key := Value.str (Str.ofString "dress") 465, val := Value.ref 225 }, { hash := PyData.keyHash P (Str.ofString "separator"), key := Value.str (Str.ofString "separator") 474, val := Value.ref 232 }, { hash := PyData.keyHash P (Str.ofString "successor"), key := Value.str (Str.ofString "successor") 482, val := Value.ref 239 }, { hash := PyData.keyHash P (Str.ofString "name"), key := Value.str (Str.ofString "name") 489, val := Value.ref 246 }, { hash := PyData.keyHash P (Str.ofString "__static_attributes__"), key := Value.str (Str.ofString "__static_attributes__") 491, val := Value.ref 247 }, { hash := PyData.keyHash P (Str.ofString "__doc__"), key := Value.str (Str.ofString "__doc__") 492, val := Value.none }] 2 }) ::
  (nat_lit 249, { cls := Value.type "type", data := Data.cls { name := Str.ofString "InternalOrder", bases := [Value.ref 160], mro := [Value.ref 249, Value.ref 160, Value.type "object"], ns := 248, qualname := Str.ofString "InternalOrder" }, slots := #[some (Value.ref 198), none, some (Value.str (Str.ofString "InternalOrder") 425), some (Value.str (Str.ofString "InternalOrder") 433), some (Value.builtin "object.__new__"), some (Value.bool true)] }) ::
  (nat_lit 252, { cls := Value.type "tuple", data := Data.seq #[] }) ::
  (nat_lit 254, { cls := Value.type "tuple", data := Data.seq #[Value.str (Str.ofString "max_height") 498, Value.str (Str.ofString "heights") 499, Value.str (Str.ofString "height") 500] }) ::
  (nat_lit 255, { cls := Value.type "tuple", data := Data.seq #[] }) ::
  (nat_lit 257, { cls := Value.type "code", data := Data.fields #[Value.str (Str.ofString "check_heights") 495, Value.str (Str.ofString "check_heights") 496, Value.str (Str.ofString "/claim/cut.py") 497, Value.int 91 0, Value.int 2 0, Value.int 0 0, Value.int 0 0, Value.int 3 0, Value.ref 252, Value.bool true, Value.int 181 0, Value.ref 253, Value.none, Value.ref 254, Value.ref 255, Value.ref 256, Value.int 501 0, Value.int 91 0, Value.str (Str.ofString "/claim/cut.py") 502] }) ::
  (nat_lit 258, { cls := Value.type "function", data := Data.func { name := Str.ofString "check_heights", qualname := Str.ofString "check_heights", params := Sk.fp 18, body := FuncBody.stmts (Sk.fb 18), scope := Sk.fs 18, globals := 3, closure := [], defaults := Value.none, kwdefaults := Value.none, pyModule := Value.str (Str.ofString "raftkeep.keys") 314, code := Value.ref 257 } }) ::
  (nat_lit 266, { cls := Value.type "tuple", data := Data.seq #[] }) ::
  (nat_lit 268, { cls := Value.type "tuple", data := Data.seq #[Value.str (Str.ofString "self") 519, Value.str (Str.ofString "key") 520, Value.str (Str.ofString "value") 521, Value.str (Str.ofString "height") 522] }) ::
  (nat_lit 269, { cls := Value.type "tuple", data := Data.seq #[] }) ::
  (nat_lit 271, { cls := Value.type "code", data := Data.fields #[Value.str (Str.ofString "__init__") 516, Value.str (Str.ofString "Tower.__init__") 517, Value.str (Str.ofString "/claim/cut.py") 518, Value.int 99 0, Value.int 4 0, Value.int 0 0, Value.int 0 0, Value.int 3 0, Value.ref 266, Value.bool true, Value.int 181 0, Value.ref 267, Value.none, Value.ref 268, Value.ref 269, Value.ref 270, Value.int 523 0, Value.int 99 0, Value.str (Str.ofString "/claim/cut.py") 524] }) ::
  (nat_lit 272, { cls := Value.type "function", data := Data.func { name := Str.ofString "__init__", qualname := Str.ofString "Tower.__init__", params := Sk.fp 19, body := FuncBody.stmts (Sk.fb 19), scope := Sk.fs 19, globals := 3, closure := [], defaults := Value.none, kwdefaults := Value.none, pyModule := Value.str (Str.ofString "raftkeep.keys") 314, code := Value.ref 271 } }) ::
  (nat_lit 273, { cls := Value.type "tuple", data := Data.seq #[Value.str (Str.ofString "key") 526, Value.str (Str.ofString "links") 527, Value.str (Str.ofString "value") 528] }) ::
  (nat_lit 274, { cls := Value.type "dict", data := Data.dict #[{ hash := PyData.keyHash P (Str.ofString "__module__"), key := Value.str (Str.ofString "__module__") 511, val := Value.str (Str.ofString "raftkeep.keys") 314 }, { hash := PyData.keyHash P (Str.ofString "__firstlineno__"), key := Value.str (Str.ofString "__firstlineno__") 515, val := Value.int 97 514 }, { hash := PyData.keyHash P (Str.ofString "__init__"), key := Value.str (Str.ofString "__init__") 525, val := Value.ref 272 }, { hash := PyData.keyHash P (Str.ofString "__static_attributes__"), key := Value.str (Str.ofString "__static_attributes__") 529, val := Value.ref 273 }, { hash := PyData.keyHash P (Str.ofString "__dict__"), key := Value.str (Str.ofString "__dict__") 531, val := Value.ref 276 }, { hash := PyData.keyHash P (Str.ofString "__weakref__"), key := Value.str (Str.ofString "__weakref__") 533, val := Value.ref 277 }, { hash := PyData.keyHash P (Str.ofString "__doc__"), key := Value.str (Str.ofString "__doc__") 534, val := Value.none }] 4 }) ::
  (nat_lit 275, { cls := Value.type "type", data := Data.cls { name := Str.ofString "Tower", bases := [Value.type "object"], mro := [Value.ref 275, Value.type "object"], ns := 274, qualname := Str.ofString "Tower" }, slots := #[none, none, some (Value.str (Str.ofString "Tower") 504), some (Value.str (Str.ofString "Tower") 512), some (Value.builtin "object.__new__"), some (Value.bool true)] }) ::
  (nat_lit 276, { cls := Value.type "getset_descriptor", data := Data.fields #[Value.str (Str.ofString "__dict__") 530, Value.ref 275, Value.builtin "function.__dict__", Value.builtin "function.__dict__#set"] }) ::
  (nat_lit 277, { cls := Value.type "getset_descriptor", data := Data.fields #[Value.str (Str.ofString "__weakref__") 532, Value.ref 275, Value.builtin "ExceptionGroup.__weakref__", Value.none] }) ::
  (nat_lit 287, { cls := Value.type "tuple", data := Data.seq #[] }) ::
  (nat_lit 289, { cls := Value.type "tuple", data := Data.seq #[Value.str (Str.ofString "self") 552, Value.str (Str.ofString "order") 553, Value.str (Str.ofString "max_height") 554, Value.str (Str.ofString "heights") 555] }) ::
  (nat_lit 290, { cls := Value.type "tuple", data := Data.seq #[] }) ::
  (nat_lit 292, { cls := Value.type "code", data := Data.fields #[Value.str (Str.ofString "__init__") 549, Value.str (Str.ofString "SkipList.__init__") 550, Value.str (Str.ofString "/claim/cut.py") 551, Value.int 105 0, Value.int 4 0, Value.int 0 0, Value.int 0 0, Value.int 3 0, Value.ref 287, Value.bool true, Value.int 181 0, Value.ref 288, Value.none, Value.ref 289, Value.ref 290, Value.ref 291, Value.int 556 0, Value.int 105 0, Value.str (Str.ofString "/claim/cut.py") 557] }) ::
  (nat_lit 293, { cls := Value.type "function", data := Data.func { name := Str.ofString "__init__", qualname := Str.ofString "SkipList.__init__", params := Sk.fp 20, body := FuncBody.stmts (Sk.fb 20), scope := Sk.fs 20, globals := 3, closure := [], defaults := Value.none, kwdefaults := Value.none, pyModule := Value.str (Str.ofString "raftkeep.keys") 314, code := Value.ref 292 } }) ::
  (nat_lit 294, { cls := Value.type "tuple", data := Data.seq #[] }) ::
  (nat_lit 296, { cls := Value.type "tuple", data := Data.seq #[Value.str (Str.ofString "self") 562] }) ::
  (nat_lit 297, { cls := Value.type "tuple", data := Data.seq #[] }) ::
  (nat_lit 299, { cls := Value.type "code", data := Data.fields #[Value.str (Str.ofString "size") 559, Value.str (Str.ofString "SkipList.size") 560, Value.str (Str.ofString "/claim/cut.py") 561, Value.int 115 0, Value.int 1 0, Value.int 0 0, Value.int 0 0, Value.int 3 0, Value.ref 294, Value.bool true, Value.int 181 0, Value.ref 295, Value.none, Value.ref 296, Value.ref 297, Value.ref 298, Value.int 563 0, Value.int 115 0, Value.str (Str.ofString "/claim/cut.py") 564] }) ::
  (nat_lit 300, { cls := Value.type "function", data := Data.func { name := Str.ofString "size", qualname := Str.ofString "SkipList.size", params := Sk.fp 21, body := FuncBody.stmts (Sk.fb 21), scope := Sk.fs 24, globals := 3, closure := [], defaults := Value.none, kwdefaults := Value.none, pyModule := Value.str (Str.ofString "raftkeep.keys") 314, code := Value.ref 299 } }) ::
  (nat_lit 301, { cls := Value.type "tuple", data := Data.seq #[] }) ::
  (nat_lit 303, { cls := Value.type "tuple", data := Data.seq #[Value.str (Str.ofString "self") 569, Value.str (Str.ofString "key") 570, Value.str (Str.ofString "trail") 571, Value.str (Str.ofString "tower") 572, Value.str (Str.ofString "level") 573, Value.str (Str.ofString "ahead") 574] }) ::
  (nat_lit 304, { cls := Value.type "tuple", data := Data.seq #[] }) ::
  (nat_lit 306, { cls := Value.type "code", data := Data.fields #[Value.str (Str.ofString "towers_before") 566, Value.str (Str.ofString "SkipList.towers_before") 567, Value.str (Str.ofString "/claim/cut.py") 568, Value.int 118 0, Value.int 2 0, Value.int 0 0, Value.int 0 0, Value.int 3 0, Value.ref 301, Value.bool true, Value.int 181 0, Value.ref 302, Value.none, Value.ref 303, Value.ref 304, Value.ref 305, Value.int 575 0, Value.int 118 0, Value.str (Str.ofString "/claim/cut.py") 576] }) ::
  (nat_lit 307, { cls := Value.type "function", data := Data.func { name := Str.ofString "towers_before", qualname := Str.ofString "SkipList.towers_before", params := Sk.fp 22, body := FuncBody.stmts (Sk.fb 22), scope := Sk.fs 22, globals := 3, closure := [], defaults := Value.none, kwdefaults := Value.none, pyModule := Value.str (Str.ofString "raftkeep.keys") 314, code := Value.ref 306 } }) ::
  (nat_lit 308, { cls := Value.type "tuple", data := Data.seq #[] }) ::
  (nat_lit 310, { cls := Value.type "tuple", data := Data.seq #[Value.str (Str.ofString "self") 581, Value.str (Str.ofString "key") 582, Value.str (Str.ofString "value") 583, Value.str (Str.ofString "trail") 584, Value.str (Str.ofString "ahead") 585, Value.str (Str.ofString "height") 586, Value.str (Str.ofString "tower") 587, Value.str (Str.ofString "level") 588] }) ::
  (nat_lit 311, { cls := Value.type "tuple", data := Data.seq #[] }) ::
  (nat_lit 313, { cls := Value.type "code", data := Data.fields #[Value.str (Str.ofString "insert") 578, Value.str (Str.ofString "SkipList.insert") 579, Value.str (Str.ofString "/claim/cut.py") 580, Value.int 131 0, Value.int 3 0, Value.int 0 0, Value.int 0 0, Value.int 3 0, Value.ref 308, Value.bool true, Value.int 181 0, Value.ref 309, Value.none, Value.ref 310, Value.ref 311, Value.ref 312, Value.int 589 0, Value.int 131 0, Value.str (Str.ofString "/claim/cut.py") 590] }) ::
  (nat_lit 314, { cls := Value.type "function", data := Data.func { name := Str.ofString "insert", qualname := Str.ofString "SkipList.insert", params := Sk.fp 23, body := FuncBody.stmts (Sk.fb 23), scope := Sk.fs 23, globals := 3, closure := [], defaults := Value.none, kwdefaults := Value.none, pyModule := Value.str (Str.ofString "raftkeep.keys") 314, code := Value.ref 313 } }) ::
  (nat_lit 315, { cls := Value.type "tuple", data := Data.seq #[] }) ::
  (nat_lit 317, { cls := Value.type "tuple", data := Data.seq #[Value.str (Str.ofString "self") 595] }) ::
  (nat_lit 318, { cls := Value.type "tuple", data := Data.seq #[] }) ::
  (nat_lit 320, { cls := Value.type "code", data := Data.fields #[Value.str (Str.ofString "first_tower") 592, Value.str (Str.ofString "SkipList.first_tower") 593, Value.str (Str.ofString "/claim/cut.py") 594, Value.int 145 0, Value.int 1 0, Value.int 0 0, Value.int 0 0, Value.int 3 0, Value.ref 315, Value.bool true, Value.int 181 0, Value.ref 316, Value.none, Value.ref 317, Value.ref 318, Value.ref 319, Value.int 596 0, Value.int 145 0, Value.str (Str.ofString "/claim/cut.py") 597] }) ::
  (nat_lit 321, { cls := Value.type "function", data := Data.func { name := Str.ofString "first_tower", qualname := Str.ofString "SkipList.first_tower", params := Sk.fp 24, body := FuncBody.stmts (Sk.fb 24), scope := Sk.fs 24, globals := 3, closure := [], defaults := Value.none, kwdefaults := Value.none, pyModule := Value.str (Str.ofString "raftkeep.keys") 314, code := Value.ref 320 } }) ::
  (nat_lit 322, { cls := Value.type "tuple", data := Data.seq #[] }) ::
  (nat_lit 324, { cls := Value.type "tuple", data := Data.seq #[Value.str (Str.ofString "self") 602, Value.str (Str.ofString "key") 603] }) ::
  (nat_lit 325, { cls := Value.type "tuple", data := Data.seq #[] }) ::
  (nat_lit 327, { cls := Value.type "code", data := Data.fields #[Value.str (Str.ofString "seek_tower") 599, Value.str (Str.ofString "SkipList.seek_tower") 600, Value.str (Str.ofString "/claim/cut.py") 601, Value.int 148 0, Value.int 2 0, Value.int 0 0, Value.int 0 0, Value.int 3 0, Value.ref 322, Value.bool true, Value.int 181 0, Value.ref 323, Value.none, Value.ref 324, Value.ref 325, Value.ref 326, Value.int 604 0, Value.int 148 0, Value.str (Str.ofString "/claim/cut.py") 605] }) ::
  (nat_lit 328, { cls := Value.type "function", data := Data.func { name := Str.ofString "seek_tower", qualname := Str.ofString "SkipList.seek_tower", params := Sk.fp 25, body := FuncBody.stmts (Sk.fb 25), scope := Sk.fs 25, globals := 3, closure := [], defaults := Value.none, kwdefaults := Value.none, pyModule := Value.str (Str.ofString "raftkeep.keys") 314, code := Value.ref 327 } }) ::
  (nat_lit 329, { cls := Value.type "tuple", data := Data.seq #[] }) ::
  (nat_lit 331, { cls := Value.type "tuple", data := Data.seq #[Value.str (Str.ofString "self") 610, Value.str (Str.ofString "key") 611, Value.str (Str.ofString "found") 612, Value.str (Str.ofString "tower") 613, Value.str (Str.ofString "level") 614, Value.str (Str.ofString "ahead") 615] }) ::
  (nat_lit 332, { cls := Value.type "tuple", data := Data.seq #[] }) ::
  (nat_lit 334, { cls := Value.type "code", data := Data.fields #[Value.str (Str.ofString "before_tower") 607, Value.str (Str.ofString "SkipList.before_tower") 608, Value.str (Str.ofString "/claim/cut.py") 609, Value.int 151 0, Value.int 2 0, Value.int 0 0, Value.int 0 0, Value.int 3 0, Value.ref 329, Value.bool true, Value.int 181 0, Value.ref 330, Value.none, Value.ref 331, Value.ref 332, Value.ref 333, Value.int 616 0, Value.int 151 0, Value.str (Str.ofString "/claim/cut.py") 617] }) ::
  (nat_lit 335, { cls := Value.type "function", data := Data.func { name := Str.ofString "before_tower", qualname := Str.ofString "SkipList.before_tower", params := Sk.fp 26, body := FuncBody.stmts (Sk.fb 26), scope := Sk.fs 26, globals := 3, closure := [], defaults := Value.none, kwdefaults := Value.none, pyModule := Value.str (Str.ofString "raftkeep.keys") 314, code := Value.ref 334 } }) ::
  (nat_lit 336, { cls := Value.type "tuple", data := Data.seq #[] }) ::
  (nat_lit 338, { cls := Value.type "tuple", data := Data.seq #[Value.str (Str.ofString "self") 622, Value.str (Str.ofString "found") 623, Value.str (Str.ofString "tower") 624, Value.str (Str.ofString "level") 625, Value.str (Str.ofString "ahead") 626] }) ::
  (nat_lit 339, { cls := Value.type "tuple", data := Data.seq #[] }) ::
  (nat_lit 341, { cls := Value.type "code", data := Data.fields #[Value.str (Str.ofString "last_tower") 619, Value.str (Str.ofString "SkipList.last_tower") 620, Value.str (Str.ofString "/claim/cut.py") 621, Value.int 164 0, Value.int 1 0, Value.int 0 0, Value.int 0 0, Value.int 3 0, Value.ref 336, Value.bool true, Value.int 181 0, Value.ref 337, Value.none, Value.ref 338, Value.ref 339, Value.ref 340, Value.int 627 0, Value.int 164 0, Value.str (Str.ofString "/claim/cut.py") 628] }) ::
  (nat_lit 342, { cls := Value.type "function", data := Data.func { name := Str.ofString "last_tower", qualname := Str.ofString "SkipList.last_tower", params := Sk.fp 27, body := FuncBody.stmts (Sk.fb 27), scope := Sk.fs 27, globals := 3, closure := [], defaults := Value.none, kwdefaults := Value.none, pyModule := Value.str (Str.ofString "raftkeep.keys") 314, code := Value.ref 341 } }) ::
  (nat_lit 343, { cls := Value.type "tuple", data := Data.seq #[Value.str (Str.ofString "added") 630, Value.str (Str.ofString "head") 631, Value.str (Str.ofString "height") 632, Value.str (Str.ofString "heights") 633, Value.str (Str.ofString "order") 634] }) ::
  (nat_lit 344, { cls := Value.type "dict", data := Data.dict #[{ hash := PyData.keyHash P (Str.ofString "__module__"), key := Value.str (Str.ofString "__module__") 544, val := Value.str (Str.ofString "raftkeep.keys") 314 }, { hash := PyData.keyHash P (Str.ofString "__firstlineno__"), key := Value.str (Str.ofString "__firstlineno__") 548, val := Value.int 103 547 }, { hash := PyData.keyHash P (Str.ofString "__init__"), key := Value.str (Str.ofString "__init__") 558, val := Value.ref 293 }, { hash := PyData.keyHash P (Str.ofString "size"), key := Value.str (Str.ofString "size") 565, val := Value.ref 300 }, { hash := PyData.keyHash P (Str.ofString "towers_before"), key := Value.str (Str.ofString "towers_before") 577, val := Value.ref 307 }, { hash := PyData.keyHash P (Str.ofString "insert"), key := Value.str (Str.ofString "insert") 591, val := Value.ref 314 }, { hash := PyData.keyHash P (Str.ofString "first_tower"), key := Value.str (Str.ofString "first_tower") 598, val := Value.ref 321 }, { hash := PyData.keyHash P (Str.ofString "seek_tower"), key := Value.str (Str.ofString "seek_tower") 606, val := Value.ref 328 }, { hash := PyData.keyHash P (Str.ofString "before_tower"), key := Value.str (Str.ofString "before_tower") 618, val := Value.ref 335 }, { hash := PyData.keyHash P (Str.ofString "last_tower"), key := Value.str (Str.ofString "last_tower") 629, val := Value.ref 342 }, { hash := PyData.keyHash P (Str.ofString "__static_attributes__"), key := Value.str (Str.ofString "__static_attributes__") 635, val := Value.ref 343 }, { hash := PyData.keyHash P (Str.ofString "__dict__"), key := Value.str (Str.ofString "__dict__") 637, val := Value.ref 346 }, { hash := PyData.keyHash P (Str.ofString "__weakref__"), key := Value.str (Str.ofString "__weakref__") 639, val := Value.ref 347 }, { hash := PyData.keyHash P (Str.ofString "__doc__"), key := Value.str (Str.ofString "__doc__") 640, val := Value.none }] 4 }) ::
  (nat_lit 345, { cls := Value.type "type", data := Data.cls { name := Str.ofString "SkipList", bases := [Value.type "object"], mro := [Value.ref 345, Value.type "object"], ns := 344, qualname := Str.ofString "SkipList" }, slots := #[none, none, some (Value.str (Str.ofString "SkipList") 537), some (Value.str (Str.ofString "SkipList") 545), some (Value.builtin "object.__new__"), some (Value.bool true)] }) ::
  (nat_lit 346, { cls := Value.type "getset_descriptor", data := Data.fields #[Value.str (Str.ofString "__dict__") 636, Value.ref 345, Value.builtin "function.__dict__", Value.builtin "function.__dict__#set"] }) ::
  (nat_lit 347, { cls := Value.type "getset_descriptor", data := Data.fields #[Value.str (Str.ofString "__weakref__") 638, Value.ref 345, Value.builtin "ExceptionGroup.__weakref__", Value.none] }) ::
  (nat_lit 350, { cls := Value.type "tuple", data := Data.seq #[] }) ::
  (nat_lit 352, { cls := Value.type "tuple", data := Data.seq #[] }) ::
  (nat_lit 353, { cls := Value.type "tuple", data := Data.seq #[] }) ::
  (nat_lit 355, { cls := Value.type "code", data := Data.fields #[Value.str (Str.ofString "_law_users") 645, Value.str (Str.ofString "_law_users") 646, Value.str (Str.ofString "/claim/cut.py") 647, Value.int 177 0, Value.int 0 0, Value.int 0 0, Value.int 0 0, Value.int 3 0, Value.ref 350, Value.bool true, Value.int 181 0, Value.ref 351, Value.none, Value.ref 352, Value.ref 353, Value.ref 354, Value.int 648 0, Value.int 177 0, Value.str (Str.ofString "/claim/cut.py") 649] }) ::
  (nat_lit 356, { cls := Value.type "function", data := Data.func { name := Str.ofString "_law_users", qualname := Str.ofString "_law_users", params := Sk.fp 28, body := FuncBody.stmts (Sk.fb 28), scope := Sk.fs 28, globals := 3, closure := [], defaults := Value.none, kwdefaults := Value.none, pyModule := Value.str (Str.ofString "law_no0405_01") 643, code := Value.ref 355 } }) ::
  (nat_lit 357, { cls := Value.type "tuple", data := Data.seq #[] }) ::
  (nat_lit 359, { cls := Value.type "tuple", data := Data.seq #[Value.str (Str.ofString "nums") 654, Value.str (Str.ofString "i") 655] }) ::
  (nat_lit 360, { cls := Value.type "tuple", data := Data.seq #[] }) ::
  (nat_lit 362, { cls := Value.type "code", data := Data.fields #[Value.str (Str.ofString "_law_draw") 651, Value.str (Str.ofString "_law_draw") 652, Value.str (Str.ofString "/claim/cut.py") 653, Value.int 179 0, Value.int 2 0, Value.int 0 0, Value.int 0 0, Value.int 3 0, Value.ref 357, Value.bool true, Value.int 181 0, Value.ref 358, Value.none, Value.ref 359, Value.ref 360, Value.ref 361, Value.int 656 0, Value.int 179 0, Value.str (Str.ofString "/claim/cut.py") 657] }) ::
  (nat_lit 363, { cls := Value.type "function", data := Data.func { name := Str.ofString "_law_draw", qualname := Str.ofString "_law_draw", params := Sk.fp 29, body := FuncBody.stmts (Sk.fb 29), scope := Sk.fs 29, globals := 3, closure := [], defaults := Value.none, kwdefaults := Value.none, pyModule := Value.str (Str.ofString "law_no0405_01") 643, code := Value.ref 362 } }) ::
  (nat_lit 364, { cls := Value.type "tuple", data := Data.seq #[] }) ::
  (nat_lit 366, { cls := Value.type "tuple", data := Data.seq #[Value.str (Str.ofString "x") 662] }) ::
  (nat_lit 367, { cls := Value.type "tuple", data := Data.seq #[] }) ::
  (nat_lit 369, { cls := Value.type "code", data := Data.fields #[Value.str (Str.ofString "_law_key") 659, Value.str (Str.ofString "_law_key") 660, Value.str (Str.ofString "/claim/cut.py") 661, Value.int 181 0, Value.int 1 0, Value.int 0 0, Value.int 0 0, Value.int 3 0, Value.ref 364, Value.bool true, Value.int 181 0, Value.ref 365, Value.none, Value.ref 366, Value.ref 367, Value.ref 368, Value.int 663 0, Value.int 181 0, Value.str (Str.ofString "/claim/cut.py") 664] }) ::
  (nat_lit 370, { cls := Value.type "function", data := Data.func { name := Str.ofString "_law_key", qualname := Str.ofString "_law_key", params := Sk.fp 30, body := FuncBody.stmts (Sk.fb 30), scope := Sk.fs 30, globals := 3, closure := [], defaults := Value.none, kwdefaults := Value.none, pyModule := Value.str (Str.ofString "law_no0405_01") 643, code := Value.ref 369 } }) ::
  (nat_lit 371, { cls := Value.type "tuple", data := Data.seq #[] }) ::
  (nat_lit 373, { cls := Value.type "tuple", data := Data.seq #[Value.str (Str.ofString "key") 669, Value.str (Str.ofString "internal") 670, Value.str (Str.ofString "n") 671] }) ::
  (nat_lit 374, { cls := Value.type "tuple", data := Data.seq #[] }) ::
  (nat_lit 376, { cls := Value.type "code", data := Data.fields #[Value.str (Str.ofString "_law_rank") 666, Value.str (Str.ofString "_law_rank") 667, Value.str (Str.ofString "/claim/cut.py") 668, Value.int 183 0, Value.int 2 0, Value.int 0 0, Value.int 0 0, Value.int 3 0, Value.ref 371, Value.bool true, Value.int 181 0, Value.ref 372, Value.none, Value.ref 373, Value.ref 374, Value.ref 375, Value.int 672 0, Value.int 183 0, Value.str (Str.ofString "/claim/cut.py") 673] }) ::
  (nat_lit 377, { cls := Value.type "function", data := Data.func { name := Str.ofString "_law_rank", qualname := Str.ofString "_law_rank", params := Sk.fp 31, body := FuncBody.stmts (Sk.fb 31), scope := Sk.fs 31, globals := 3, closure := [], defaults := Value.none, kwdefaults := Value.none, pyModule := Value.str (Str.ofString "law_no0405_01") 643, code := Value.ref 376 } }) ::
  (nat_lit 378, { cls := Value.type "tuple", data := Data.seq #[] }) ::
  (nat_lit 380, { cls := Value.type "tuple", data := Data.seq #[Value.str (Str.ofString "order") 678, Value.str (Str.ofString "most") 679, Value.str (Str.ofString "heights") 680] }) ::
  (nat_lit 381, { cls := Value.type "tuple", data := Data.seq #[] }) ::
  (nat_lit 383, { cls := Value.type "code", data := Data.fields #[Value.str (Str.ofString "_law_refused") 675, Value.str (Str.ofString "_law_refused") 676, Value.str (Str.ofString "/claim/cut.py") 677, Value.int 188 0, Value.int 3 0, Value.int 0 0, Value.int 0 0, Value.int 3 0, Value.ref 378, Value.bool true, Value.int 181 0, Value.ref 379, Value.none, Value.ref 380, Value.ref 381, Value.ref 382, Value.int 681 0, Value.int 188 0, Value.str (Str.ofString "/claim/cut.py") 682] }) ::
  (nat_lit 384, { cls := Value.type "function", data := Data.func { name := Str.ofString "_law_refused", qualname := Str.ofString "_law_refused", params := Sk.fp 32, body := FuncBody.stmts (Sk.fb 32), scope := Sk.fs 32, globals := 3, closure := [], defaults := Value.none, kwdefaults := Value.none, pyModule := Value.str (Str.ofString "law_no0405_01") 643, code := Value.ref 383 } }) ::
  (nat_lit 385, { cls := Value.type "tuple", data := Data.seq #[] }) ::
  (nat_lit 387, { cls := Value.type "tuple", data := Data.seq #[Value.str (Str.ofString "head") 687, Value.str (Str.ofString "level") 688, Value.str (Str.ofString "most") 689, Value.str (Str.ofString "found") 690, Value.str (Str.ofString "tower") 691] }) ::
  (nat_lit 388, { cls := Value.type "tuple", data := Data.seq #[] }) ::
  (nat_lit 390, { cls := Value.type "code", data := Data.fields #[Value.str (Str.ofString "_law_floor") 684, Value.str (Str.ofString "_law_floor") 685, Value.str (Str.ofString "/claim/cut.py") 686, Value.int 194 0, Value.int 3 0, Value.int 0 0, Value.int 0 0, Value.int 3 0, Value.ref 385, Value.bool true, Value.int 181 0, Value.ref 386, Value.none, Value.ref 387, Value.ref 388, Value.ref 389, Value.int 692 0, Value.int 194 0, Value.str (Str.ofString "/claim/cut.py") 693] }) ::
  (nat_lit 391, { cls := Value.type "function", data := Data.func { name := Str.ofString "_law_floor", qualname := Str.ofString "_law_floor", params := Sk.fp 33, body := FuncBody.stmts (Sk.fb 33), scope := Sk.fs 33, globals := 3, closure := [], defaults := Value.none, kwdefaults := Value.none, pyModule := Value.str (Str.ofString "law_no0405_01") 643, code := Value.ref 390 } }) ::
  (nat_lit 392, { cls := Value.type "tuple", data := Data.seq #[] }) ::
  (nat_lit 395, { cls := Value.type "code", data := Data.fields #[Value.str (Str.ofString "_law_stands") 695, Value.str (Str.ofString "_law_stands") 696, Value.str (Str.ofString "/claim/cut.py") 697, Value.int 201 0, Value.int 4 0, Value.int 0 0, Value.int 0 0, Value.int 3 0, Value.ref 392, Value.bool true, Value.int 181 0, Value.ref 393, Value.none, Value.none, Value.none, Value.ref 394, Value.int 698 0, Value.int 201 0, Value.str (Str.ofString "/claim/cut.py") 699] }) ::
  (nat_lit 396, { cls := Value.type "function", data := Data.func { name := Str.ofString "_law_stands", qualname := Str.ofString "_law_stands", params := Sk.fp 34, body := FuncBody.stmts (Sk.fb 34), scope := Sk.fs 34, globals := 3, closure := [], defaults := Value.none, kwdefaults := Value.none, pyModule := Value.str (Str.ofString "law_no0405_01") 643, code := Value.ref 395 } }) ::
  (nat_lit 397, { cls := Value.type "tuple", data := Data.seq #[] }) ::
  (nat_lit 399, { cls := Value.type "tuple", data := Data.seq #[Value.str (Str.ofString "tower") 704] }) ::
  (nat_lit 400, { cls := Value.type "tuple", data := Data.seq #[] }) ::
  (nat_lit 402, { cls := Value.type "code", data := Data.fields #[Value.str (Str.ofString "_law_told") 701, Value.str (Str.ofString "_law_told") 702, Value.str (Str.ofString "/claim/cut.py") 703, Value.int 206 0, Value.int 1 0, Value.int 0 0, Value.int 0 0, Value.int 3 0, Value.ref 397, Value.bool true, Value.int 181 0, Value.ref 398, Value.none, Value.ref 399, Value.ref 400, Value.ref 401, Value.int 705 0, Value.int 206 0, Value.str (Str.ofString "/claim/cut.py") 706] }) ::
  (nat_lit 403, { cls := Value.type "function", data := Data.func { name := Str.ofString "_law_told", qualname := Str.ofString "_law_told", params := Sk.fp 35, body := FuncBody.stmts (Sk.fb 35), scope := Sk.fs 35, globals := 3, closure := [], defaults := Value.none, kwdefaults := Value.none, pyModule := Value.str (Str.ofString "law_no0405_01") 643, code := Value.ref 402 } }) ::
  (nat_lit 404, { cls := Value.type "tuple", data := Data.seq #[] }) ::
  (nat_lit 407, { cls := Value.type "code", data := Data.fields #[Value.str (Str.ofString "_law_finds") 708, Value.str (Str.ofString "_law_finds") 709, Value.str (Str.ofString "/claim/cut.py") 710, Value.int 210 0, Value.int 6 0, Value.int 0 0, Value.int 0 0, Value.int 3 0, Value.ref 404, Value.bool true, Value.int 181 0, Value.ref 405, Value.none, Value.none, Value.none, Value.ref 406, Value.int 711 0, Value.int 210 0, Value.str (Str.ofString "/claim/cut.py") 712] }) ::
  (nat_lit 408, { cls := Value.type "function", data := Data.func { name := Str.ofString "_law_finds", qualname := Str.ofString "_law_finds", params := Sk.fp 36, body := FuncBody.stmts (Sk.fb 36), scope := Sk.fs 36, globals := 3, closure := [], defaults := Value.none, kwdefaults := Value.none, pyModule := Value.str (Str.ofString "law_no0405_01") 643, code := Value.ref 407 } }) ::
  (nat_lit 409, { cls := Value.type "tuple", data := Data.seq #[] }) ::
  (nat_lit 412, { cls := Value.type "code", data := Data.fields #[Value.str (Str.ofString "law") 714, Value.str (Str.ofString "law") 715, Value.str (Str.ofString "/claim/cut.py") 716, Value.int 228 0, Value.int 1 0, Value.int 0 0, Value.int 0 0, Value.int 3 0, Value.ref 409, Value.bool true, Value.int 181 0, Value.ref 410, Value.none, Value.none, Value.none, Value.ref 411, Value.int 717 0, Value.int 228 0, Value.str (Str.ofString "/claim/cut.py") 718] }) ::
  (nat_lit 413, { cls := Value.type "function", data := Data.func { name := Str.ofString "law", qualname := Str.ofString "law", params := Sk.fp 37, body := FuncBody.stmts (Sk.fb 37), scope := Sk.fs 37, globals := 3, closure := [], defaults := Value.none, kwdefaults := Value.none, pyModule := Value.str (Str.ofString "law_no0405_01") 643, code := Value.ref 412 } }) :: []
noncomputable abbrev asK : List Nat := [nat_lit 2, nat_lit 3, nat_lit 15, nat_lit 17, nat_lit 18, nat_lit 20, nat_lit 21, nat_lit 22, nat_lit 29, nat_lit 30, nat_lit 31, nat_lit 32, nat_lit 35, nat_lit 42, nat_lit 43, nat_lit 44, nat_lit 47, nat_lit 54, nat_lit 55, nat_lit 56, nat_lit 59, nat_lit 66, nat_lit 67, nat_lit 68, nat_lit 71, nat_lit 78, nat_lit 79, nat_lit 80, nat_lit 83, nat_lit 90, nat_lit 91, nat_lit 92, nat_lit 95, nat_lit 97, nat_lit 98, nat_lit 100, nat_lit 101, nat_lit 102, nat_lit 104, nat_lit 105, nat_lit 107, nat_lit 108, nat_lit 109, nat_lit 111, nat_lit 112, nat_lit 114, nat_lit 115, nat_lit 116, nat_lit 118, nat_lit 119, nat_lit 121, nat_lit 122, nat_lit 130, nat_lit 132, nat_lit 133, nat_lit 135, nat_lit 136, nat_lit 137, nat_lit 139, nat_lit 140, nat_lit 142, nat_lit 143, nat_lit 144, nat_lit 146, nat_lit 147, nat_lit 149, nat_lit 150, nat_lit 151, nat_lit 153, nat_lit 154, nat_lit 156, nat_lit 157, nat_lit 158, nat_lit 159, nat_lit 160, nat_lit 161, nat_lit 162, nat_lit 165, nat_lit 172, nat_lit 174, nat_lit 175, nat_lit 177, nat_lit 178, nat_lit 179, nat_lit 181, nat_lit 182, nat_lit 184, nat_lit 185, nat_lit 186, nat_lit 188, nat_lit 189, nat_lit 191, nat_lit 192, nat_lit 193, nat_lit 194, nat_lit 195, nat_lit 198, nat_lit 205, nat_lit 207, nat_lit 208, nat_lit 210, nat_lit 211, nat_lit 212, nat_lit 214, nat_lit 215, nat_lit 217, nat_lit 218, nat_lit 219, nat_lit 221, nat_lit 222, nat_lit 224, nat_lit 225, nat_lit 226, nat_lit 228, nat_lit 229, nat_lit 231, nat_lit 232, nat_lit 233, nat_lit 235, nat_lit 236, nat_lit 238, nat_lit 239, nat_lit 240, nat_lit 242, nat_lit 243, nat_lit 245, nat_lit 246, nat_lit 247, nat_lit 248, nat_lit 249, nat_lit 252, nat_lit 254, nat_lit 255, nat_lit 257, nat_lit 258, nat_lit 266, nat_lit 268, nat_lit 269, nat_lit 271, nat_lit 272, nat_lit 273, nat_lit 274, nat_lit 275, nat_lit 276, nat_lit 277, nat_lit 287, nat_lit 289, nat_lit 290, nat_lit 292, nat_lit 293, nat_lit 294, nat_lit 296, nat_lit 297, nat_lit 299, nat_lit 300, nat_lit 301, nat_lit 303, nat_lit 304, nat_lit 306, nat_lit 307, nat_lit 308, nat_lit 310, nat_lit 311, nat_lit 313, nat_lit 314, nat_lit 315, nat_lit 317, nat_lit 318, nat_lit 320, nat_lit 321, nat_lit 322, nat_lit 324, nat_lit 325, nat_lit 327, nat_lit 328, nat_lit 329, nat_lit 331, nat_lit 332, nat_lit 334, nat_lit 335, nat_lit 336, nat_lit 338, nat_lit 339, nat_lit 341, nat_lit 342, nat_lit 343, nat_lit 344, nat_lit 345, nat_lit 346, nat_lit 347, nat_lit 350, nat_lit 352, nat_lit 353, nat_lit 355, nat_lit 356, nat_lit 357, nat_lit 359, nat_lit 360, nat_lit 362, nat_lit 363, nat_lit 364, nat_lit 366, nat_lit 367, nat_lit 369, nat_lit 370, nat_lit 371, nat_lit 373, nat_lit 374, nat_lit 376, nat_lit 377, nat_lit 378, nat_lit 380, nat_lit 381, nat_lit 383, nat_lit 384, nat_lit 385, nat_lit 387, nat_lit 388, nat_lit 390, nat_lit 391, nat_lit 392, nat_lit 395, nat_lit 396, nat_lit 397, nat_lit 399, nat_lit 400, nat_lit 402, nat_lit 403, nat_lit 404, nat_lit 407, nat_lit 408, nat_lit 409, nat_lit 412, nat_lit 413]
noncomputable def stN : Nat → List Stmt → Stmt
  | _, [] => .Pass { line := 0, col := 0, endLine := 0, endCol := 0 }
  | 0, x :: _ => x
  | n + 1, _ :: r => stN n r
noncomputable def st (n : Nat) : Stmt := stN n PySem.Challenge.pw_no0405_01.main.body
noncomputable def vw : Program := { PySem.Challenge.pw_no0405_01 with main := { PySem.Challenge.pw_no0405_01.main with body := [st 0, st 2, st 3, st 4, st 5, st 6, st 7, st 9, st 10, st 12, st 13, st 14, st 15, st 16, st 17, st 18, st 19, st 20, st 22, st 23, st 24, st 25, st 26, st 27, st 28, st 29, st 30, st 31] } }
noncomputable def H : Hook := kHook K asK (fun _ => by kernel_rfl)
/-! the top run over a tree of objects -/
def runT (thr ok : Thread → Bool) (st : SharedT → Thread → Option (SharedT × Thread)) : Nat → SharedT → Thread → Option SharedT
  | 0, _, _ => none
  | n + 1, s, t => match thr t with
    | true => some s
    | false => match ok t with
      | false => none
      | true => match st s t with
        | some (s', t') => runT thr ok st n s' t'
        | none => none
theorem runT_spec {tb : String → Option Builtin} {p : Program} {w : World} {n₀ : Nat} {ann : Option Value} : ∀ (n : Nat) (s : SharedT) (t : Thread) (s' : SharedT), runT through (stepOk n₀ ann) (stepT (denote tb) p w) n s t = some s' → topRun tb p w n₀ ann n s.abs t = some s'.abs
  | 0, _, _, _, h => by cases h
  | n + 1, s, t, s', h => by
    unfold runT at h
    unfold topRun
    cases ht : through t with
    | true => rw [ht] at h; cases h; rfl
    | false =>
      rw [ht] at h
      cases hk : stepOk n₀ ann t with
      | false => rw [hk] at h; cases h
      | true =>
        rw [hk] at h
        cases hs : stepT (denote tb) p w s t with
        | none => rw [hs] at h; cases h
        | some r => obtain ⟨s₂, t₂⟩ := r; rw [hs] at h; rw [stepT_spec hs]; exact runT_spec n s₂ t₂ s' h
noncomputable def X : Params → Frag := fun P =>
  (nat_lit 0, boot_o_0 P) ::
  (nat_lit 1, boot_o_1 P) ::
  (nat_lit 4, boot_o_4 P) ::
  (nat_lit 5, boot_o_5 P) ::
  (nat_lit 6, boot_o_6 P) ::
  (nat_lit 7, boot_o_7 P) ::
  (nat_lit 8, boot_o_8 P) ::
  (nat_lit 9, boot_o_9 P) ::
  (nat_lit 10, boot_o_10 P) ::
  (nat_lit 11, { cls := Value.type "tuple", data := Data.seq #[] }) ::
  (nat_lit 12, { cls := Value.none, data := Data.fields #[Value.int 1 0, Value.int 0 0, Value.ref 20, Value.int 5 0, Value.int 0 0, Value.ref 27, Value.int 7 0, Value.int 0 0, Value.ref 40, Value.int 9 0, Value.int 0 0, Value.ref 52, Value.int 11 0, Value.int 0 0, Value.ref 64, Value.int 13 0, Value.int 0 0, Value.ref 76, Value.int 15 0, Value.int 0 0, Value.ref 88, Value.int 18 0, Value.int 0 0, Value.ref 100, Value.int 22 0, Value.int 0 0, Value.ref 107, Value.int 28 0, Value.int 0 0, Value.ref 114, Value.int 32 0, Value.int 0 0, Value.ref 121, Value.int 36 0, Value.int 0 0, Value.ref 128, Value.int 53 0, Value.int 0 0, Value.ref 170, Value.int 63 0, Value.int 0 0, Value.ref 203, Value.int 91 0, Value.int 0 0, Value.ref 257, Value.int 97 0, Value.int 0 0, Value.ref 264, Value.int 103 0, Value.int 0 0, Value.ref 285, Value.int 177 0, Value.int 0 0, Value.ref 355, Value.int 179 0, Value.int 0 0, Value.ref 362, Value.int 181 0, Value.int 0 0, Value.ref 369, Value.int 183 0, Value.int 0 0, Value.ref 376, Value.int 188 0, Value.int 0 0, Value.ref 383, Value.int 194 0, Value.int 0 0, Value.ref 390, Value.int 201 0, Value.int 0 0, Value.ref 395, Value.int 206 0, Value.int 0 0, Value.ref 402, Value.int 210 0, Value.int 0 0, Value.ref 407, Value.int 228 0, Value.int 0 0, Value.ref 412] }) ::
  (nat_lit 13, { cls := Value.type "code", data := Data.fields #[Value.str (Str.ofString "<module>") 182, Value.str (Str.ofString "<module>") 183, Value.str (Str.ofString "/claim/cut.py") 184, Value.int 1 0, Value.int 0 0, Value.int 0 0, Value.int 0 0, Value.int 0 0, Value.ref 11, Value.bool false, Value.int 181 0, Value.ref 12, Value.none, Value.none, Value.none, Value.none, Value.int 185 0, Value.int 1 0, Value.str (Str.ofString "/claim/cut.py") 186] }) ::
  (nat_lit 14, { cls := Value.type "frame", slots := #[some (Value.ref 13), some (Value.ref 3), some (Value.ref 3), none, some (Value.str (Str.ofString "__main__") 164), none, some (Value.ref 0)] }) ::
  (nat_lit 16, { cls := Value.none, data := Data.fields #[] }) ::
  (nat_lit 19, { cls := Value.none, data := Data.func { name := Str.ofString "_wall", qualname := Str.ofString "_wall", params := Sk.fp 0, body := FuncBody.stmts (Sk.fb 0), scope := Sk.fs 0, globals := 0, closure := [], defaults := Value.none, kwdefaults := Value.none } }) ::
  (nat_lit 23, { cls := Value.type "builtin_function_or_method", data := Data.fields #[Value.builtin "type.__prepare__", Value.type "type"] }) ::
  (nat_lit 24, { cls := Value.type "dict", data := Data.dict #[{ hash := PyData.keyHash P (Str.ofString "__module__"), key := Value.str (Str.ofString "__module__") 203, val := Value.str (Str.ofString "raftkeep.errors") 194 }, { hash := PyData.keyHash P (Str.ofString "__qualname__"), key := Value.str (Str.ofString "__qualname__") 205, val := Value.str (Str.ofString "KeepError") 204 }, { hash := PyData.keyHash P (Str.ofString "__firstlineno__"), key := Value.str (Str.ofString "__firstlineno__") 207, val := Value.int 5 206 }, { hash := PyData.keyHash P (Str.ofString "__static_attributes__"), key := Value.str (Str.ofString "__static_attributes__") 208, val := Value.ref 29 }] 4 }) ::
  (nat_lit 25, { cls := Value.type "tuple", data := Data.seq #[] }) ::
  (nat_lit 26, { cls := Value.none, data := Data.fields #[] }) ::
  (nat_lit 27, { cls := Value.type "code", data := Data.fields #[Value.str (Str.ofString "KeepError") 198, Value.str (Str.ofString "KeepError") 199, Value.str (Str.ofString "/claim/cut.py") 200, Value.int 5 0, Value.int 0 0, Value.int 0 0, Value.int 0 0, Value.int 0 0, Value.ref 25, Value.bool false, Value.int 181 0, Value.ref 26, Value.none, Value.none, Value.none, Value.none, Value.int 201 0, Value.int 5 0, Value.str (Str.ofString "/claim/cut.py") 202] }) ::
  (nat_lit 28, { cls := Value.type "frame", slots := #[some (Value.ref 27), some (Value.ref 3), some (Value.ref 24), none, some (Value.str (Str.ofString "raftkeep.errors") 194), none, some (Value.ref 0)] }) ::
  (nat_lit 33, { cls := Value.type "super", data := Data.fields #[Value.ref 31, Value.ref 31, Value.ref 31] }) ::
  (nat_lit 34, { cls := Value.type "builtin_function_or_method", data := Data.fields #[Value.builtin "object.__init_subclass__", Value.ref 31] }) ::
  (nat_lit 36, { cls := Value.type "builtin_function_or_method", data := Data.fields #[Value.builtin "type.__prepare__", Value.type "type"] }) ::
  (nat_lit 37, { cls := Value.type "dict", data := Data.dict #[{ hash := PyData.keyHash P (Str.ofString "__module__"), key := Value.str (Str.ofString "__module__") 223, val := Value.str (Str.ofString "raftkeep.errors") 194 }, { hash := PyData.keyHash P (Str.ofString "__qualname__"), key := Value.str (Str.ofString "__qualname__") 225, val := Value.str (Str.ofString "StoreError") 224 }, { hash := PyData.keyHash P (Str.ofString "__firstlineno__"), key := Value.str (Str.ofString "__firstlineno__") 227, val := Value.int 7 226 }, { hash := PyData.keyHash P (Str.ofString "__static_attributes__"), key := Value.str (Str.ofString "__static_attributes__") 228, val := Value.ref 42 }] 4 }) ::
  (nat_lit 38, { cls := Value.type "tuple", data := Data.seq #[] }) ::
  (nat_lit 39, { cls := Value.none, data := Data.fields #[] }) ::
  (nat_lit 40, { cls := Value.type "code", data := Data.fields #[Value.str (Str.ofString "StoreError") 218, Value.str (Str.ofString "StoreError") 219, Value.str (Str.ofString "/claim/cut.py") 220, Value.int 7 0, Value.int 0 0, Value.int 0 0, Value.int 0 0, Value.int 0 0, Value.ref 38, Value.bool false, Value.int 181 0, Value.ref 39, Value.none, Value.none, Value.none, Value.none, Value.int 221 0, Value.int 7 0, Value.str (Str.ofString "/claim/cut.py") 222] }) ::
  (nat_lit 41, { cls := Value.type "frame", slots := #[some (Value.ref 40), some (Value.ref 3), some (Value.ref 37), none, some (Value.str (Str.ofString "raftkeep.errors") 194), none, some (Value.ref 0)] }) ::
  (nat_lit 45, { cls := Value.type "super", data := Data.fields #[Value.ref 44, Value.ref 44, Value.ref 44] }) ::
  (nat_lit 46, { cls := Value.type "builtin_function_or_method", data := Data.fields #[Value.builtin "object.__init_subclass__", Value.ref 44] }) ::
  (nat_lit 48, { cls := Value.type "builtin_function_or_method", data := Data.fields #[Value.builtin "type.__prepare__", Value.type "type"] }) ::
  (nat_lit 49, { cls := Value.type "dict", data := Data.dict #[{ hash := PyData.keyHash P (Str.ofString "__module__"), key := Value.str (Str.ofString "__module__") 239, val := Value.str (Str.ofString "raftkeep.errors") 194 }, { hash := PyData.keyHash P (Str.ofString "__qualname__"), key := Value.str (Str.ofString "__qualname__") 241, val := Value.str (Str.ofString "Corrupt") 240 }, { hash := PyData.keyHash P (Str.ofString "__firstlineno__"), key := Value.str (Str.ofString "__firstlineno__") 243, val := Value.int 9 242 }, { hash := PyData.keyHash P (Str.ofString "__static_attributes__"), key := Value.str (Str.ofString "__static_attributes__") 244, val := Value.ref 54 }] 4 }) ::
  (nat_lit 50, { cls := Value.type "tuple", data := Data.seq #[] }) ::
  (nat_lit 51, { cls := Value.none, data := Data.fields #[] }) ::
  (nat_lit 52, { cls := Value.type "code", data := Data.fields #[Value.str (Str.ofString "Corrupt") 234, Value.str (Str.ofString "Corrupt") 235, Value.str (Str.ofString "/claim/cut.py") 236, Value.int 9 0, Value.int 0 0, Value.int 0 0, Value.int 0 0, Value.int 0 0, Value.ref 50, Value.bool false, Value.int 181 0, Value.ref 51, Value.none, Value.none, Value.none, Value.none, Value.int 237 0, Value.int 9 0, Value.str (Str.ofString "/claim/cut.py") 238] }) ::
  (nat_lit 53, { cls := Value.type "frame", slots := #[some (Value.ref 52), some (Value.ref 3), some (Value.ref 49), none, some (Value.str (Str.ofString "raftkeep.errors") 194), none, some (Value.ref 0)] }) ::
  (nat_lit 57, { cls := Value.type "super", data := Data.fields #[Value.ref 56, Value.ref 56, Value.ref 56] }) ::
  (nat_lit 58, { cls := Value.type "builtin_function_or_method", data := Data.fields #[Value.builtin "object.__init_subclass__", Value.ref 56] }) ::
  (nat_lit 60, { cls := Value.type "builtin_function_or_method", data := Data.fields #[Value.builtin "type.__prepare__", Value.type "type"] }) ::
  (nat_lit 61, { cls := Value.type "dict", data := Data.dict #[{ hash := PyData.keyHash P (Str.ofString "__module__"), key := Value.str (Str.ofString "__module__") 255, val := Value.str (Str.ofString "raftkeep.errors") 194 }, { hash := PyData.keyHash P (Str.ofString "__qualname__"), key := Value.str (Str.ofString "__qualname__") 257, val := Value.str (Str.ofString "ShortOctets") 256 }, { hash := PyData.keyHash P (Str.ofString "__firstlineno__"), key := Value.str (Str.ofString "__firstlineno__") 259, val := Value.int 11 258 }, { hash := PyData.keyHash P (Str.ofString "__static_attributes__"), key := Value.str (Str.ofString "__static_attributes__") 260, val := Value.ref 66 }] 4 }) ::
  (nat_lit 62, { cls := Value.type "tuple", data := Data.seq #[] }) ::
  (nat_lit 63, { cls := Value.none, data := Data.fields #[] }) ::
  (nat_lit 64, { cls := Value.type "code", data := Data.fields #[Value.str (Str.ofString "ShortOctets") 250, Value.str (Str.ofString "ShortOctets") 251, Value.str (Str.ofString "/claim/cut.py") 252, Value.int 11 0, Value.int 0 0, Value.int 0 0, Value.int 0 0, Value.int 0 0, Value.ref 62, Value.bool false, Value.int 181 0, Value.ref 63, Value.none, Value.none, Value.none, Value.none, Value.int 253 0, Value.int 11 0, Value.str (Str.ofString "/claim/cut.py") 254] }) ::
  (nat_lit 65, { cls := Value.type "frame", slots := #[some (Value.ref 64), some (Value.ref 3), some (Value.ref 61), none, some (Value.str (Str.ofString "raftkeep.errors") 194), none, some (Value.ref 0)] }) ::
  (nat_lit 69, { cls := Value.type "super", data := Data.fields #[Value.ref 68, Value.ref 68, Value.ref 68] }) ::
  (nat_lit 70, { cls := Value.type "builtin_function_or_method", data := Data.fields #[Value.builtin "object.__init_subclass__", Value.ref 68] }) ::
  (nat_lit 72, { cls := Value.type "builtin_function_or_method", data := Data.fields #[Value.builtin "type.__prepare__", Value.type "type"] }) ::
  (nat_lit 73, { cls := Value.type "dict", data := Data.dict #[{ hash := PyData.keyHash P (Str.ofString "__module__"), key := Value.str (Str.ofString "__module__") 271, val := Value.str (Str.ofString "raftkeep.errors") 194 }, { hash := PyData.keyHash P (Str.ofString "__qualname__"), key := Value.str (Str.ofString "__qualname__") 273, val := Value.str (Str.ofString "BadOption") 272 }, { hash := PyData.keyHash P (Str.ofString "__firstlineno__"), key := Value.str (Str.ofString "__firstlineno__") 275, val := Value.int 13 274 }, { hash := PyData.keyHash P (Str.ofString "__static_attributes__"), key := Value.str (Str.ofString "__static_attributes__") 276, val := Value.ref 78 }] 4 }) ::
  (nat_lit 74, { cls := Value.type "tuple", data := Data.seq #[] }) ::
  (nat_lit 75, { cls := Value.none, data := Data.fields #[] }) ::
  (nat_lit 76, { cls := Value.type "code", data := Data.fields #[Value.str (Str.ofString "BadOption") 266, Value.str (Str.ofString "BadOption") 267, Value.str (Str.ofString "/claim/cut.py") 268, Value.int 13 0, Value.int 0 0, Value.int 0 0, Value.int 0 0, Value.int 0 0, Value.ref 74, Value.bool false, Value.int 181 0, Value.ref 75, Value.none, Value.none, Value.none, Value.none, Value.int 269 0, Value.int 13 0, Value.str (Str.ofString "/claim/cut.py") 270] }) ::
  (nat_lit 77, { cls := Value.type "frame", slots := #[some (Value.ref 76), some (Value.ref 3), some (Value.ref 73), none, some (Value.str (Str.ofString "raftkeep.errors") 194), none, some (Value.ref 0)] }) ::
  (nat_lit 81, { cls := Value.type "super", data := Data.fields #[Value.ref 80, Value.ref 80, Value.ref 80] }) ::
  (nat_lit 82, { cls := Value.type "builtin_function_or_method", data := Data.fields #[Value.builtin "object.__init_subclass__", Value.ref 80] }) ::
  (nat_lit 84, { cls := Value.type "builtin_function_or_method", data := Data.fields #[Value.builtin "type.__prepare__", Value.type "type"] }) ::
  (nat_lit 85, { cls := Value.type "dict", data := Data.dict #[{ hash := PyData.keyHash P (Str.ofString "__module__"), key := Value.str (Str.ofString "__module__") 287, val := Value.str (Str.ofString "raftkeep.errors") 194 }, { hash := PyData.keyHash P (Str.ofString "__qualname__"), key := Value.str (Str.ofString "__qualname__") 289, val := Value.str (Str.ofString "BuildOrder") 288 }, { hash := PyData.keyHash P (Str.ofString "__firstlineno__"), key := Value.str (Str.ofString "__firstlineno__") 291, val := Value.int 15 290 }, { hash := PyData.keyHash P (Str.ofString "__static_attributes__"), key := Value.str (Str.ofString "__static_attributes__") 292, val := Value.ref 90 }] 4 }) ::
  (nat_lit 86, { cls := Value.type "tuple", data := Data.seq #[] }) ::
  (nat_lit 87, { cls := Value.none, data := Data.fields #[] }) ::
  (nat_lit 88, { cls := Value.type "code", data := Data.fields #[Value.str (Str.ofString "BuildOrder") 282, Value.str (Str.ofString "BuildOrder") 283, Value.str (Str.ofString "/claim/cut.py") 284, Value.int 15 0, Value.int 0 0, Value.int 0 0, Value.int 0 0, Value.int 0 0, Value.ref 86, Value.bool false, Value.int 181 0, Value.ref 87, Value.none, Value.none, Value.none, Value.none, Value.int 285 0, Value.int 15 0, Value.str (Str.ofString "/claim/cut.py") 286] }) ::
  (nat_lit 89, { cls := Value.type "frame", slots := #[some (Value.ref 88), some (Value.ref 3), some (Value.ref 85), none, some (Value.str (Str.ofString "raftkeep.errors") 194), none, some (Value.ref 0)] }) ::
  (nat_lit 93, { cls := Value.type "super", data := Data.fields #[Value.ref 92, Value.ref 92, Value.ref 92] }) ::
  (nat_lit 94, { cls := Value.type "builtin_function_or_method", data := Data.fields #[Value.builtin "object.__init_subclass__", Value.ref 92] }) ::
  (nat_lit 96, { cls := Value.none, data := Data.fields #[] }) ::
  (nat_lit 99, { cls := Value.none, data := Data.func { name := Str.ofString "read_fixed32", qualname := Str.ofString "read_fixed32", params := Sk.fp 1, body := FuncBody.stmts (Sk.fb 1), scope := Sk.fs 1, globals := 0, closure := [], defaults := Value.none, kwdefaults := Value.none } }) ::
  (nat_lit 103, { cls := Value.none, data := Data.fields #[] }) ::
  (nat_lit 106, { cls := Value.none, data := Data.func { name := Str.ofString "read_fixed64", qualname := Str.ofString "read_fixed64", params := Sk.fp 2, body := FuncBody.stmts (Sk.fb 2), scope := Sk.fs 2, globals := 0, closure := [], defaults := Value.none, kwdefaults := Value.none } }) ::
  (nat_lit 110, { cls := Value.none, data := Data.fields #[] }) ::
  (nat_lit 113, { cls := Value.none, data := Data.func { name := Str.ofString "user_of", qualname := Str.ofString "user_of", params := Sk.fp 3, body := FuncBody.stmts (Sk.fb 3), scope := Sk.fs 3, globals := 0, closure := [], defaults := Value.none, kwdefaults := Value.none } }) ::
  (nat_lit 117, { cls := Value.none, data := Data.fields #[] }) ::
  (nat_lit 120, { cls := Value.none, data := Data.func { name := Str.ofString "tag_of", qualname := Str.ofString "tag_of", params := Sk.fp 4, body := FuncBody.stmts (Sk.fb 4), scope := Sk.fs 4, globals := 0, closure := [], defaults := Value.none, kwdefaults := Value.none } }) ::
  (nat_lit 123, { cls := Value.type "tuple", data := Data.seq #[] }) ::
  (nat_lit 124, { cls := Value.type "builtin_function_or_method", data := Data.fields #[Value.builtin "type.__prepare__", Value.type "type"] }) ::
  (nat_lit 125, { cls := Value.type "dict", data := Data.dict #[{ hash := PyData.keyHash P (Str.ofString "__module__"), key := Value.str (Str.ofString "__module__") 339, val := Value.str (Str.ofString "raftkeep.keys") 314 }, { hash := PyData.keyHash P (Str.ofString "__qualname__"), key := Value.str (Str.ofString "__qualname__") 341, val := Value.str (Str.ofString "Order") 340 }, { hash := PyData.keyHash P (Str.ofString "__firstlineno__"), key := Value.str (Str.ofString "__firstlineno__") 343, val := Value.int 36 342 }, { hash := PyData.keyHash P (Str.ofString "compare"), key := Value.str (Str.ofString "compare") 352, val := Value.ref 136 }, { hash := PyData.keyHash P (Str.ofString "separator"), key := Value.str (Str.ofString "separator") 361, val := Value.ref 143 }, { hash := PyData.keyHash P (Str.ofString "successor"), key := Value.str (Str.ofString "successor") 369, val := Value.ref 150 }, { hash := PyData.keyHash P (Str.ofString "name"), key := Value.str (Str.ofString "name") 376, val := Value.ref 157 }, { hash := PyData.keyHash P (Str.ofString "__static_attributes__"), key := Value.str (Str.ofString "__static_attributes__") 377, val := Value.ref 158 }] 8 }) ::
  (nat_lit 126, { cls := Value.type "tuple", data := Data.seq #[] }) ::
  (nat_lit 127, { cls := Value.none, data := Data.fields #[Value.int 38 0, Value.int 4 0, Value.ref 135, Value.int 45 0, Value.int 4 0, Value.ref 142, Value.int 48 0, Value.int 4 0, Value.ref 149, Value.int 51 0, Value.int 4 0, Value.ref 156] }) ::
  (nat_lit 128, { cls := Value.type "code", data := Data.fields #[Value.str (Str.ofString "Order") 334, Value.str (Str.ofString "Order") 335, Value.str (Str.ofString "/claim/cut.py") 336, Value.int 36 0, Value.int 0 0, Value.int 0 0, Value.int 0 0, Value.int 0 0, Value.ref 126, Value.bool false, Value.int 181 0, Value.ref 127, Value.none, Value.none, Value.none, Value.none, Value.int 337 0, Value.int 36 0, Value.str (Str.ofString "/claim/cut.py") 338] }) ::
  (nat_lit 129, { cls := Value.type "frame", slots := #[some (Value.ref 128), some (Value.ref 3), some (Value.ref 125), none, some (Value.str (Str.ofString "raftkeep.keys") 314), none, some (Value.ref 0)] }) ::
  (nat_lit 131, { cls := Value.none, data := Data.fields #[] }) ::
  (nat_lit 134, { cls := Value.none, data := Data.func { name := Str.ofString "compare", qualname := Str.ofString "Order.compare", params := Sk.fp 5, body := FuncBody.stmts (Sk.fb 5), scope := Sk.fs 5, globals := 0, closure := [], defaults := Value.none, kwdefaults := Value.none } }) ::
  (nat_lit 138, { cls := Value.none, data := Data.fields #[] }) ::
  (nat_lit 141, { cls := Value.none, data := Data.func { name := Str.ofString "separator", qualname := Str.ofString "Order.separator", params := Sk.fp 6, body := FuncBody.stmts (Sk.fb 6), scope := Sk.fs 6, globals := 0, closure := [], defaults := Value.none, kwdefaults := Value.none } }) ::
  (nat_lit 145, { cls := Value.none, data := Data.fields #[] }) ::
  (nat_lit 148, { cls := Value.none, data := Data.func { name := Str.ofString "successor", qualname := Str.ofString "Order.successor", params := Sk.fp 7, body := FuncBody.stmts (Sk.fb 7), scope := Sk.fs 7, globals := 0, closure := [], defaults := Value.none, kwdefaults := Value.none } }) ::
  (nat_lit 152, { cls := Value.none, data := Data.fields #[] }) ::
  (nat_lit 155, { cls := Value.none, data := Data.func { name := Str.ofString "name", qualname := Str.ofString "Order.name", params := Sk.fp 8, body := FuncBody.stmts (Sk.fb 8), scope := Sk.fs 8, globals := 0, closure := [], defaults := Value.none, kwdefaults := Value.none } }) ::
  (nat_lit 163, { cls := Value.type "super", data := Data.fields #[Value.ref 160, Value.ref 160, Value.ref 160] }) ::
  (nat_lit 164, { cls := Value.type "builtin_function_or_method", data := Data.fields #[Value.builtin "object.__init_subclass__", Value.ref 160] }) ::
  (nat_lit 166, { cls := Value.type "builtin_function_or_method", data := Data.fields #[Value.builtin "type.__prepare__", Value.type "type"] }) ::
  (nat_lit 167, { cls := Value.type "dict", data := Data.dict #[{ hash := PyData.keyHash P (Str.ofString "__module__"), key := Value.str (Str.ofString "__module__") 392, val := Value.str (Str.ofString "raftkeep.keys") 314 }, { hash := PyData.keyHash P (Str.ofString "__qualname__"), key := Value.str (Str.ofString "__qualname__") 394, val := Value.str (Str.ofString "BytesOrder") 393 }, { hash := PyData.keyHash P (Str.ofString "__firstlineno__"), key := Value.str (Str.ofString "__firstlineno__") 396, val := Value.int 53 395 }, { hash := PyData.keyHash P (Str.ofString "separator"), key := Value.str (Str.ofString "separator") 405, val := Value.ref 178 }, { hash := PyData.keyHash P (Str.ofString "successor"), key := Value.str (Str.ofString "successor") 413, val := Value.ref 185 }, { hash := PyData.keyHash P (Str.ofString "name"), key := Value.str (Str.ofString "name") 420, val := Value.ref 192 }, { hash := PyData.keyHash P (Str.ofString "__static_attributes__"), key := Value.str (Str.ofString "__static_attributes__") 421, val := Value.ref 193 }] 7 }) ::
  (nat_lit 168, { cls := Value.type "tuple", data := Data.seq #[] }) ::
  (nat_lit 169, { cls := Value.none, data := Data.fields #[Value.int 55 0, Value.int 4 0, Value.ref 177, Value.int 58 0, Value.int 4 0, Value.ref 184, Value.int 61 0, Value.int 4 0, Value.ref 191] }) ::
  (nat_lit 170, { cls := Value.type "code", data := Data.fields #[Value.str (Str.ofString "BytesOrder") 387, Value.str (Str.ofString "BytesOrder") 388, Value.str (Str.ofString "/claim/cut.py") 389, Value.int 53 0, Value.int 0 0, Value.int 0 0, Value.int 0 0, Value.int 0 0, Value.ref 168, Value.bool false, Value.int 181 0, Value.ref 169, Value.none, Value.none, Value.none, Value.none, Value.int 390 0, Value.int 53 0, Value.str (Str.ofString "/claim/cut.py") 391] }) ::
  (nat_lit 171, { cls := Value.type "frame", slots := #[some (Value.ref 170), some (Value.ref 3), some (Value.ref 167), none, some (Value.str (Str.ofString "raftkeep.keys") 314), none, some (Value.ref 0)] }) ::
  (nat_lit 173, { cls := Value.none, data := Data.fields #[] }) ::
  (nat_lit 176, { cls := Value.none, data := Data.func { name := Str.ofString "separator", qualname := Str.ofString "BytesOrder.separator", params := Sk.fp 9, body := FuncBody.stmts (Sk.fb 9), scope := Sk.fs 6, globals := 0, closure := [], defaults := Value.none, kwdefaults := Value.none } }) ::
  (nat_lit 180, { cls := Value.none, data := Data.fields #[] }) ::
  (nat_lit 183, { cls := Value.none, data := Data.func { name := Str.ofString "successor", qualname := Str.ofString "BytesOrder.successor", params := Sk.fp 10, body := FuncBody.stmts (Sk.fb 10), scope := Sk.fs 7, globals := 0, closure := [], defaults := Value.none, kwdefaults := Value.none } }) ::
  (nat_lit 187, { cls := Value.none, data := Data.fields #[] }) ::
  (nat_lit 190, { cls := Value.none, data := Data.func { name := Str.ofString "name", qualname := Str.ofString "BytesOrder.name", params := Sk.fp 11, body := FuncBody.stmts (Sk.fb 11), scope := Sk.fs 8, globals := 0, closure := [], defaults := Value.none, kwdefaults := Value.none } }) ::
  (nat_lit 196, { cls := Value.type "super", data := Data.fields #[Value.ref 195, Value.ref 195, Value.ref 195] }) ::
  (nat_lit 197, { cls := Value.type "builtin_function_or_method", data := Data.fields #[Value.builtin "object.__init_subclass__", Value.ref 195] }) ::
  (nat_lit 199, { cls := Value.type "builtin_function_or_method", data := Data.fields #[Value.builtin "type.__prepare__", Value.type "type"] }) ::
  (nat_lit 200, { cls := Value.type "dict", data := Data.dict #[{ hash := PyData.keyHash P (Str.ofString "__module__"), key := Value.str (Str.ofString "__module__") 432, val := Value.str (Str.ofString "raftkeep.keys") 314 }, { hash := PyData.keyHash P (Str.ofString "__qualname__"), key := Value.str (Str.ofString "__qualname__") 434, val := Value.str (Str.ofString "InternalOrder") 433 }, { hash := PyData.keyHash P (Str.ofString "__firstlineno__"), key := Value.str (Str.ofString "__firstlineno__") 436, val := Value.int 63 435 }, { hash := PyData.keyHash P (Str.ofString "__init__"), key := Value.str (Str.ofString "__init__") 443, val := Value.ref 211 }, { hash := PyData.keyHash P (Str.ofString "compare"), key := Value.str (Str.ofString "compare") 455, val := Value.ref 218 }, { hash := PyData.keyHash P (Str.ofString "dress"), key := Value.str (Str.ofString "dress") 465, val := Value.ref 225 }, { hash := PyData.keyHash P (Str.ofString "separator"), key := Value.str (Str.ofString "separator") 474, val := Value.ref 232 }, { hash := PyData.keyHash P (Str.ofString "successor"), key := Value.str (Str.ofString "successor") 482, val := Value.ref 239 }, { hash := PyData.keyHash P (Str.ofString "name"), key := Value.str (Str.ofString "name") 489, val := Value.ref 246 }, { hash := PyData.keyHash P (Str.ofString "__static_attributes__"), key := Value.str (Str.ofString "__static_attributes__") 491, val := Value.ref 247 }] 10 }) ::
  (nat_lit 201, { cls := Value.type "tuple", data := Data.seq #[] }) ::
  (nat_lit 202, { cls := Value.none, data := Data.fields #[Value.int 65 0, Value.int 4 0, Value.ref 210, Value.int 68 0, Value.int 4 0, Value.ref 217, Value.int 80 0, Value.int 4 0, Value.ref 224, Value.int 83 0, Value.int 4 0, Value.ref 231, Value.int 86 0, Value.int 4 0, Value.ref 238, Value.int 89 0, Value.int 4 0, Value.ref 245] }) ::
  (nat_lit 203, { cls := Value.type "code", data := Data.fields #[Value.str (Str.ofString "InternalOrder") 427, Value.str (Str.ofString "InternalOrder") 428, Value.str (Str.ofString "/claim/cut.py") 429, Value.int 63 0, Value.int 0 0, Value.int 0 0, Value.int 0 0, Value.int 0 0, Value.ref 201, Value.bool false, Value.int 181 0, Value.ref 202, Value.none, Value.none, Value.none, Value.none, Value.int 430 0, Value.int 63 0, Value.str (Str.ofString "/claim/cut.py") 431] }) ::
  (nat_lit 204, { cls := Value.type "frame", slots := #[some (Value.ref 203), some (Value.ref 3), some (Value.ref 200), none, some (Value.str (Str.ofString "raftkeep.keys") 314), none, some (Value.ref 0)] }) ::
  (nat_lit 206, { cls := Value.none, data := Data.fields #[] }) ::
  (nat_lit 209, { cls := Value.none, data := Data.func { name := Str.ofString "__init__", qualname := Str.ofString "InternalOrder.__init__", params := Sk.fp 12, body := FuncBody.stmts (Sk.fb 12), scope := Sk.fs 12, globals := 0, closure := [], defaults := Value.none, kwdefaults := Value.none } }) ::
  (nat_lit 213, { cls := Value.none, data := Data.fields #[] }) ::
  (nat_lit 216, { cls := Value.none, data := Data.func { name := Str.ofString "compare", qualname := Str.ofString "InternalOrder.compare", params := Sk.fp 13, body := FuncBody.stmts (Sk.fb 13), scope := Sk.fs 13, globals := 0, closure := [], defaults := Value.none, kwdefaults := Value.none } }) ::
  (nat_lit 220, { cls := Value.none, data := Data.fields #[] }) ::
  (nat_lit 223, { cls := Value.none, data := Data.func { name := Str.ofString "dress", qualname := Str.ofString "InternalOrder.dress", params := Sk.fp 14, body := FuncBody.stmts (Sk.fb 14), scope := Sk.fs 14, globals := 0, closure := [], defaults := Value.none, kwdefaults := Value.none } }) ::
  (nat_lit 227, { cls := Value.none, data := Data.fields #[] }) ::
  (nat_lit 230, { cls := Value.none, data := Data.func { name := Str.ofString "separator", qualname := Str.ofString "InternalOrder.separator", params := Sk.fp 15, body := FuncBody.stmts (Sk.fb 15), scope := Sk.fs 6, globals := 0, closure := [], defaults := Value.none, kwdefaults := Value.none } }) ::
  (nat_lit 234, { cls := Value.none, data := Data.fields #[] }) ::
  (nat_lit 237, { cls := Value.none, data := Data.func { name := Str.ofString "successor", qualname := Str.ofString "InternalOrder.successor", params := Sk.fp 16, body := FuncBody.stmts (Sk.fb 16), scope := Sk.fs 7, globals := 0, closure := [], defaults := Value.none, kwdefaults := Value.none } }) ::
  (nat_lit 241, { cls := Value.none, data := Data.fields #[] }) ::
  (nat_lit 244, { cls := Value.none, data := Data.func { name := Str.ofString "name", qualname := Str.ofString "InternalOrder.name", params := Sk.fp 17, body := FuncBody.stmts (Sk.fb 17), scope := Sk.fs 8, globals := 0, closure := [], defaults := Value.none, kwdefaults := Value.none } }) ::
  (nat_lit 250, { cls := Value.type "super", data := Data.fields #[Value.ref 249, Value.ref 249, Value.ref 249] }) ::
  (nat_lit 251, { cls := Value.type "builtin_function_or_method", data := Data.fields #[Value.builtin "object.__init_subclass__", Value.ref 249] }) ::
  (nat_lit 253, { cls := Value.none, data := Data.fields #[] }) ::
  (nat_lit 256, { cls := Value.none, data := Data.func { name := Str.ofString "check_heights", qualname := Str.ofString "check_heights", params := Sk.fp 18, body := FuncBody.stmts (Sk.fb 18), scope := Sk.fs 18, globals := 0, closure := [], defaults := Value.none, kwdefaults := Value.none } }) ::
  (nat_lit 259, { cls := Value.type "tuple", data := Data.seq #[] }) ::
  (nat_lit 260, { cls := Value.type "builtin_function_or_method", data := Data.fields #[Value.builtin "type.__prepare__", Value.type "type"] }) ::
  (nat_lit 261, { cls := Value.type "dict", data := Data.dict #[{ hash := PyData.keyHash P (Str.ofString "__module__"), key := Value.str (Str.ofString "__module__") 511, val := Value.str (Str.ofString "raftkeep.keys") 314 }, { hash := PyData.keyHash P (Str.ofString "__qualname__"), key := Value.str (Str.ofString "__qualname__") 513, val := Value.str (Str.ofString "Tower") 512 }, { hash := PyData.keyHash P (Str.ofString "__firstlineno__"), key := Value.str (Str.ofString "__firstlineno__") 515, val := Value.int 97 514 }, { hash := PyData.keyHash P (Str.ofString "__init__"), key := Value.str (Str.ofString "__init__") 525, val := Value.ref 272 }, { hash := PyData.keyHash P (Str.ofString "__static_attributes__"), key := Value.str (Str.ofString "__static_attributes__") 529, val := Value.ref 273 }] 5 }) ::
  (nat_lit 262, { cls := Value.type "tuple", data := Data.seq #[] }) ::
  (nat_lit 263, { cls := Value.none, data := Data.fields #[Value.int 99 0, Value.int 4 0, Value.ref 271] }) ::
  (nat_lit 264, { cls := Value.type "code", data := Data.fields #[Value.str (Str.ofString "Tower") 506, Value.str (Str.ofString "Tower") 507, Value.str (Str.ofString "/claim/cut.py") 508, Value.int 97 0, Value.int 0 0, Value.int 0 0, Value.int 0 0, Value.int 0 0, Value.ref 262, Value.bool false, Value.int 181 0, Value.ref 263, Value.none, Value.none, Value.none, Value.none, Value.int 509 0, Value.int 97 0, Value.str (Str.ofString "/claim/cut.py") 510] }) ::
  (nat_lit 265, { cls := Value.type "frame", slots := #[some (Value.ref 264), some (Value.ref 3), some (Value.ref 261), none, some (Value.str (Str.ofString "raftkeep.keys") 314), none, some (Value.ref 0)] }) ::
  (nat_lit 267, { cls := Value.none, data := Data.fields #[] }) ::
  (nat_lit 270, { cls := Value.none, data := Data.func { name := Str.ofString "__init__", qualname := Str.ofString "Tower.__init__", params := Sk.fp 19, body := FuncBody.stmts (Sk.fb 19), scope := Sk.fs 19, globals := 0, closure := [], defaults := Value.none, kwdefaults := Value.none } }) ::
  (nat_lit 278, { cls := Value.type "super", data := Data.fields #[Value.ref 275, Value.ref 275, Value.ref 275] }) ::
  (nat_lit 279, { cls := Value.type "builtin_function_or_method", data := Data.fields #[Value.builtin "object.__init_subclass__", Value.ref 275] }) ::
  (nat_lit 280, { cls := Value.type "tuple", data := Data.seq #[] }) ::
  (nat_lit 281, { cls := Value.type "builtin_function_or_method", data := Data.fields #[Value.builtin "type.__prepare__", Value.type "type"] }) ::
  (nat_lit 282, { cls := Value.type "dict", data := Data.dict #[{ hash := PyData.keyHash P (Str.ofString "__module__"), key := Value.str (Str.ofString "__module__") 544, val := Value.str (Str.ofString "raftkeep.keys") 314 }, { hash := PyData.keyHash P (Str.ofString "__qualname__"), key := Value.str (Str.ofString "__qualname__") 546, val := Value.str (Str.ofString "SkipList") 545 }, { hash := PyData.keyHash P (Str.ofString "__firstlineno__"), key := Value.str (Str.ofString "__firstlineno__") 548, val := Value.int 103 547 }, { hash := PyData.keyHash P (Str.ofString "__init__"), key := Value.str (Str.ofString "__init__") 558, val := Value.ref 293 }, { hash := PyData.keyHash P (Str.ofString "size"), key := Value.str (Str.ofString "size") 565, val := Value.ref 300 }, { hash := PyData.keyHash P (Str.ofString "towers_before"), key := Value.str (Str.ofString "towers_before") 577, val := Value.ref 307 }, { hash := PyData.keyHash P (Str.ofString "insert"), key := Value.str (Str.ofString "insert") 591, val := Value.ref 314 }, { hash := PyData.keyHash P (Str.ofString "first_tower"), key := Value.str (Str.ofString "first_tower") 598, val := Value.ref 321 }, { hash := PyData.keyHash P (Str.ofString "seek_tower"), key := Value.str (Str.ofString "seek_tower") 606, val := Value.ref 328 }, { hash := PyData.keyHash P (Str.ofString "before_tower"), key := Value.str (Str.ofString "before_tower") 618, val := Value.ref 335 }, { hash := PyData.keyHash P (Str.ofString "last_tower"), key := Value.str (Str.ofString "last_tower") 629, val := Value.ref 342 }, { hash := PyData.keyHash P (Str.ofString "__static_attributes__"), key := Value.str (Str.ofString "__static_attributes__") 635, val := Value.ref 343 }] 12 }) ::
  (nat_lit 283, { cls := Value.type "tuple", data := Data.seq #[] }) ::
  (nat_lit 284, { cls := Value.none, data := Data.fields #[Value.int 105 0, Value.int 4 0, Value.ref 292, Value.int 115 0, Value.int 4 0, Value.ref 299, Value.int 118 0, Value.int 4 0, Value.ref 306, Value.int 131 0, Value.int 4 0, Value.ref 313, Value.int 145 0, Value.int 4 0, Value.ref 320, Value.int 148 0, Value.int 4 0, Value.ref 327, Value.int 151 0, Value.int 4 0, Value.ref 334, Value.int 164 0, Value.int 4 0, Value.ref 341] }) ::
  (nat_lit 285, { cls := Value.type "code", data := Data.fields #[Value.str (Str.ofString "SkipList") 539, Value.str (Str.ofString "SkipList") 540, Value.str (Str.ofString "/claim/cut.py") 541, Value.int 103 0, Value.int 0 0, Value.int 0 0, Value.int 0 0, Value.int 0 0, Value.ref 283, Value.bool false, Value.int 181 0, Value.ref 284, Value.none, Value.none, Value.none, Value.none, Value.int 542 0, Value.int 103 0, Value.str (Str.ofString "/claim/cut.py") 543] }) ::
  (nat_lit 286, { cls := Value.type "frame", slots := #[some (Value.ref 285), some (Value.ref 3), some (Value.ref 282), none, some (Value.str (Str.ofString "raftkeep.keys") 314), none, some (Value.ref 0)] }) ::
  (nat_lit 288, { cls := Value.none, data := Data.fields #[] }) ::
  (nat_lit 291, { cls := Value.none, data := Data.func { name := Str.ofString "__init__", qualname := Str.ofString "SkipList.__init__", params := Sk.fp 20, body := FuncBody.stmts (Sk.fb 20), scope := Sk.fs 20, globals := 0, closure := [], defaults := Value.none, kwdefaults := Value.none } }) ::
  (nat_lit 295, { cls := Value.none, data := Data.fields #[] }) ::
  (nat_lit 298, { cls := Value.none, data := Data.func { name := Str.ofString "size", qualname := Str.ofString "SkipList.size", params := Sk.fp 21, body := FuncBody.stmts (Sk.fb 21), scope := Sk.fs 8, globals := 0, closure := [], defaults := Value.none, kwdefaults := Value.none } }) ::
  (nat_lit 302, { cls := Value.none, data := Data.fields #[] }) ::
  (nat_lit 305, { cls := Value.none, data := Data.func { name := Str.ofString "towers_before", qualname := Str.ofString "SkipList.towers_before", params := Sk.fp 22, body := FuncBody.stmts (Sk.fb 22), scope := Sk.fs 22, globals := 0, closure := [], defaults := Value.none, kwdefaults := Value.none } }) ::
  (nat_lit 309, { cls := Value.none, data := Data.fields #[] }) ::
  (nat_lit 312, { cls := Value.none, data := Data.func { name := Str.ofString "insert", qualname := Str.ofString "SkipList.insert", params := Sk.fp 23, body := FuncBody.stmts (Sk.fb 23), scope := Sk.fs 23, globals := 0, closure := [], defaults := Value.none, kwdefaults := Value.none } }) ::
  (nat_lit 316, { cls := Value.none, data := Data.fields #[] }) ::
  (nat_lit 319, { cls := Value.none, data := Data.func { name := Str.ofString "first_tower", qualname := Str.ofString "SkipList.first_tower", params := Sk.fp 24, body := FuncBody.stmts (Sk.fb 24), scope := Sk.fs 8, globals := 0, closure := [], defaults := Value.none, kwdefaults := Value.none } }) ::
  (nat_lit 323, { cls := Value.none, data := Data.fields #[] }) ::
  (nat_lit 326, { cls := Value.none, data := Data.func { name := Str.ofString "seek_tower", qualname := Str.ofString "SkipList.seek_tower", params := Sk.fp 25, body := FuncBody.stmts (Sk.fb 25), scope := Sk.fs 25, globals := 0, closure := [], defaults := Value.none, kwdefaults := Value.none } }) ::
  (nat_lit 330, { cls := Value.none, data := Data.fields #[] }) ::
  (nat_lit 333, { cls := Value.none, data := Data.func { name := Str.ofString "before_tower", qualname := Str.ofString "SkipList.before_tower", params := Sk.fp 26, body := FuncBody.stmts (Sk.fb 26), scope := Sk.fs 26, globals := 0, closure := [], defaults := Value.none, kwdefaults := Value.none } }) ::
  (nat_lit 337, { cls := Value.none, data := Data.fields #[] }) ::
  (nat_lit 340, { cls := Value.none, data := Data.func { name := Str.ofString "last_tower", qualname := Str.ofString "SkipList.last_tower", params := Sk.fp 27, body := FuncBody.stmts (Sk.fb 27), scope := Sk.fs 27, globals := 0, closure := [], defaults := Value.none, kwdefaults := Value.none } }) ::
  (nat_lit 348, { cls := Value.type "super", data := Data.fields #[Value.ref 345, Value.ref 345, Value.ref 345] }) ::
  (nat_lit 349, { cls := Value.type "builtin_function_or_method", data := Data.fields #[Value.builtin "object.__init_subclass__", Value.ref 345] }) ::
  (nat_lit 351, { cls := Value.none, data := Data.fields #[] }) ::
  (nat_lit 354, { cls := Value.none, data := Data.func { name := Str.ofString "_law_users", qualname := Str.ofString "_law_users", params := Sk.fp 28, body := FuncBody.stmts (Sk.fb 28), scope := Sk.fs 28, globals := 0, closure := [], defaults := Value.none, kwdefaults := Value.none } }) ::
  (nat_lit 358, { cls := Value.none, data := Data.fields #[] }) ::
  (nat_lit 361, { cls := Value.none, data := Data.func { name := Str.ofString "_law_draw", qualname := Str.ofString "_law_draw", params := Sk.fp 29, body := FuncBody.stmts (Sk.fb 29), scope := Sk.fs 29, globals := 0, closure := [], defaults := Value.none, kwdefaults := Value.none } }) ::
  (nat_lit 365, { cls := Value.none, data := Data.fields #[] }) ::
  (nat_lit 368, { cls := Value.none, data := Data.func { name := Str.ofString "_law_key", qualname := Str.ofString "_law_key", params := Sk.fp 30, body := FuncBody.stmts (Sk.fb 30), scope := Sk.fs 30, globals := 0, closure := [], defaults := Value.none, kwdefaults := Value.none } }) ::
  (nat_lit 372, { cls := Value.none, data := Data.fields #[] }) ::
  (nat_lit 375, { cls := Value.none, data := Data.func { name := Str.ofString "_law_rank", qualname := Str.ofString "_law_rank", params := Sk.fp 31, body := FuncBody.stmts (Sk.fb 31), scope := Sk.fs 31, globals := 0, closure := [], defaults := Value.none, kwdefaults := Value.none } }) ::
  (nat_lit 379, { cls := Value.none, data := Data.fields #[] }) ::
  (nat_lit 382, { cls := Value.none, data := Data.func { name := Str.ofString "_law_refused", qualname := Str.ofString "_law_refused", params := Sk.fp 32, body := FuncBody.stmts (Sk.fb 32), scope := Sk.fs 32, globals := 0, closure := [], defaults := Value.none, kwdefaults := Value.none } }) ::
  (nat_lit 386, { cls := Value.none, data := Data.fields #[] }) ::
  (nat_lit 389, { cls := Value.none, data := Data.func { name := Str.ofString "_law_floor", qualname := Str.ofString "_law_floor", params := Sk.fp 33, body := FuncBody.stmts (Sk.fb 33), scope := Sk.fs 33, globals := 0, closure := [], defaults := Value.none, kwdefaults := Value.none } }) ::
  (nat_lit 393, { cls := Value.none, data := Data.fields #[] }) ::
  (nat_lit 394, { cls := Value.none, data := Data.func { name := Str.ofString "_law_stands", qualname := Str.ofString "_law_stands", params := Sk.fp 34, body := FuncBody.stmts (Sk.fb 34), scope := Sk.fs 34, globals := 0, closure := [], defaults := Value.none, kwdefaults := Value.none } }) ::
  (nat_lit 398, { cls := Value.none, data := Data.fields #[] }) ::
  (nat_lit 401, { cls := Value.none, data := Data.func { name := Str.ofString "_law_told", qualname := Str.ofString "_law_told", params := Sk.fp 35, body := FuncBody.stmts (Sk.fb 35), scope := Sk.fs 35, globals := 0, closure := [], defaults := Value.none, kwdefaults := Value.none } }) ::
  (nat_lit 405, { cls := Value.none, data := Data.fields #[] }) ::
  (nat_lit 406, { cls := Value.none, data := Data.func { name := Str.ofString "_law_finds", qualname := Str.ofString "_law_finds", params := Sk.fp 36, body := FuncBody.stmts (Sk.fb 36), scope := Sk.fs 36, globals := 0, closure := [], defaults := Value.none, kwdefaults := Value.none } }) ::
  (nat_lit 410, { cls := Value.none, data := Data.fields #[] }) ::
  (nat_lit 411, { cls := Value.none, data := Data.func { name := Str.ofString "law", qualname := Str.ofString "law", params := Sk.fp 37, body := FuncBody.stmts (Sk.fb 37), scope := Sk.fs 37, globals := 0, closure := [], defaults := Value.none, kwdefaults := Value.none } }) ::
  []
noncomputable def Xa : Params → Frag := fun P => [(nat_lit 2, boot_o_2 P), (nat_lit 3, boot_o_3 P), (nat_lit 12, { cls := Value.none, data := Data.fields #[] })]
noncomputable def X1 : Params → Frag := fun P => [(nat_lit 3, { cls := Value.type "dict", data := Data.dict #[{ hash := PyData.keyHash P (Str.ofString "__name__"), key := Value.str (Str.ofString "__name__") 165, val := Value.str (Str.ofString "raftkeep.errors") 194 }, { hash := PyData.keyHash P (Str.ofString "__doc__"), key := Value.str (Str.ofString "__doc__") 166, val := Value.none }, { hash := PyData.keyHash P (Str.ofString "__package__"), key := Value.str (Str.ofString "__package__") 167, val := Value.none }, { hash := PyData.keyHash P (Str.ofString "__loader__"), key := Value.str (Str.ofString "__loader__") 168, val := Value.builtin "__main__.__loader__#opaque" }, { hash := PyData.keyHash P (Str.ofString "__spec__"), key := Value.str (Str.ofString "__spec__") 169, val := Value.none }, { hash := PyData.keyHash P (Str.ofString "__annotations__"), key := Value.str (Str.ofString "__annotations__") 170, val := Value.ref 6 }, { hash := PyData.keyHash P (Str.ofString "__builtins__"), key := Value.str (Str.ofString "__builtins__") 171, val := Value.ref 4 }, { hash := PyData.keyHash P (Str.ofString "__file__"), key := Value.str (Str.ofString "__file__") 173, val := Value.str (Str.ofString "/claim/cut.py") 172 }, { hash := PyData.keyHash P (Str.ofString "__cached__"), key := Value.str (Str.ofString "__cached__") 174, val := Value.none }, { hash := PyData.keyHash P (Str.ofString "_wall"), key := Value.str (Str.ofString "_wall") 193, val := Value.ref 21 }, { hash := PyData.keyHash P (Str.ofString "KeepError"), key := Value.str (Str.ofString "KeepError") 215, val := Value.ref 31 }, { hash := PyData.keyHash P (Str.ofString "StoreError"), key := Value.str (Str.ofString "StoreError") 231, val := Value.ref 44 }, { hash := PyData.keyHash P (Str.ofString "Corrupt"), key := Value.str (Str.ofString "Corrupt") 247, val := Value.ref 56 }, { hash := PyData.keyHash P (Str.ofString "ShortOctets"), key := Value.str (Str.ofString "ShortOctets") 263, val := Value.ref 68 }, { hash := PyData.keyHash P (Str.ofString "BadOption"), key := Value.str (Str.ofString "BadOption") 279, val := Value.ref 80 }, { hash := PyData.keyHash P (Str.ofString "BuildOrder"), key := Value.str (Str.ofString "BuildOrder") 295, val := Value.ref 92 }] 16 }), (nat_lit 12, { cls := Value.none, data := Data.fields #[Value.int 1 0, Value.int 0 0, Value.ref 20, Value.int 5 0, Value.int 0 0, Value.ref 27, Value.int 7 0, Value.int 0 0, Value.ref 40, Value.int 9 0, Value.int 0 0, Value.ref 52, Value.int 11 0, Value.int 0 0, Value.ref 64, Value.int 13 0, Value.int 0 0, Value.ref 76, Value.int 15 0, Value.int 0 0, Value.ref 88] })]
noncomputable def X2 : Params → Frag := fun P => [(nat_lit 3, { cls := Value.type "dict", data := Data.dict #[{ hash := PyData.keyHash P (Str.ofString "__name__"), key := Value.str (Str.ofString "__name__") 165, val := Value.str (Str.ofString "raftkeep.keys") 314 }, { hash := PyData.keyHash P (Str.ofString "__doc__"), key := Value.str (Str.ofString "__doc__") 166, val := Value.none }, { hash := PyData.keyHash P (Str.ofString "__package__"), key := Value.str (Str.ofString "__package__") 167, val := Value.none }, { hash := PyData.keyHash P (Str.ofString "__loader__"), key := Value.str (Str.ofString "__loader__") 168, val := Value.builtin "__main__.__loader__#opaque" }, { hash := PyData.keyHash P (Str.ofString "__spec__"), key := Value.str (Str.ofString "__spec__") 169, val := Value.none }, { hash := PyData.keyHash P (Str.ofString "__annotations__"), key := Value.str (Str.ofString "__annotations__") 170, val := Value.ref 6 }, { hash := PyData.keyHash P (Str.ofString "__builtins__"), key := Value.str (Str.ofString "__builtins__") 171, val := Value.ref 4 }, { hash := PyData.keyHash P (Str.ofString "__file__"), key := Value.str (Str.ofString "__file__") 173, val := Value.str (Str.ofString "/claim/cut.py") 172 }, { hash := PyData.keyHash P (Str.ofString "__cached__"), key := Value.str (Str.ofString "__cached__") 174, val := Value.none }, { hash := PyData.keyHash P (Str.ofString "_wall"), key := Value.str (Str.ofString "_wall") 193, val := Value.ref 21 }, { hash := PyData.keyHash P (Str.ofString "KeepError"), key := Value.str (Str.ofString "KeepError") 215, val := Value.ref 31 }, { hash := PyData.keyHash P (Str.ofString "StoreError"), key := Value.str (Str.ofString "StoreError") 231, val := Value.ref 44 }, { hash := PyData.keyHash P (Str.ofString "Corrupt"), key := Value.str (Str.ofString "Corrupt") 247, val := Value.ref 56 }, { hash := PyData.keyHash P (Str.ofString "ShortOctets"), key := Value.str (Str.ofString "ShortOctets") 263, val := Value.ref 68 }, { hash := PyData.keyHash P (Str.ofString "BadOption"), key := Value.str (Str.ofString "BadOption") 279, val := Value.ref 80 }, { hash := PyData.keyHash P (Str.ofString "BuildOrder"), key := Value.str (Str.ofString "BuildOrder") 295, val := Value.ref 92 }, { hash := PyData.keyHash P (Str.ofString "read_fixed32"), key := Value.str (Str.ofString "read_fixed32") 305, val := Value.ref 101 }, { hash := PyData.keyHash P (Str.ofString "read_fixed64"), key := Value.str (Str.ofString "read_fixed64") 313, val := Value.ref 108 }, { hash := PyData.keyHash P (Str.ofString "TAG_LENGTH"), key := Value.str (Str.ofString "TAG_LENGTH") 317, val := Value.int 8 316 }, { hash := PyData.keyHash P (Str.ofString "user_of"), key := Value.str (Str.ofString "user_of") 324, val := Value.ref 115 }, { hash := PyData.keyHash P (Str.ofString "tag_of"), key := Value.str (Str.ofString "tag_of") 331, val := Value.ref 122 }, { hash := PyData.keyHash P (Str.ofString "Order"), key := Value.str (Str.ofString "Order") 384, val := Value.ref 160 }, { hash := PyData.keyHash P (Str.ofString "BytesOrder"), key := Value.str (Str.ofString "BytesOrder") 424, val := Value.ref 195 }] 23 }), (nat_lit 12, { cls := Value.none, data := Data.fields #[Value.int 1 0, Value.int 0 0, Value.ref 20, Value.int 5 0, Value.int 0 0, Value.ref 27, Value.int 7 0, Value.int 0 0, Value.ref 40, Value.int 9 0, Value.int 0 0, Value.ref 52, Value.int 11 0, Value.int 0 0, Value.ref 64, Value.int 13 0, Value.int 0 0, Value.ref 76, Value.int 15 0, Value.int 0 0, Value.ref 88, Value.int 18 0, Value.int 0 0, Value.ref 100, Value.int 22 0, Value.int 0 0, Value.ref 107, Value.int 28 0, Value.int 0 0, Value.ref 114, Value.int 32 0, Value.int 0 0, Value.ref 121, Value.int 36 0, Value.int 0 0, Value.ref 128, Value.int 53 0, Value.int 0 0, Value.ref 170] }), (nat_lit 160, { cls := Value.type "type", data := Data.cls { name := Str.ofString "Order", bases := [Value.type "object"], mro := [Value.ref 160, Value.type "object"], ns := 159, qualname := Str.ofString "Order", subclasses := [Value.ref 195] }, slots := #[none, none, some (Value.str (Str.ofString "Order") 332), some (Value.str (Str.ofString "Order") 340), some (Value.builtin "object.__new__"), some (Value.bool true)] })]
noncomputable def X3 : Params → Frag := fun P => [(nat_lit 3, { cls := Value.type "dict", data := Data.dict #[{ hash := PyData.keyHash P (Str.ofString "__name__"), key := Value.str (Str.ofString "__name__") 165, val := Value.str (Str.ofString "raftkeep.keys") 314 }, { hash := PyData.keyHash P (Str.ofString "__doc__"), key := Value.str (Str.ofString "__doc__") 166, val := Value.none }, { hash := PyData.keyHash P (Str.ofString "__package__"), key := Value.str (Str.ofString "__package__") 167, val := Value.none }, { hash := PyData.keyHash P (Str.ofString "__loader__"), key := Value.str (Str.ofString "__loader__") 168, val := Value.builtin "__main__.__loader__#opaque" }, { hash := PyData.keyHash P (Str.ofString "__spec__"), key := Value.str (Str.ofString "__spec__") 169, val := Value.none }, { hash := PyData.keyHash P (Str.ofString "__annotations__"), key := Value.str (Str.ofString "__annotations__") 170, val := Value.ref 6 }, { hash := PyData.keyHash P (Str.ofString "__builtins__"), key := Value.str (Str.ofString "__builtins__") 171, val := Value.ref 4 }, { hash := PyData.keyHash P (Str.ofString "__file__"), key := Value.str (Str.ofString "__file__") 173, val := Value.str (Str.ofString "/claim/cut.py") 172 }, { hash := PyData.keyHash P (Str.ofString "__cached__"), key := Value.str (Str.ofString "__cached__") 174, val := Value.none }, { hash := PyData.keyHash P (Str.ofString "_wall"), key := Value.str (Str.ofString "_wall") 193, val := Value.ref 21 }, { hash := PyData.keyHash P (Str.ofString "KeepError"), key := Value.str (Str.ofString "KeepError") 215, val := Value.ref 31 }, { hash := PyData.keyHash P (Str.ofString "StoreError"), key := Value.str (Str.ofString "StoreError") 231, val := Value.ref 44 }, { hash := PyData.keyHash P (Str.ofString "Corrupt"), key := Value.str (Str.ofString "Corrupt") 247, val := Value.ref 56 }, { hash := PyData.keyHash P (Str.ofString "ShortOctets"), key := Value.str (Str.ofString "ShortOctets") 263, val := Value.ref 68 }, { hash := PyData.keyHash P (Str.ofString "BadOption"), key := Value.str (Str.ofString "BadOption") 279, val := Value.ref 80 }, { hash := PyData.keyHash P (Str.ofString "BuildOrder"), key := Value.str (Str.ofString "BuildOrder") 295, val := Value.ref 92 }, { hash := PyData.keyHash P (Str.ofString "read_fixed32"), key := Value.str (Str.ofString "read_fixed32") 305, val := Value.ref 101 }, { hash := PyData.keyHash P (Str.ofString "read_fixed64"), key := Value.str (Str.ofString "read_fixed64") 313, val := Value.ref 108 }, { hash := PyData.keyHash P (Str.ofString "TAG_LENGTH"), key := Value.str (Str.ofString "TAG_LENGTH") 317, val := Value.int 8 316 }, { hash := PyData.keyHash P (Str.ofString "user_of"), key := Value.str (Str.ofString "user_of") 324, val := Value.ref 115 }, { hash := PyData.keyHash P (Str.ofString "tag_of"), key := Value.str (Str.ofString "tag_of") 331, val := Value.ref 122 }, { hash := PyData.keyHash P (Str.ofString "Order"), key := Value.str (Str.ofString "Order") 384, val := Value.ref 160 }, { hash := PyData.keyHash P (Str.ofString "BytesOrder"), key := Value.str (Str.ofString "BytesOrder") 424, val := Value.ref 195 }, { hash := PyData.keyHash P (Str.ofString "InternalOrder"), key := Value.str (Str.ofString "InternalOrder") 494, val := Value.ref 249 }, { hash := PyData.keyHash P (Str.ofString "check_heights"), key := Value.str (Str.ofString "check_heights") 503, val := Value.ref 258 }, { hash := PyData.keyHash P (Str.ofString "Tower"), key := Value.str (Str.ofString "Tower") 536, val := Value.ref 275 }, { hash := PyData.keyHash P (Str.ofString "SkipList"), key := Value.str (Str.ofString "SkipList") 642, val := Value.ref 345 }] 27 }), (nat_lit 12, { cls := Value.none, data := Data.fields #[Value.int 1 0, Value.int 0 0, Value.ref 20, Value.int 5 0, Value.int 0 0, Value.ref 27, Value.int 7 0, Value.int 0 0, Value.ref 40, Value.int 9 0, Value.int 0 0, Value.ref 52, Value.int 11 0, Value.int 0 0, Value.ref 64, Value.int 13 0, Value.int 0 0, Value.ref 76, Value.int 15 0, Value.int 0 0, Value.ref 88, Value.int 18 0, Value.int 0 0, Value.ref 100, Value.int 22 0, Value.int 0 0, Value.ref 107, Value.int 28 0, Value.int 0 0, Value.ref 114, Value.int 32 0, Value.int 0 0, Value.ref 121, Value.int 36 0, Value.int 0 0, Value.ref 128, Value.int 53 0, Value.int 0 0, Value.ref 170, Value.int 63 0, Value.int 0 0, Value.ref 203, Value.int 91 0, Value.int 0 0, Value.ref 257, Value.int 97 0, Value.int 0 0, Value.ref 264, Value.int 103 0, Value.int 0 0, Value.ref 285] })]

/-! the top run in pieces: every object of the last state stands once (K and X); the states between differ from it in two or three objects -/
noncomputable def mrg : Nat → List (Nat × Obj) → List (Nat × Obj) → List Obj
  | 0, _, _ => []
  | _ + 1, [], [] => []
  | n + 1, (_, o) :: k, [] => o :: mrg n k []
  | n + 1, [], (_, q) :: x => q :: mrg n [] x
  | n + 1, (a, o) :: k, (b, q) :: x => match Nat.blt a b with
    | true => o :: mrg n k ((b, q) :: x)
    | false => q :: mrg n ((a, o) :: k) x
noncomputable def ob (P : Params) : List Obj := mrg (nat_lit 500) (K P) (X P)
noncomputable def bt (l : List Obj) : BT := (l.foldl (fun (x : BT × Nat) o => (x.1.ins x.2 o, x.2 + 1)) (.nil, 0)).1
noncomputable def tr (n : Nat) (d : Frag) (P : Params) : BT := bt (d.foldl (fun l p => l.set p.1 p.2) ((ob P).take n))
noncomputable def sT (n : Nat) (d : Params → Frag) (k : Nat) (w : World) (os : OsState) : SharedT := ⟨tr n (d w.params) w.params, n, {}, #[], boot_drawn, k, os⟩
noncomputable def X0 : Params → Frag := fun _ => []
noncomputable def sb : List Stmt := behindTheImports PySem.Challenge.pw_no0405_01
noncomputable def enT : Env := { scope := PySem.Challenge.pw_no0405_01.main.scope, locals := mainNs, globals := mainNs, cells := [], code := .ref (nat_lit 13), frame := some (nat_lit 14) }
noncomputable def cT : Code := .body sb enT
def p0 : Pos := ⟨0, 0, 0, 0⟩
def annT : Option Value := some (.ref (nat_lit 6))
theorem g0 (w : World) (os : OsState) : topGo treeTable PySem.Challenge.pw_no0405_01 w (nat_lit 11) annT (nat_lit 12) ⟨boot_heap w.params, #[], boot_drawn, boot_toks, os⟩ (topStub PySem.Challenge.pw_no0405_01) = some ((sT (nat_lit 15) Xa (nat_lit 187) w os).abs, ⟨denote treeTable cT, cT, p0, [topFrame p0]⟩) := by
  rw [PySem.W.Fast.te15667345088766844465, PySem.W.Fast.te11892475500146522536, PySem.W.Fast.te14364793385576792824]
  kernel_rfl
theorem g1 (w : World) (os : OsState) : segRun treeTable PySem.Challenge.pw_no0405_01 w (nat_lit 11) annT 1 (nat_lit 1) (sT (nat_lit 15) Xa (nat_lit 187) w os).abs (blockOf sb enT cT p0 [topFrame p0]) = some (.next, (sT (nat_lit 15) Xa (nat_lit 187) w os).abs, cT, p0) := by
  kernel_rfl
theorem s1 (w : World) (os : OsState) : segRunT treeTable PySem.Challenge.pw_no0405_01 w (nat_lit 11) annT 1 (nat_lit 1400) (sT (nat_lit 15) Xa (nat_lit 187) w os) (piecesOf (sb.take (nat_lit 8)) enT cT p0 [topFrame p0]) = some (.next, sT (nat_lit 95) X1 (nat_lit 296) w os, cT, ⟨15, 0, 16, 8⟩) := by
  unfold piecesOf
  rw [PySem.W.Fast.te10110043849684766642, PySem.W.Fast.te14364793385576792824, PySem.W.Fast.te12563942051412417395]
  kernel_rfl
theorem s2 (w : World) (os : OsState) : segRunT treeTable PySem.Challenge.pw_no0405_01 w (nat_lit 11) annT 1 (nat_lit 800) (sT (nat_lit 95) X1 (nat_lit 296) w os) (piecesOf ((sb.drop (nat_lit 8)).take (nat_lit 9)) enT cT ⟨15, 0, 16, 8⟩ [topFrame p0]) = some (.next, sT (nat_lit 198) X2 (nat_lit 425) w os, cT, ⟨53, 0, 62, 32⟩) := by
  unfold piecesOf
  rw [PySem.W.Fast.te10110043849684766642, PySem.W.Fast.te14364793385576792824, PySem.W.Fast.te12563942051412417395]
  kernel_rfl
theorem s3 (w : World) (os : OsState) : segRunT treeTable PySem.Challenge.pw_no0405_01 w (nat_lit 11) annT 1 (nat_lit 1150) (sT (nat_lit 198) X2 (nat_lit 425) w os) (piecesOf (((sb.drop (nat_lit 8)).drop (nat_lit 9)).take (nat_lit 4)) enT cT ⟨53, 0, 62, 32⟩ [topFrame p0]) = some (.next, sT (nat_lit 350) X3 (nat_lit 643) w os, cT, ⟨103, 0, 175, 20⟩) := by
  unfold piecesOf
  rw [PySem.W.Fast.te10110043849684766642, PySem.W.Fast.te14364793385576792824, PySem.W.Fast.te12563942051412417395]
  kernel_rfl
theorem s4 (w : World) (os : OsState) : runT through (stepOk (nat_lit 11) annT) (stepT (denote treeTable) PySem.Challenge.pw_no0405_01 w) (nat_lit 400) (sT (nat_lit 350) X3 (nat_lit 643) w os) (restOf (((sb.drop (nat_lit 8)).drop (nat_lit 9)).drop (nat_lit 4)) enT cT ⟨103, 0, 175, 20⟩ [topFrame p0]) = some (sT (nat_lit 414) X0 (nat_lit 720) w os) := by
  unfold restOf
  rw [PySem.W.Fast.te6613529449190102663, PySem.W.Fast.te10156331382660048174, PySem.W.Fast.te11892475500146522536, PySem.W.Fast.te14364793385576792824, PySem.W.Fast.te12563942051412417395]
  kernel_rfl
theorem run_top (w : World) (os : OsState) : topRun treeTable PySem.Challenge.pw_no0405_01 w (nat_lit 11) annT (nat_lit 12 + (nat_lit 1 + (nat_lit 1400 + (nat_lit 800 + (nat_lit 1150 + nat_lit 400))))) ⟨boot_heap w.params, #[], boot_drawn, boot_toks, os⟩ (topStub PySem.Challenge.pw_no0405_01) = some (sT (nat_lit 414) X0 (nat_lit 720) w os).abs := by
  have e4 := runT_spec _ _ _ _ (s4 w os)
  have e3 := piece_app (segRun_of (s3 w os)) e4
  rw [List.take_append_drop] at e3
  have e2 := piece_app (segRun_of (s2 w os)) e3
  rw [List.take_append_drop] at e2
  have e1 := piece_app (segRun_of (s1 w os)) e2
  rw [List.take_append_drop] at e1
  exact go_top (g0 w os) (piece_block (g1 w os) e1)
noncomputable def H1 (P : Params) : Heap := absHeap (tr (nat_lit 414) (X0 P) P) (nat_lit 414) {}
theorem abs_fin (w : World) (os : OsState) : (sT (nat_lit 414) X0 (nat_lit 720) w os).abs = ⟨H1 w.params, #[], boot_drawn, nat_lit 720, os⟩ := by
  kernel_rfl
theorem lk1 (w : World) (os : OsState) : (staticsOk (importedModules PySem.Challenge.pw_no0405_01.main.body) (boot_heap w.params) (H1 w.params) && namesBound PySem.Challenge.pw_no0405_01 (H1 w.params) && gensDone ⟨H1 w.params, #[], boot_drawn, nat_lit 720, os⟩ && laidKept (boot_heap w.params) (H1 w.params)) = true := by
  kernel_rfl
theorem lk2 (w : World) (os : OsState) : openSeen vw [] (importedModules PySem.Challenge.pw_no0405_01.main.body) (fun s => xlAt vw [] s && recOk (RowW.records (OpenRow.toRowW PySem.Challenge.rw_no0405_01.row)) s) true ⟨H1 w.params, #[], boot_drawn, nat_lit 720, os⟩ = openGood vw [] := by
  rw [PySem.W.Fast.te4187177175401517315]
  kernel_rfl
theorem lk3 (w : World) (os : OsState) : (Hook.obs H) ⟨H1 w.params, #[], boot_drawn, nat_lit 720, os⟩ = (Hook.val H) w := by
  kernel_rfl
theorem boot_sz (w : World) : ((boot_heap w.params).isNs mainGlobals && (#[] : Array GenState).size == 0, (boot_heap w.params).objs.size, (boot_heap w.params).nsMap mainGlobals "__annotations__") = (true, nat_lit 11, annT) := by
  kernel_rfl
theorem hl : LeftO PySem.Challenge.pw_no0405_01 vw [] (fun s => xlAt vw [] s && recOk (RowW.records (OpenRow.toRowW PySem.Challenge.rw_no0405_01.row)) s) (Hook.obs H) (Hook.val H) 7270 :=
  LeftO.of_pieces (H₀ := boot_heap) (H₁ := H1) (gs₀ := #[]) (gs₁ := #[]) (d₀ := boot_drawn) (d₁ := boot_drawn) (k₀ := boot_toks) (k₁ := nat_lit 720) (m₀ := nat_lit 11) (ann := annT) (M := nat_lit 12 + (nat_lit 1 + (nat_lit 1400 + (nat_lit 800 + (nat_lit 1150 + nat_lit 400)))))
    (boot_open (by kernel_rfl) (by decide) (fun s => by kernel_rfl)) boot_sz (fun w os => (run_top w os).trans (congrArg some (abs_fin w os))) (by decide) (fun w => funext fun os => Prod.ext (lk1 w os) (Prod.ext (lk2 w os) (lk3 w os)))
noncomputable def lawRec : DefRec := { name := Str.ofString "law", params := fp 37, body := fb 37, scope := fs 37, pos := { line := 228, col := 0, endLine := 271, endCol := 102 } }
theorem hd_def : defOf vw PySem.Challenge.rw_no0405_01.row.name = some (lawRec, []) := by kernel_rfl
theorem hd_the : PySem.Challenge.rw_no0405_01.row.prog.theDef PySem.Challenge.rw_no0405_01.row.name = some (lawRec.params, lawRec.body, lawRec.scope) := by kernel_rfl
theorem hd_kw : kwWritten? lawRec.params.kwonlyargs lawRec.params.kw_defaults = some [] := by kernel_rfl
theorem hd_ok : (chainsOk vw && opensWell PySem.Challenge.rw_no0405_01.row.prog && (frees PySem.Challenge.rw_no0405_01.row.toRowW && PySem.Challenge.rw_no0405_01.row.within.isEmpty)) = true := by decide +kernel
theorem hd_bare : PySem.Challenge.rw_no0405_01.row.prog.bare := ⟨rfl, rfl, rfl, rfl, rfl, by decide +kernel⟩
theorem said : OpenLaw.wellSaid PySem.Challenge.rw_no0405_01 = true := by
  unfold OpenLaw.wellSaid OpenRow.wellSaid OpenRow.partSaid looksOpen
  repeat' (with_reducible refine Bool.and_eq_true_iff.mpr ⟨?_, ?_⟩)
  all_goals decide +kernel
theorem hd2 (walk : WalkO vw [] (XL vw []) (kHook K asK (fun _ => by kernel_rfl)).says PySem.Challenge.rw_no0405_01.row.toRowW lawRec [] fun f vs => PySem.call f vs) : PySem.Challenge.rw_no0405_01.Holds := by
  (with_reducible refine holds_law (l := PySem.Challenge.rw_no0405_01) said fun said => ?_)
  refine holds_open (q := vw) (loose := []) (Xt := fun s => xlAt vw [] s && recOk (RowW.records (OpenRow.toRowW PySem.Challenge.rw_no0405_01.row)) s) (XP := XL vw []) (Yf := Hook.obs H) (Ya := Hook.val H) (YP := Hook.says H) (N := 7270) (d := lawRec) (kwd := []) hl (Hook.of H) (Hook.keeps H) (fun s e => xl_of s (Bool.and_eq_true_iff.mp e).1) XL.keeps hd_def hd_the hd_kw (fun s e => recFacts_of (Bool.and_eq_true_iff.mp e).2) ?hwr (by assumption) hd_ok hd_bare ?hw walk
  case hwr => decide
  case hw => w_witness2
theorem fillIt_Join : Sk.K = Sk.K ∧ PySem.Challenge.rw_no0405_01 = PySem.Challenge.rw_no0405_01 := by
  k_fill
  exact ⟨rfl, rfl⟩
/-- what a contract asks of the place of the call -/
structure Cx (w : World) (dp un : Nat) (cs : Scope) (outer : List Env) (h₀ h : Heap) (L : Addr) (m : Str → Option Value) (news : List (Addr × Obj)) (k : Nat) : Prop where
  B : ∃ A₀ base, Below A₀ base outer h₀
  F : Fr h₀ L h m
  X : (Sk.K w.params).In h₀
  N : News h₀ L h news
  T : ∃ p loose mean mg mb, Top p loose mean mg mb h₀
  hk : cs.kind = .function
  hd : dp + k < recursionLimit
  hu : un + 8 * k + 100 < cLine
/-- the same ledger behind the call -/
abbrev Same (h₀ : Heap) (L : Addr) (m : Str → Option Value) (news : List (Addr × Obj)) (s : Shared) (Q : Value → Shared → Prop) (r : Tok → Value) : Prop :=
  ∀ (t : Tok) (h' : Heap) (tk' : Nat), Fr h₀ L h' m → News h₀ L h' news → Q (r t) { s with heap := h', toks := tk' }
theorem cx_d {a b R : Nat} (h : a + b < R) : a + b < R := h
section
variable {prog : Program} {w : World} {A : Around} {E : Value → Shared → Prop} {s : Shared} {Q : Value → Shared → Prop}
theorem shl_byte {x : UInt8} {n : Int} {t u : Tok} (hn : 0 ≤ n) (hn2 : n ≤ 1000000) (h : Q (.int ((x.toNat : Int) * 2 ^ n.toNat) s.toks) { s with toks := s.toks + 1 }) :
    wpAny (model prog w) A (binaryOp .LShift (.int (x.toNat : Int) t) (.int n u)) Q E s :=
  lshift_int_small hn hn2 (by have := x.toNat_lt; omega) h
end
/-- a halt of one's own in the walk -/
def Stp (P : Prop) : Prop := P
theorem Stp.mk {P : Prop} (h : Stp P) : P := h
/-- a halt at the next if -/
def Mk : Prop := True
/-- behind a statement that leaves the frame and the ledger as they were -/
def SameI (b : Heap) (L : Addr) (m : Str → Option Value) (led : List (Addr × Obj)) (s : Shared) (f : Flow) (s' : Shared) : Prop :=
  f = Flow.next ∧ ∃ h tk, s' = { s with heap := h, toks := tk } ∧ Fr b L h m ∧ News b L h led
theorem SameI.intro {b h : Heap} {L : Addr} {m : Str → Option Value} {led : List (Addr × Obj)} {s : Shared} {tk : Nat} (F : Fr b L h m) (N : News b L h led) : SameI b L m led s Flow.next { s with heap := h, toks := tk } := ⟨rfl, h, tk, rfl, F, N⟩
theorem join_same {M : Model} {A : Around} {t : Sem Flow} {Q : Flow → Shared → Prop} {E : Value → Shared → Prop} {s : Shared} {b h : Heap} {L : Addr} {m : Str → Option Value} {led : List (Addr × Obj)} (s₀ : Shared) (_F : Fr b L h m) (_N : News b L h led)
    (first : wpAny M A t (SameI b L m led s₀) E s) (second : ∀ h' tk', Fr b L h' m → News b L h' led → Q Flow.next { s₀ with heap := h', toks := tk' }) : wpAny M A t Q E s := by
  refine wpAny_mono first (fun f s2 q => ?_) (fun _ _ x => x)
  obtain ⟨rfl, h2, tk2, rfl, F2, N2⟩ := q
  exact second h2 tk2 F2 N2
/-- behind a test that leaves the frame and the ledger as they were -/
def TestI (b : Heap) (L : Addr) (m : Str → Option Value) (led : List (Addr × Obj)) (s : Shared) (v : Bool) (x : Bool) (s' : Shared) : Prop :=
  x = v ∧ ∃ h tk, s' = { s with heap := h, toks := tk } ∧ Fr b L h m ∧ News b L h led
theorem TestI.intro {b h : Heap} {L : Addr} {m : Str → Option Value} {led : List (Addr × Obj)} {s : Shared} {v x : Bool} {tk : Nat} (e : x = v) (F : Fr b L h m) (N : News b L h led) : TestI b L m led s v x { s with heap := h, toks := tk } := ⟨e, h, tk, rfl, F, N⟩
theorem join_test {M : Model} {A : Around} {t : Sem Bool} {Q : Bool → Shared → Prop} {E : Value → Shared → Prop} {s : Shared} {b h : Heap} {L : Addr} {m : Str → Option Value} {led : List (Addr × Obj)} (v : Bool) (s₀ : Shared) (_F : Fr b L h m) (_N : News b L h led)
    (first : wpAny M A t (TestI b L m led s₀ v) E s) (second : ∀ h' tk', Fr b L h' m → News b L h' led → Q v { s₀ with heap := h', toks := tk' }) : wpAny M A t Q E s := by
  refine wpAny_mono first (fun f s2 q => ?_) (fun _ _ x => x)
  obtain ⟨rfl, h2, tk2, rfl, F2, N2⟩ := q
  exact second h2 tk2 F2 N2
local macro_rules | `(tactic| walk_at "sk ret") => `(tactic| (intro t' h' tk' F' N'; (try dsimp only); (try k_sweep)))
local macro_rules | `(tactic| walk_at "sk ret4") => `(tactic| (intro h' tk' F' N'; (try dsimp only); (try k_sweep)))
local macro_rules | `(tactic| walk_at "cx room") => `(tactic| first
  | decide
  | ((try simp only [depth_under_make, depth_under_kw, depth_in1, depth_deeper, depth_caller]); (try dsimp only [ktrTop]); omega)
  | ((try simp only [depth_under_make, depth_under_kw, depth_in1, depth_deeper, depth_caller] at *); (try dsimp only [ktrTop] at *); (try simp only [recursionLimit] at *); omega)
  | fail "cx room")
local macro_rules | `(tactic| walk_at "cx units") => `(tactic| (have hcL9 := cLine_is; first
  | ((try simp only [units_in1, units_deeper, Around.mark_units, units_caller]); (try dsimp only [ktrTop]); omega)
  | ((try simp only [units_in1, units_deeper, Around.mark_units, units_caller] at *); (try dsimp only [ktrTop] at *); omega)
  | fail "cx units"))
local macro_rules | `(tactic| walk_at "cx") => `(tactic| exact ⟨⟨_, _, by k_asm⟩, by k_asm, by k_asm, by k_asm, ⟨_, _, _, _, _, by k_asm⟩, by first | exact rfl | assumption, by walk_at "cx room", by walk_at "cx units"⟩)
local macro_rules | `(tactic| walk_at "call builtin:len") => `(tactic| (k_here; (with_reducible show wpAny _ _ (call (Value.builtin "len") [Value.bytes (List.toArray _) _]) _ _ _); (refine len_bytes (by simp only [List.size_toArray]; omega) ?_); (try simp only [List.size_toArray])))
local macro_rules | `(tactic| walk_at "subscriptTail") => `(tactic| (k_here; (with_reducible show wpAny _ _ (subscriptTail _ _ (Value.bytes (List.toArray _) _) (Value.int _ _)) _ _ _); (refine KBy.item_N (by omega) (by omega) (by omega) ?_)))
local macro_rules | `(tactic| walk_at "binaryOp LShift int int") => `(tactic| first | refine shl_byte (by decide) (by decide) ?_ | refine lshift_int_small (by decide) (by decide) (by simp only [*]; decide) ?_)
local macro_rules | `(tactic| walk_at "sk open") => `(tactic| ((try conv in (occs := *) fb _ => all_goals whnf); (try conv in (occs := *) fs _ => all_goals whnf); (try conv in (occs := *) fp _ => all_goals whnf)))
local macro_rules | `(tactic| walk_at "sk enter") => `(tactic| (refine' code_def ?k1 ?k2 ?k3 ?k4 ?k5 ?kA ?kF ?kK ?k6 ?k7 ?k8 ?k9 ?kB ?_ ?c2 ?c3 ?c4 ?c5; (case kA | kF => exact rfl); (case kK => first | exact rfl | assumption); (case k1 | k2 | k3 | k4 | k5 => k_asm); (case k6 | k7 => k_is); (case k8 => walk_at "cx room"); (case k9 => exact BindsTo.of_eq rfl); (case c5 => decide); (case kB => exact locs rfl); (case c2 | c3 | c4 => exact rfl); k_whole; intro g' L' h' FG' F' N' B' X' T'; (try dsimp only); walk_at "sk open"; (try k_fold)))
local macro_rules | `(tactic| walk_at "call ref") => `(tactic| (k_here; k_dflt (first
  | (refine' call_cls0 ?k1 ?k2 ?k3 ?k4 ?k5 ?_; (case k1 | k2 | k3 => k_asm); (case k4 | k5 => k_is); k_whole; intro x' d' h' F' N' l1 l2; (try k_lt l1); (try k_lt2 l2); (try k_sweep))
  | (refine' call_cls ?k1 ?k2 ?k3 ?k4 ?k5 ?k6 ?_; (case k1 | k2 | k3 => k_asm); (case k4 | k5 | k6 => k_is); k_whole; intro x' d' h' F' N' l1 l2; (try k_lt l1); (try k_lt2 l2); (try k_sweep); walk_at "sk enter")
  | (refine' call_meth ?k1 ?k2 ?_; (case k1 => k_asm); (case k2 => k_mem); k_whole; walk_at "sk enter")
  | (refine wpAny_call ?_; walk_at "sk enter"))))
local macro_rules | `(tactic| walk_at "sk sub") => `(tactic| (intro p9 h9; repeat (first | exact h9 | refine List.mem_cons_of_mem _ ?_)))
local macro_rules | `(tactic| walk_at "sk news") => `(tactic| first | k_asm | (refine' cb_drop ?cbN ?cbS; (case cbN => k_asm); (case cbS => walk_at "sk sub")) | fail "sk news")
local macro_rules | `(tactic| walk_at "exec While Compare cons nil") => `(tactic| refine Stp.mk ?_)
local macro_rules | `(tactic| walk_at "pyIter ref") => `(tactic| ((with_reducible show wpAny _ _ (pyIter (Value.ref _)) (fun it s₂ => LoopAtV _ _ _ _ _ _ _ _ _ it s₂) _ _); refine Stp.mk ?_))
local macro_rules | `(tactic| walk_at "sk sub2") => `(tactic| (intro p9 h9; (try simp only [List.mem_cons, List.mem_append]); first | exact h9 | exact Or.inl h9 | (simp only [h9, true_or, or_true]; done) | (refine Or.inl ?_; simp only [h9, true_or, or_true]; done) | (have h8 := by (first | exact (‹∀ p ∈ _, p ∈ _› _ h9)); simp only [h8, true_or, or_true]; done)))
local macro_rules | `(tactic| walk_at "exec While BoolOp") => `(tactic| refine Stp.mk ?_)
local macro_rules | `(tactic| walk_at "exec While BoolOp And cons nil") => `(tactic| refine Stp.mk ?_)
local macro_rules | `(tactic| walk_at "callWith ref") => `(tactic| (k_here; (with_reducible show wpAny _ _ (callWith _ _ _ (backTo _ (starEach [] _)) []) _ _ _); k_dflt (first | (refine' callWith_K0 ?k1 ?k2 ?_; (case k1 => first | with_reducible assumption | (refine' Frag.In.keeps (h := ?h9) ?a9 ?b9; (case b9 => (refine' Fr.keep ?c9; (case c9 => with_reducible assumption))); (case a9 => with_reducible assumption)) | k_in); (case k2 => k_is); k_whole) | (refine' callWith_M0 ?k1 ?k2 ?_; (case k1 => k_meth); (case k2 => k_is); k_whole; try dsimp only [List.nil_append, List.cons_append]))))
local macro_rules | `(tactic| walk_at "exec If") => `(tactic| ((with_reducible rename Mk => mk9); clear mk9; refine Stp.mk ?_))
section
open PySem Builtin
theorem slot_bytes_lt : Slot "bytes" (cmpInfo .Lt).2.1 "bytes.__lt__" :=
  .of (owner := "bytes") (n := "__lt__") (by rw [typeLookup_type, builtinLookup_eq_fast]; kernel_rfl) (by decide +kernel) (by decide +kernel) (by decide +kernel)
    (by first | exact .inl (by decide +kernel) | exact .inr (by decide +kernel)) (by rw [isSubtype_type]; kernel_rfl)
theorem entry_bytes_lt : entryFor table "bytes.__lt__" = some Builtin.«bytes.__lt__» := entryFor_of_tree (by kernel_rfl)
theorem args_bytes_lt_2 (a b : Value) : argsOk "bytes.__lt__" ⟨[a, b], []⟩ := by
  unfold argsOk; rw [signature?_of (id := "bytes.__lt__") (n := ['_', '_', 't', 'l', '_', '_']) (o := ['s', 'e', 't', 'y', 'b']) (by kernel_rfl) FB.owner_bytes]; kernel_rfl
theorem slot_bytes_gt : Slot "bytes" (cmpInfo .Gt).2.1 "bytes.__gt__" :=
  .of (owner := "bytes") (n := "__gt__") (by rw [typeLookup_type, builtinLookup_eq_fast]; kernel_rfl) (by decide +kernel) (by decide +kernel) (by decide +kernel)
    (by first | exact .inl (by decide +kernel) | exact .inr (by decide +kernel)) (by rw [isSubtype_type]; kernel_rfl)
theorem entry_bytes_gt : entryFor table "bytes.__gt__" = some Builtin.«bytes.__gt__» := entryFor_of_tree (by kernel_rfl)
theorem args_bytes_gt_2 (a b : Value) : argsOk "bytes.__gt__" ⟨[a, b], []⟩ := by
  unfold argsOk; rw [signature?_of (id := "bytes.__gt__") (n := ['_', '_', 't', 'g', '_', '_']) (o := ['s', 'e', 't', 'y', 'b']) (by kernel_rfl) FB.owner_bytes]; kernel_rfl
theorem gives_bytes_lt (b c : Array UInt8) (t u : Tok) : Gives («bytes.__lt__» ⟨[.bytes b t, .bytes c u], []⟩) (.val (.bool (Bytes.order b.toList c.toList == .lt))) := by
  refine .of_wp fun M A E s Q hq => ?_
  show wpAny M A (isInstance (.bytes c u) (.type "bytes") >>= fun r => _) _ E s
  refine wpAny_bind (wpAny_isInstance (typeIs_bytes s c u) F.sub_bytes_bytes ?_)
  exact wpAny_pure ⟨_, rfl, hq⟩
theorem gives_bytes_gt (b c : Array UInt8) (t u : Tok) : Gives («bytes.__gt__» ⟨[.bytes b t, .bytes c u], []⟩) (.val (.bool (Bytes.order b.toList c.toList == .gt))) := by
  refine .of_wp fun M A E s Q hq => ?_
  show wpAny M A (isInstance (.bytes c u) (.type "bytes") >>= fun r => _) _ E s
  refine wpAny_bind (wpAny_isInstance (typeIs_bytes s c u) F.sub_bytes_bytes ?_)
  exact wpAny_pure ⟨_, rfl, hq⟩
section
variable {prog : Program} {w : World} {A : Around} {E : Value → Shared → Prop} {s : Shared} {b c : Array UInt8} {t u : Tok} {Q : Value → Shared → Prop}
theorem lt_bytes (h : Q (.bool (Bytes.order b.toList c.toList == .lt)) s) : wpAny (model prog w) A (compareOp .Lt (.bytes b t) (.bytes c u)) Q E s :=
  compareOp_gives (op := .Lt) (typeIs_bytes s b t) (typeIs_bytes s c u) slot_bytes_lt entry_bytes_lt (args_bytes_lt_2 _ _) (gives_bytes_lt b c t u) (fun e => nomatch e) h
theorem gt_bytes (h : Q (.bool (Bytes.order b.toList c.toList == .gt)) s) : wpAny (model prog w) A (compareOp .Gt (.bytes b t) (.bytes c u)) Q E s :=
  compareOp_gives (op := .Gt) (typeIs_bytes s b t) (typeIs_bytes s c u) slot_bytes_gt entry_bytes_gt (args_bytes_gt_2 _ _) (gives_bytes_gt b c t u) (fun e => nomatch e) h
theorem slot_bytes_bytes : Slot "bytes" (Str.ofString "__bytes__") "bytes.__bytes__" :=
  .of (owner := "bytes") (n := "__bytes__") (by rw [typeLookup_type, builtinLookup_eq_fast]; kernel_rfl) (by decide +kernel) (by decide +kernel) (by decide +kernel)
    (by first | exact .inl (by decide +kernel) | exact .inr (by decide +kernel)) (by rw [isSubtype_type]; kernel_rfl)
theorem bytes_new_bytes (h : Q (.bytes b t) s) : codeAny (model prog w) A (.call (.builtin "bytes.__new__") ⟨[.type "bytes", .bytes b t], []⟩) (wants Q E) s := by
  refine codeAny_of_tree ?_
  show wpAny _ A.in1 (do checkBuiltinCall "bytes.__new__" ⟨[.type "bytes", .bytes b t], []⟩; again (.builtin "bytes.__new__" ⟨[.type "bytes", .bytes b t], []⟩)) _ _ s
  refine wpAny_bind (wpAny_of_eq (F.bm_newCall _) (wpAny_pure ⟨plainId_quiet F.bm_plain _, codeAny_builtin F.bm_entry ?_⟩))
  rw [Around.under_plainId F.bm_plain _]
  unfold Builtin.«bytes.__new__»
  refine wpAny_bind (wpAny_of_eq (a := true) rfl ?_)
  refine bm_if_false rfl ?_
  refine wpAny_bind (wpAny_of_eq F.bm_sub ?_)
  refine bm_if_false rfl ?_
  refine wpAny_bind (wpAny_of_eq (F.bm_bind _) ?_)
  refine wpAny_bind (wpAny_of_eq (a := ()) rfl ?_)
  refine wpAny_bind (wpAny_of_eq (a := ()) rfl ?_)
  refine bm_if_false rfl ?_
  refine wpAny_bind (wpAny_specialOf (typeIs_bytes s b t) slot_bytes_bytes.lookup ?_)
  refine wpAny_bind (wpAny_rule ?_)
  refine wpAny_bind (wpAny_typeOf (typeIs_bytes s b t) ?_)
  refine bm_if_true (by decide) ?_
  exact wpAny_pure h
theorem bytes_of_bytes (h : Q (.bytes b t) s) : wpAny (model prog w) A (call (.type "bytes") [.bytes b t]) Q E s := by
  refine callType_codes (Q₁ := fun obj s₁ => s₁.TypeIs obj "bytes" ∧ Q obj s₁) F.bm_called (F.bm_typeCall _) F.entry_object_init
    (bytes_new_bytes ⟨typeIs_bytes _ _ _, h⟩) fun obj s₁ h₁ => ?_
  exact ⟨h₁.1, F.args_object_init_2 obj _, object_init_meets F.bm_called.init.lookup F.bm_called.made (by decide) prog w A.in1 _ s₁ ⟨h₁.1, rfl, h₁.2⟩⟩
end
theorem bInts_inj {b c : Array UInt8} (h : KBw.bInts b = KBw.bInts c) : b = c := by
  unfold KBw.bInts at h
  have : b.toList = c.toList := by
    refine (List.map_inj_right (fun x y e => ?_)).mp h
    exact UInt8.toNat_inj.mp (Int.ofNat.inj e)
  exact Array.toList_inj.mp this
section
variable {prog : Program} {w : World} {A : Around} {E : Value → Shared → Prop} {s : Shared} {value slice : PySem.Expr} {d : List UInt8} {t u : Tok} {h₀ : Heap} {L : Addr} {m : PySem.Str → Option Value} {news : List (Addr × Obj)} {hi : Int} {Q : Value → Shared → Prop}
theorem bytes_take (h0 : 0 ≤ hi) (h1 : hi ≤ (d.length : Int)) (hz : d.length ≤ 1000) (F : Fr h₀ L s.heap m) (N : News h₀ L s.heap news)
    (h : ∀ h' t' k, Fr h₀ L h' m → News h₀ L h' news → Q (.bytes (d.take hi.toNat).toArray t') { s with heap := h', toks := k })
    (hs : subscripted slice false (.bytes d.toArray t) (.ref s.heap.objs.size) = operate [.ref s.heap.objs.size, .bytes d.toArray t] (getItem (.bytes d.toArray t) (.ref s.heap.objs.size)) := by with_unfolding_all rfl)
    (ht : ∀ r, letTemporaryGo value (.bytes d.toArray t) r = pure () := by intro _; with_unfolding_all rfl) :
    wpAny (model prog w) A (subscriptTail value slice (.bytes d.toArray t) (.ref s.heap.objs.size)) Q E { s with heap := s.heap.push { cls := .type "slice", data := .fields #[.none, .int hi u, .none] } } := by
  refine KBc.slice_K (s := s) (lo := none) (hi := some hi) (ks := KBw.bInts d.toArray) F N rfl (by constructor) (by constructor) (by rw [KBw.ints_length]; simp only [List.size_toArray]; omega) (fun h' t' k F' N' e => ?_) hs ht
  have hc : clipAt (KBw.bInts d.toArray).length hi = hi.toNat := by
    rw [KBw.ints_length, List.size_toArray, show hi = ((hi.toNat : Nat) : Int) by omega, clipAt_nat]
    omega
  have e2 : KBy.picked d.toArray none (some hi) = (d.take hi.toNat).toArray := by
    apply bInts_inj
    rw [e]
    show List.take (clipAt (KBw.bInts d.toArray).length hi - 0) (List.drop 0 (KBw.bInts d.toArray)) = _
    rw [hc]
    simp [KBw.bInts]
  rw [e2]
  exact h h' t' k F' N'
end
end
local macro_rules | `(tactic| walk_at "subscriptTail") => `(tactic| (k_here; (with_reducible show wpAny _ _ (subscriptTail _ (Expr.Slice none _ none _) (Value.bytes (List.toArray _) _) (Value.ref _)) _ _ _); (with_reducible rename Fr _ _ _ _ => F'); (with_reducible rename News _ _ _ _ => N'); (refine bytes_take (s := ⟨_, _, _, _, _⟩) (by omega) (by omega) (by omega) F' N' ?_); intro h' t' k' F' N'; (try dsimp only); (try k_sweep)))
local macro_rules | `(tactic| walk_at "call type:bytes") => `(tactic| (k_here; (with_reducible show wpAny _ _ (call (Value.type "bytes") [Value.bytes _ _]) _ _ _); refine bytes_of_bytes ?_))
local macro_rules | `(tactic| walk_at "compareOp Lt bytes bytes") => `(tactic| refine lt_bytes ?_)
local macro_rules | `(tactic| walk_at "compareOp Gt bytes bytes") => `(tactic| refine gt_bytes ?_)
/-! lists of the ledger, by membership -/
abbrev tupOf (vs : List Value) (n : Nat) : Obj := { cls := .type "tuple", data := .seq vs.toArray n }
def updL (news : List (Addr × Obj)) (D : Addr) (o : Obj) : List (Addr × Obj) := news.map fun p => if p.1 = D then (D, o) else p
theorem updL_ne {news : List (Addr × Obj)} {D : Addr} {o : Obj} {p : Addr × Obj} (h : p ∈ news) (hn : p.1 ≠ D) : p ∈ updL news D o :=
  List.mem_map.mpr ⟨p, h, by rw [if_neg hn]⟩
theorem updL_self {news : List (Addr × Obj)} {D : Addr} {o o' : Obj} (h : (D, o') ∈ news) : (D, o) ∈ updL news D o :=
  List.mem_map.mpr ⟨(D, o'), h, by rw [if_pos rfl]⟩
theorem updL_of {news : List (Addr × Obj)} {D : Addr} {o : Obj} {p : Addr × Obj} (h : p ∈ updL news D o) : p = (D, o) ∨ (p ∈ news ∧ p.1 ≠ D) := by
  obtain ⟨q, hq, e⟩ := List.mem_map.mp h
  by_cases hd : q.1 = D
  · rw [if_pos hd] at e; exact .inl e.symm
  · rw [if_neg hd] at e; exact .inr (e ▸ ⟨hq, hd⟩)
/-- one object an address -/
theorem news_one {h₀ h : Heap} {L a : Addr} {news : List (Addr × Obj)} {o o' : Obj} (N : News h₀ L h news) (h1 : (a, o) ∈ news) (h2 : (a, o') ∈ news) : o = o' := by
  have e1 := (N _ h1).1
  have e2 := (N _ h2).1
  exact Option.some.inj (e1.symm.trans e2)
section
variable {prog : Program} {w : World} {A : Around} {E : Value → Shared → Prop} {s : Shared} {h₀ : Heap} {L D : Addr} {m : Str → Option Value} {news : List (Addr × Obj)} {vs ws : List Value} {n : Nat} {k : Int} {t u : Tok} {x : Value}
theorem set_L {Q : Unit → Shared → Prop} (F : Fr h₀ L s.heap m) (N : News h₀ L s.heap news) (hm : (D, listOf vs.toArray n) ∈ news) (h0 : 0 ≤ k) (h1 : k < (vs.length : Int)) (h2 : vs.length ≤ 1000)
    (h : ∀ h', Fr h₀ L h' m → News h₀ L h' (updL news D (listOf (vs.set k.toNat x).toArray n)) → Q () { s with heap := h' }) :
    wpAny (model prog w) A (setItem (.ref D) (.int k t) x) Q E s := by
  have z := N _ hm
  refine ki_setAt z.1 h0 (by omega) (by rw [List.size_toArray]; exact h1) (h _ (F.change (Heap.SameBut.update ..) z.2.1 z.2.2) fun p hp => ?_)
  rcases updL_of hp with rfl | ⟨hp, hne⟩
  · refine ⟨?_, z.2⟩
    have e := Heap.get?_update_self (Obj.mapSeq (·.setIfInBounds k.toNat x)) z.1 rfl
    rw [e]
    show some (Obj.mapSeq (·.setIfInBounds k.toNat x) (listOf vs.toArray n)) = some (listOf (vs.set k.toNat x).toArray n)
    have e2 : vs.toArray.setIfInBounds k.toNat x = (vs.set k.toNat x).toArray := by
      apply Array.toList_inj.mp
      simp
    show some ({ cls := .type "list", dict := none, data := .seq (vs.toArray.setIfInBounds k.toNat x) (if (vs.toArray.setIfInBounds k.toNat x).size == vs.toArray.size then n else n + 1), slots := #[] } : Obj) = _
    rw [e2]
    simp
  · exact ⟨(Heap.get?_update_ne _ _ _ _ hne).trans (N p hp).1, (N p hp).2⟩
theorem rep_L {Q : Value → Shared → Prop} (F : Fr h₀ L s.heap m) (N : News h₀ L s.heap news) (hm : (D, listOf [x].toArray n) ∈ news) (h0 : 0 ≤ k) (h1 : k ≤ 1000)
    (h : ∀ l h', Fr h₀ L h' m → News h₀ L h' ((l, listOf (List.replicate k.toNat x).toArray 0) :: news) → (∀ p ∈ news, p.1 < l) → Q (.ref l) { s with heap := h' }) :
    wpAny (model prog w) A (binaryOp .Mult (.ref D) (.int k u)) Q E s := by
  refine mul_list (items := [x].toArray) (k := n) F N (N _ hm).1 (by omega) (by omega) (by simp only [List.size_toArray, List.length_cons, List.length_nil]; omega) fun h' F' N' => ?_
  refine h _ h' F' ?_ fun p hp => Heap.lt_size (N p hp).1
  have e : (List.foldl (fun x1 x2 => x1 ++ x2) #[] (List.replicate (if ([x].toArray).isEmpty = true then 0 else k.toNat) [x].toArray)) = (List.replicate k.toNat x).toArray := by
    have e0 : (if ([x].toArray).isEmpty = true then 0 else k.toNat) = k.toNat := rfl
    rw [e0]
    have key : ∀ (j : Nat) (acc : List Value), List.foldl (fun x1 x2 : Array Value => x1 ++ x2) acc.toArray (List.replicate j [x].toArray) = (acc ++ List.replicate j x).toArray := by
      intro j
      induction j with
      | zero => intro acc; simp
      | succ j ih =>
        intro acc
        rw [List.replicate_succ, List.foldl_cons, List.append_toArray, ih, List.replicate_succ, List.append_assoc]
        rfl
    exact (key k.toNat []).trans (by rw [List.nil_append])
  rw [e] at N'
  exact N'
theorem cat_L {D2 : Addr} {n2 : Nat} {Q : Value → Shared → Prop} (F : Fr h₀ L s.heap m) (N : News h₀ L s.heap news) (hm : (D, listOf vs.toArray n) ∈ news) (hm2 : (D2, listOf ws.toArray n2) ∈ news) (h1 : vs.length ≤ 1000) (h2 : ws.length ≤ 1000)
    (h : ∀ l h', Fr h₀ L h' m → News h₀ L h' ((l, listOf (vs ++ ws).toArray 0) :: news) → (∀ p ∈ news, p.1 < l) → Q (.ref l) { s with heap := h' }) :
    wpAny (model prog w) A (binaryOp .Add (.ref D) (.ref D2)) Q E s :=
  add_arrays F N ⟨_, (N _ hm).1, rfl, n, rfl⟩ ⟨_, (N _ hm2).1, rfl, n2, rfl⟩ (fun h' F' N' => h _ h' F' N' fun p hp => Heap.lt_size (N p hp).1)
    (by rw [List.size_toArray, List.size_toArray, sizeLine_eq]; omega)
theorem len_L {Q : Value → Shared → Prop} (N : News h₀ L s.heap news) (hm : (D, listOf vs.toArray n) ∈ news) (h1 : vs.length ≤ 1000)
    (h : Q (.int (vs.length : Int) (s.toks + 1)) { s with toks := s.toks + 1 + 1 }) : wpAny (model prog w) A (call (.builtin "len") [.ref D]) Q E s :=
  len_list (items := vs.toArray) ⟨_, (N _ hm).1, rfl, n, rfl⟩ (by rw [List.size_toArray]; omega) (by rw [List.size_toArray]; exact h)
theorem item_L {value slice : PySem.Expr} {Q : Value → Shared → Prop} (N : News h₀ L s.heap news) (hm : (D, listOf vs.toArray n) ∈ news) (h0 : 0 ≤ k) (h1 : k < 1000) (hx : vs[k.toNat]? = some x) (h : Q x s)
    (hs : subscripted slice false (.ref D) (.int k u) = operate [.ref D, .int k u] (getItem (.ref D) (.int k u)) := by with_unfolding_all rfl) (hg : ∀ r, letTemporaryGo value (.ref D) r = pure () := by intro _; with_unfolding_all rfl) :
    wpAny (model prog w) A (subscriptTail value slice (.ref D) (.int k u)) Q E s :=
  item_listL ⟨_, (N _ hm).1, rfl, n, rfl⟩ h0 (by omega) hx h hs hg
theorem slice_L {value slice : PySem.Expr} {vl vu : Value} {lo hi : Option Int} {Q : Value → Shared → Prop} (F : Fr h₀ L s.heap m) (N : News h₀ L s.heap news) (hm : (D, listOf vs.toArray n) ∈ news) (pl : IsPart vl lo) (pu : IsPart vu hi) (hz : vs.length ≤ 1000)
    (e : (slicePick vs.toArray lo hi none).toList = ws)
    (h : ∀ D' h', Fr h₀ L h' m → News h₀ L h' ((D', listOf ws.toArray 0) :: news) → (∀ p ∈ news, p.1 < D') → Q (.ref D') { s with heap := h' })
    (hs : subscripted slice false (.ref D) (.ref s.heap.objs.size) = operate [.ref s.heap.objs.size, .ref D] (getItem (.ref D) (.ref s.heap.objs.size)) := by with_unfolding_all rfl) (ht : ∀ r, letTemporaryGo value (.ref D) r = pure () := by intro _; with_unfolding_all rfl) :
    wpAny (model prog w) A (subscriptTail value slice (.ref D) (.ref s.heap.objs.size)) Q E { s with heap := s.heap.push { cls := .type "slice", data := .fields #[vl, vu, .none] } } :=
  kmk_slice_lit F N ⟨_, (N _ hm).1, rfl, n, rfl⟩ pl pu e h hs ht (by rw [List.size_toArray, sizeLine_eq]; omega)
end
theorem pick_run {vs : List Value} {x y : Int} (h : 0 ≤ x) (h2 : 0 ≤ y) : (slicePick vs.toArray (some x) (some y) none).toList = (vs.drop x.toNat).take (y.toNat - x.toNat) := by
  have e : sliceBounds (some x) (some y) none vs.toArray.size = (((min x.toNat vs.toArray.size : Nat) : Int), ((min y.toNat vs.toArray.size : Nat) : Int), 1) := by
    simp only [sliceBounds, Option.getD_none, show (1 : Int) > 0 by decide, if_true, if_neg (show ¬ (x < 0) by omega), if_neg (show ¬ (y < 0) by omega)]
    congr 1
    · omega
    · congr 1
      omega
  rw [kmk_pick_nat _ e]
  show (vs.drop (min x.toNat vs.toArray.size)).take (min y.toNat vs.toArray.size - min x.toNat vs.toArray.size) = _
  rw [List.size_toArray, kmk_drop_min]
  by_cases hx : x.toNat ≤ vs.length
  · rw [Nat.min_eq_left hx]
    by_cases hy : y.toNat ≤ vs.length
    · rw [Nat.min_eq_left hy]
    · rw [Nat.min_eq_right (by omega), List.take_of_length_le (by rw [List.length_drop]; omega), List.take_of_length_le (by rw [List.length_drop]; omega)]
  · rw [List.drop_of_length_le (by omega)]; simp
theorem pick_upto {vs : List Value} {y : Int} (h : 0 ≤ y) : (slicePick vs.toArray none (some y) none).toList = vs.take y.toNat := by
  have e : sliceBounds none (some y) none vs.toArray.size = (((0 : Nat) : Int), ((min y.toNat vs.toArray.size : Nat) : Int), 1) := by
    simp only [sliceBounds, Option.getD_none, show (1 : Int) > 0 by decide, if_true, if_neg (show ¬ (y < 0) by omega)]
    congr 1
    congr 1
    omega
  rw [kmk_pick_nat _ e]
  show (vs.drop 0).take (min y.toNat vs.toArray.size - 0) = _
  rw [List.drop_zero, Nat.sub_zero, List.size_toArray, kmk_take_min]
theorem pick_from {vs : List Value} {x : Int} (h : 0 ≤ x) : (slicePick vs.toArray (some x) none none).toList = vs.drop x.toNat := by
  have e : sliceBounds (some x) none none vs.toArray.size = (((min x.toNat vs.toArray.size : Nat) : Int), ((vs.toArray.size : Nat) : Int), 1) := by
    simp only [sliceBounds, Option.getD_none, show (1 : Int) > 0 by decide, if_true, if_neg (show ¬ (x < 0) by omega)]
    congr 1
    omega
  rw [kmk_pick_nat _ e]
  show ((vs.drop (min x.toNat vs.toArray.size)).take (vs.toArray.size - min x.toNat vs.toArray.size)) = _
  rw [List.size_toArray, kmk_drop_min, List.take_of_length_le (by rw [List.length_drop]; omega)]
theorem pick_last {vs : List Value} : (slicePick vs.toArray (some (-1)) none none).toList = vs.drop (vs.length - 1) := by
  have e : sliceBounds (some (-1)) none none vs.toArray.size = (((vs.toArray.size - 1 : Nat) : Int), ((vs.toArray.size : Nat) : Int), 1) := by
    simp only [sliceBounds, Option.getD_none, show (1 : Int) > 0 by decide, if_true, show (-1 : Int) < 0 by decide]
    congr 1
    omega
  rw [kmk_pick_nat _ e]
  show ((vs.drop (vs.toArray.size - 1)).take (vs.toArray.size - (vs.toArray.size - 1))) = _
  rw [List.size_toArray, List.take_of_length_le (by rw [List.length_drop]; omega)]
local macro_rules | `(tactic| walk_at "binaryOp Mult ref int") => `(tactic| (k_here; (with_reducible show wpAny _ _ (binaryOp _ (Value.ref _) (Value.int _ _)) _ _ _); k_dflt (refine' rep_L ?k1 ?k2 ?k3 ?k4 ?k5 ?_; (case k1 | k2 => k_asm); (case k3 => k_mem); (case k4 | k5 => omega)); intro l' h' F' N' l1; (try k_lt l1); (try k_sweep); (try dsimp only)))
local macro_rules | `(tactic| walk_at "call builtin:len") => `(tactic| (k_here; (with_reducible show wpAny _ _ (call (Value.builtin "len") [Value.ref _]) _ _ _); k_dflt (refine' len_L ?k1 ?k2 ?k3 ?_; (case k1 => k_asm); (case k2 => k_mem); (case k3 => (simp only [List.length_cons, List.length_nil, List.length_append, List.length_replicate] at *; omega)))))
local macro_rules | `(tactic| k_mem) => `(tactic| first | exact List.Mem.head _ | (refine List.mem_cons_of_mem _ ?_; k_mem))
local macro_rules | `(tactic| walk_at "subscriptTail") => `(tactic| (k_here; (with_reducible show wpAny _ _ (subscriptTail _ _ (Value.ref _) (Value.int _ _)) _ _ _); k_dflt (refine' item_L ?N ?hm ?h0 ?h1 ?hx ?_ ?hs ?hg; (case N => k_asm); (case hm => k_mem); (case h0 | h1 => omega); (case hx => assumption); (case hs => with_unfolding_all rfl); (case hg => (intro _; with_unfolding_all rfl)))))
local macro_rules | `(tactic| walk_at "setItem ref") => `(tactic| (k_here; k_dflt (refine' set_L ?k1 ?k2 ?k3 ?k4 ?k5 ?k6 ?_; (case k1 | k2 => k_asm); (case k3 => k_mem); (case k4 | k5 | k6 => ((try dsimp only); omega))); intro h' F' N'; (try k_sweep); (try dsimp only at N')))
/-! loops over any state of one's own -/
section
variable {prog : Program} {w : World} {A : Around} {E : Value → Shared → Prop} {Q : Flow → Shared → Prop} {s : Shared} {env : Env} {h₀ : Heap} {L : Addr} {σ : Type}
def SEnd (h₀ : Heap) (L : Addr) (s : Shared) (P : σ → Prop) (size : σ → Nat) (Led : σ → List (Addr × Obj)) (ps : σ → List (Str × Value)) (stored : List Str) (m₀ : Str → Option Value) (c : σ) (s₂ : Shared) : Prop :=
  ∃ h' tk m' news' c', s₂ = { s with heap := h', toks := tk } ∧ Fr h₀ L h' m' ∧ News h₀ L h' news' ∧ (∀ p ∈ Led c', p ∈ news') ∧ (∀ p ∈ ps c', m' p.1 = some p.2) ∧ (∀ x, (∀ p ∈ ps c', x ≠ p.1) → stored.contains x = false → m' x = m₀ x) ∧ P c' ∧ size c' < size c
def SPost (h₀ : Heap) (L : Addr) (s : Shared) (P : σ → Prop) (size : σ → Nat) (Led : σ → List (Addr × Obj)) (ps : σ → List (Str × Value)) (stored : List Str) (m₀ : Str → Option Value) (Q : Flow → Shared → Prop) (c : σ) (f : Flow) (s₂ : Shared) : Prop :=
  match f with
  | .ret v => Q (.ret v) s₂
  | .brk => Q .next s₂
  | _ => SEnd h₀ L s P size Led ps stored m₀ c s₂
theorem SEnd.intro {P : σ → Prop} {size : σ → Nat} {Led : σ → List (Addr × Obj)} {ps : σ → List (Str × Value)} {stored : List Str} {m₀ m' : Str → Option Value} {c : σ} {h' : Heap} {tk : Nat} {news' : List (Addr × Obj)} (c' : σ)
    (F : Fr h₀ L h' m') (N : News h₀ L h' news') (hl : ∀ p ∈ Led c', p ∈ news') (hp : ∀ p ∈ ps c', m' p.1 = some p.2) (hr : ∀ x, (∀ p ∈ ps c', x ≠ p.1) → stored.contains x = false → m' x = m₀ x) (h : P c') (hs : size c' < size c) :
    SEnd h₀ L s P size Led ps stored m₀ c { s with heap := h', toks := tk } := ⟨h', tk, m', news', c', rfl, F, N, hl, hp, hr, h, hs⟩
theorem while_S {test : Expr} {body : List Stmt} {pos : Pos} {m₀ : Str → Option Value} {news : List (Addr × Obj)} (P : σ → Prop) (size : σ → Nat) (Led : σ → List (Addr × Obj)) (ps : σ → List (Str × Value)) (stored : List Str) (c₀ : σ)
    (F : Fr h₀ L s.heap m₀) (N : News h₀ L s.heap news) (hl : ∀ p ∈ Led c₀, p ∈ news) (hp : ∀ p ∈ ps c₀, m₀ p.1 = some p.2) (h0 : P c₀)
    (turn : ∀ c (u : Str → Option Value) h tk, P c → Fr h₀ L h (kstB (fun z => if stored.contains z then u z else m₀ z) (ps c)) → News h₀ L h (Led c) →
      let Qb : Flow → Shared → Prop := SPost h₀ L s P size Led ps stored m₀ Q c
      wpAny (model prog w) A (isTrue test env (eval test env)) (fun b s₂ =>
        if b = true then wpAny (model prog w) A (execs body env) Qb E s₂ else Q .next s₂) E { s with heap := h, toks := tk })
    (hE : PassesOwn (model prog w) A env E := by passes_own) :
    wpAny (model prog w) A (exec (.While test body [] pos) env) Q E s := by
  refine While_inv2 (fun n m nx => ∃ c, n = size c ∧ nx = Led c ∧ (∀ p ∈ ps c, m p.1 = some p.2) ∧ (∀ x, (∀ p ∈ ps c, x ≠ p.1) → stored.contains x = false → m x = m₀ x) ∧ P c) (n₀ := size c₀) (news := Led c₀) F (fun p q => N p (hl p q)) ⟨c₀, rfl, rfl, hp, fun _ _ _ => rfl, h0⟩ ?_ hE
  rintro n m₁ nx h tk F₁ N₁ ⟨c, rfl, rfl, h1, h2, hc⟩
  have e : kstB (fun z => if stored.contains z then m₁ z else m₀ z) (ps c) = m₁ := by
    funext z
    refine kstB_eq h1 fun hz => ?_
    cases h9 : stored.contains z with
    | true => simp
    | false => simp only [Bool.false_eq_true, if_false]; exact (h2 z hz h9).symm
  have tn := turn c m₁ h tk hc (by rw [e]; exact F₁) N₁
  dsimp only at tn
  refine wpAny_mono tn (fun b s₂ p => ?_) fun _ _ x => x
  cases b with
  | false => simpa using p
  | true =>
    simp only [if_true] at p ⊢
    refine wpAny_mono p (fun f s₃ q => ?_) fun _ _ x => x
    have fin : SEnd h₀ L s P size Led ps stored m₀ c s₃ → WhileStep2 h₀ L s (fun n m nx => ∃ c, n = size c ∧ nx = Led c ∧ (∀ p ∈ ps c, m p.1 = some p.2) ∧ (∀ x, (∀ p ∈ ps c, x ≠ p.1) → stored.contains x = false → m x = m₀ x) ∧ P c) Q (size c) .next s₃ := by
      rintro ⟨h', tk', m', news', c', rfl, F', N', hl', hp', hr', hc', hs'⟩
      exact ⟨h', tk', m', Led c', size c', rfl, F', fun p q => N' p (hl' p q), hs', c', rfl, rfl, hp', hr', hc'⟩
    cases f with
    | ret v => exact q
    | brk => exact q
    | next => exact fin q
    | cont => exact fin q

def FEnd (h₀ : Heap) (L : Addr) (s : Shared) (own : List (Addr × Obj)) (x : Str) (P : σ → Prop) (Led : σ → List (Addr × Obj)) (ps : σ → List (Str × Value)) (stored : List Str) (m₀ : Str → Option Value) (s₂ : Shared) : Prop :=
  ∃ h' tk m' news' c', s₂ = { s with heap := h', toks := tk } ∧ Fr h₀ L h' m' ∧ News h₀ L h' news' ∧ (∀ p ∈ Led c', p ∈ news') ∧ (∀ p ∈ own, p ∈ news') ∧ OwnOff own ((Led c').map (·.1)) ∧ (∀ p ∈ ps c', m' p.1 = some p.2) ∧ (∀ z, z ≠ x → (∀ p ∈ ps c', z ≠ p.1) → stored.contains z = false → m' z = m₀ z) ∧ P c'
def FPost (h₀ : Heap) (L : Addr) (s : Shared) (own : List (Addr × Obj)) (x : Str) (P : σ → Prop) (Led : σ → List (Addr × Obj)) (ps : σ → List (Str × Value)) (stored : List Str) (m₀ : Str → Option Value) (Q : Flow → Shared → Prop) (f : Flow) (s₂ : Shared) : Prop :=
  match f with
  | .ret v => Q (.ret v) s₂
  | .brk => Q .next s₂
  | _ => FEnd h₀ L s own x P Led ps stored m₀ s₂
theorem FEnd.intro {x : Str} {own : List (Addr × Obj)} {P : σ → Prop} {Led : σ → List (Addr × Obj)} {ps : σ → List (Str × Value)} {stored : List Str} {m₀ m' : Str → Option Value} {h' : Heap} {tk : Nat} {news' : List (Addr × Obj)} (c' : σ)
    (F : Fr h₀ L h' m') (N : News h₀ L h' news') (hl : ∀ p ∈ Led c', p ∈ news') (ho : ∀ p ∈ own, p ∈ news') (hf : OwnOff own ((Led c').map (·.1))) (hp : ∀ p ∈ ps c', m' p.1 = some p.2) (hr : ∀ z, z ≠ x → (∀ p ∈ ps c', z ≠ p.1) → stored.contains z = false → m' z = m₀ z) (h : P c') :
    FEnd h₀ L s own x P Led ps stored m₀ { s with heap := h', toks := tk } := ⟨h', tk, m', news', c', rfl, F, N, hl, ho, hf, hp, hr, h⟩
theorem for_S {x : Str} {body : List Stmt} {r : Addr} {a₀ b₀ : Int} {t₀ u₀ v₀ : Tok} {m₀ : Str → Option Value} {news : List (Addr × Obj)} (n : Nat) (P : Nat → σ → Prop) (Led : σ → List (Addr × Obj)) (ps : σ → List (Str × Value)) (stored : List Str) (c₀ : σ)
    (hh : A.handled = none) (hr : IsRange s.heap r a₀ b₀ 1 t₀ u₀ v₀) (ha : 0 ≤ a₀) (hb : b₀ ≤ 1000) (hn : b₀ - a₀ = (n : Int))
    (F : Fr h₀ env.locals s.heap m₀) (N : News h₀ env.locals s.heap news) (hl : ∀ p ∈ Led c₀, p ∈ news) (hp : ∀ p ∈ ps c₀, m₀ p.1 = some p.2) (h0 : P 0 c₀)
    (turn : ∀ i c (u : Str → Option Value) h tk own t, i < n → P i c → OwnOff own ((Led c).map (·.1)) → Fr h₀ env.locals h (fun y => if y = x then some (.int (a₀ + (i : Int)) t) else kstB (fun z => if stored.contains z then u z else m₀ z) (ps c) y) → News h₀ env.locals h (Led c ++ own) →
      wpAny (model prog w) A (execs body env) (FPost h₀ env.locals s own x (P (i + 1)) Led ps stored m₀ Q) E { s with heap := h, toks := tk })
    (done : ∀ c (u : Str → Option Value) h tk, P n c → Fr h₀ env.locals h (fun y => if y = x then u y else kstB (fun z => if stored.contains z then u z else m₀ z) (ps c) y) → News h₀ env.locals h (Led c) → Q .next { s with heap := h, toks := tk }) :
    wpAny (model prog w) A (pyIter (.ref r)) (fun it s₂ => LoopAtV prog w A h₀ env x body Q E it s₂) E s := by
  have hsz : Builtin.Range.rangeSize a₀ b₀ 1 = (n : Int) := by
    unfold Builtin.Range.rangeSize
    simp only [show (1 : Int) > 0 by decide, if_true]
    (repeat' split) <;> first | omega | (simp at *; omega)
  have hsmall : Builtin.Range.small a₀ b₀ 1 = true := small_one (by omega) (by omega) (by omega) (by omega)
  refine wpAny_pyIter_range hr hsmall ?_
  have W : Walks prog w A s.heap.objs.size [s.heap.objs.size] [s.heap.objs.size] n (fun i v => i < n ∧ ∃ t, v = .int (a₀ + i * 1) t)
      (fun i h => IsRangeIter h s.heap.objs.size (a₀ + (i : Nat) * 1) ((n : Int) - (i : Nat)) 1) := (Walks.range hh _ a₀ 1 n).bound
  refine kdr_loop (fun i m nx => ∃ c, nx = Led c ∧ (∀ p ∈ ps c, m p.1 = some p.2) ∧ (∀ z, z ≠ x → (∀ p ∈ ps c, z ≠ p.1) → stored.contains z = false → m z = m₀ z) ∧ P i c) (news := Led c₀) W (fun _ h => h) (fun _ h => h) ?_ ?_ ?_ ?_ (by show IsRangeIter _ _ _ _ _; rw [hsz]; simpa using Heap.get?_push_size _ rfl) (F.push _) (fun p q => ⟨Heap.get?_push_of_some _ (N p (hl p q)).1, (N p (hl p q)).2⟩) ⟨c₀, rfl, hp, fun _ _ _ _ => rfl, h0⟩ ?_ ?_
  · intro i h hi b hb
    rw [List.mem_singleton.mp hb]
    exact ⟨_, hi⟩
  · intro hm
    exact absurd F.ns.lt (List.mem_singleton.mp hm ▸ Nat.lt_irrefl _)
  · intro b hb
    rw [List.mem_singleton.mp hb]
    exact next_is_new F
  · intro p q hI
    exact absurd (Heap.lt_size (N p (hl p q)).1) ((List.mem_singleton.mp hI) ▸ Nat.lt_irrefl _)
  · rintro i v m₁ nx h tk own hi ⟨_, t, rfl⟩ hoff ⟨c, rfl, h1, h2, hc⟩ F₁ N₁
    rw [Int.mul_one] at F₁
    have e : kstB (fun z => if stored.contains z then m₁ z else m₀ z) (ps c) = fun y => if y = x then kstB (fun z => if stored.contains z then m₁ z else m₀ z) (ps c) y else m₁ y := by
      funext z
      by_cases hz : z = x
      · rw [if_pos hz]
      · rw [if_neg hz]
        refine kstB_eq h1 fun hq => ?_
        cases h9 : stored.contains z with
        | true => simp
        | false => simp only [Bool.false_eq_true, if_false]; exact (h2 z hz hq h9).symm
    have F₂ : Fr h₀ env.locals h (fun y => if y = x then some (.int (a₀ + (i : Int)) t) else kstB (fun z => if stored.contains z then m₁ z else m₀ z) (ps c) y) := by
      rw [e]
      have e2 : (fun y => if y = x then some (Value.int (a₀ + (i : Int)) t) else if y = x then kstB (fun z => if stored.contains z then m₁ z else m₀ z) (ps c) y else m₁ y) = fun y => if y = x then some (Value.int (a₀ + (i : Int)) t) else m₁ y := by
        funext y
        by_cases hy : y = x <;> simp [hy]
      rw [e2]
      exact F₁
    refine wpAny_mono (turn i c m₁ h tk own t hi hc hoff F₂ N₁) (fun f s₂ q => ?_) fun _ _ x => x
    have fin : FEnd h₀ env.locals s own x (P (i + 1)) Led ps stored m₀ s₂ → InvEndG h₀ env.locals (fun m nx => ∃ c, nx = Led c ∧ (∀ p ∈ ps c, m p.1 = some p.2) ∧ (∀ z, z ≠ x → (∀ p ∈ ps c, z ≠ p.1) → stored.contains z = false → m z = m₀ z) ∧ P (i + 1) c) own { s with heap := h, toks := tk } s₂ := by
      rintro ⟨h', tk', m', news', c', rfl, F', N', hl', ho', hf', hp', hr', hc'⟩
      exact ⟨h', tk', m', news', Led c', rfl, F', N', hl', ho', hf', c', rfl, hp', hr', hc'⟩
    cases f with
    | ret v => exact q
    | brk => exact q
    | next => exact fin q
    | cont => exact fin q
  · rintro m₁ nx h tk ⟨c, rfl, h1, h2, hc⟩ F₁ N₁
    refine done c m₁ h tk hc ?_ N₁
    have e : (fun y => if y = x then m₁ y else kstB (fun z => if stored.contains z then m₁ z else m₀ z) (ps c) y) = m₁ := by
      funext z
      by_cases hz : z = x
      · rw [if_pos hz]
      · rw [if_neg hz]
        refine kstB_eq h1 fun hq => ?_
        cases h9 : stored.contains z with
        | true => simp
        | false => simp only [Bool.false_eq_true, if_false]; exact (h2 z hz hq h9).symm
    rw [e]; exact F₁
end
local macro_rules | `(tactic| walk_at "sk same") => `(tactic| (intro z9 h9 g9; simp only [List.forall_mem_cons, List.not_mem_nil, false_implies, implies_true, and_true] at h9; simp only [List.contains_cons, List.contains_nil, Bool.or_false, Bool.or_eq_false_iff, beq_eq_false_iff_ne, ne_eq] at g9; simp [kstB, h9, g9]))
local macro_rules | `(tactic| walk_at "sk same2") => `(tactic| (intro z9 k9 h9 g9; simp only [List.forall_mem_cons, List.not_mem_nil, false_implies, implies_true, and_true] at h9; simp only [List.contains_cons, List.contains_nil, Bool.or_false, Bool.or_eq_false_iff, beq_eq_false_iff_ne, ne_eq] at g9; simp [kstB, k9, h9, g9]))
local macro_rules | `(tactic| walk_at "sk pairs") => `(tactic| (simp only [List.forall_mem_cons, List.not_mem_nil, false_implies, implies_true, and_true]; (repeat' (refine And.intro ?_ ?_)) <;> exact rfl))
local macro_rules | `(tactic| walk_at "SPost") => `(tactic| dsimp only [SPost])
local macro_rules | `(tactic| walk_at "FPost") => `(tactic| dsimp only [FPost])
section
variable {w : World} {dp un : Nat} {gd : Option (List Code)} {cn : Str} {cs : Scope} {L a : Addr} {ccd : Value} {cl : List (Str × Addr)} {outer : List Env} {h₀ : Heap} {m : Str → Option Value} {s : Shared} {Q E : Value → Shared → Prop} {news : List (Addr × Obj)}
def r32 (d : List UInt8) (i : Int) : Int :=
  Builtin.bitOr (Builtin.bitOr (Builtin.bitOr ((d.getD i.toNat 0).toNat : Int) (((d.getD (i + 1).toNat 0).toNat : Int) * 2 ^ (8 : Int).toNat)) (((d.getD (i + 2).toNat 0).toNat : Int) * 2 ^ (16 : Int).toNat)) (((d.getD (i + 3).toNat 0).toNat : Int) * 2 ^ (24 : Int).toNat)
theorem read32_spec {d : List UInt8} {t t2 : Tok} {i : Int} (C : Cx w dp un cs outer h₀ s.heap L m news 1)
    (h0 : 0 ≤ i) (h1 : i + 4 ≤ (d.length : Int)) (h2 : d.length ≤ 1000)
    (ret : Same h₀ L m news s Q (fun t => .int (r32 d i) t)) :
    wpAny (model PySem.Challenge.rw_no0405_01.row.prog w) (ktrTop dp un gd cn cs L a ccd cl outer) (call (.ref 101) [.bytes d.toArray t, .int i t2]) Q E s := by
  obtain ⟨⟨A₀, base, B⟩, F, X, N, ⟨p, loose, mean, mg, mb, T⟩, hk, hd, hu⟩ := C
  refine wpAny_call ?_
  k_dflt walk_at "sk enter"
  k_steps
  exact ret _ _ _ (by k_asm) (by k_asm)
end
local macro_rules | `(tactic| walk_at "call ref") => `(tactic| (k_here; (with_reducible show wpAny _ _ (call (Value.ref 101) _) _ _ _); k_dflt (refine' read32_spec ?C ?h0 ?h1 ?h2 ?_; (case C => walk_at "cx"); (case h0 | h1 | h2 => omega)); walk_at "sk ret"))
section
variable {w : World} {dp un : Nat} {gd : Option (List Code)} {cn : Str} {cs : Scope} {L a : Addr} {ccd : Value} {cl : List (Str × Addr)} {outer : List Env} {h₀ : Heap} {m : Str → Option Value} {s : Shared} {Q E : Value → Shared → Prop} {news : List (Addr × Obj)}
def r64 (d : List UInt8) (i : Int) : Int := Builtin.bitOr (r32 d i) (r32 d (i + 4) * 2 ^ (32 : Int).toNat)
theorem read64_spec {d : List UInt8} {t t2 : Tok} {i : Int} (C : Cx w dp un cs outer h₀ s.heap L m news 2)
    (h0 : 0 ≤ i) (h1 : i + 8 ≤ (d.length : Int)) (h2 : d.length ≤ 1000) (hz : r32 d (i + 4) = 0)
    (ret : Same h₀ L m news s Q (fun t => .int (r64 d i) t)) :
    wpAny (model PySem.Challenge.rw_no0405_01.row.prog w) (ktrTop dp un gd cn cs L a ccd cl outer) (call (.ref 108) [.bytes d.toArray t, .int i t2]) Q E s := by
  obtain ⟨⟨A₀, base, B⟩, F, X, N, ⟨p, loose, mean, mg, mb, T⟩, hk, hd, hu⟩ := C
  refine wpAny_call ?_
  k_dflt walk_at "sk enter"
  k_steps
  exact ret _ _ _ (by k_asm) (by k_asm)
theorem tag_spec {d : List UInt8} {t : Tok} (C : Cx w dp un cs outer h₀ s.heap L m news 3)
    (h1 : 8 ≤ (d.length : Int)) (h2 : d.length ≤ 1000) (hz : r32 d ((d.length : Int) - 8 + 4) = 0)
    (ret : Same h₀ L m news s Q (fun t => .int (r64 d ((d.length : Int) - 8)) t)) :
    wpAny (model PySem.Challenge.rw_no0405_01.row.prog w) (ktrTop dp un gd cn cs L a ccd cl outer) (call (.ref 122) [.bytes d.toArray t]) Q E s := by
  obtain ⟨⟨A₀, base, B⟩, F, X, N, ⟨p, loose, mean, mg, mb, T⟩, hk, hd, hu⟩ := C
  refine wpAny_call ?_
  k_dflt walk_at "sk enter"
  k_steps
  exact ret _ _ _ (by k_asm) (by k_asm)
theorem user_spec {d : List UInt8} {t : Tok} (C : Cx w dp un cs outer h₀ s.heap L m news 3)
    (h1 : 8 ≤ (d.length : Int)) (h2 : d.length ≤ 1000)
    (ret : Same h₀ L m news s Q (fun t => .bytes (d.take ((d.length : Int) - 8).toNat).toArray t)) :
    wpAny (model PySem.Challenge.rw_no0405_01.row.prog w) (ktrTop dp un gd cn cs L a ccd cl outer) (call (.ref 115) [.bytes d.toArray t]) Q E s := by
  obtain ⟨⟨A₀, base, B⟩, F, X, N, ⟨p, loose, mean, mg, mb, T⟩, hk, hd, hu⟩ := C
  refine wpAny_call ?_
  k_dflt walk_at "sk enter"
  k_steps
  exact ret _ _ _ (by k_asm) (by k_asm)

/-! the keys: of x only x % 48 is asked -/
def ubk (k : Nat) : List UInt8 := match k % 4 with
  | 0 => [98]
  | 1 => []
  | 2 => [97]
  | _ => [97, 0]
def kb (k : Nat) : List UInt8 := ubk k ++ [UInt8.ofNat (k / 4 % 2), UInt8.ofNat (k / 8 % 3), UInt8.ofNat (k / 24 % 2), 0, 0, 0, 0, 0]
def tg (k : Nat) : Int := (k / 4 % 2 : Nat) + 256 * (k / 8 % 3 : Nat) + 65536 * (k / 24 % 2 : Nat)
theorem kb_len : ∀ k, k < 48 → 8 ≤ (kb k).length ∧ (kb k).length ≤ 10 := by decide +kernel
theorem kb_zero : ∀ k, k < 48 → r32 (kb k) (((kb k).length : Int) - 8 + 4) = 0 := by decide +kernel
theorem kb_tag : ∀ k, k < 48 → r64 (kb k) (((kb k).length : Int) - 8) = tg k := by decide +kernel
theorem kb_user : ∀ k, k < 48 → (kb k).take (((kb k).length : Int) - 8).toNat = ubk k := by decide +kernel
theorem tagK_spec {k : Nat} {t : Tok} (C : Cx w dp un cs outer h₀ s.heap L m news 3) (hk : k < 48)
    (ret : Same h₀ L m news s Q (fun t => .int (tg k) t)) :
    wpAny (model PySem.Challenge.rw_no0405_01.row.prog w) (ktrTop dp un gd cn cs L a ccd cl outer) (call (.ref 122) [.bytes (kb k).toArray t]) Q E s :=
  tag_spec C (by have := (kb_len k hk).1; omega) (by have := (kb_len k hk).2; omega) (kb_zero k hk) (by rw [kb_tag k hk]; exact ret)
theorem userK_spec {k : Nat} {t : Tok} (C : Cx w dp un cs outer h₀ s.heap L m news 3) (hk : k < 48)
    (ret : Same h₀ L m news s Q (fun t => .bytes (ubk k).toArray t)) :
    wpAny (model PySem.Challenge.rw_no0405_01.row.prog w) (ktrTop dp un gd cn cs L a ccd cl outer) (call (.ref 115) [.bytes (kb k).toArray t]) Q E s :=
  user_spec C (by have := (kb_len k hk).1; omega) (by have := (kb_len k hk).2; omega) (by rw [kb_user k hk]; exact ret)
def cmpB (x y : List UInt8) : Int := if (Builtin.Bytes.order x y == .lt) = true then -1 else if (Builtin.Bytes.order x y == .gt) = true then 1 else 0
theorem compB_spec {x y : List UInt8} {o : Value} {t t2 : Tok} (C : Cx w dp un cs outer h₀ s.heap L m news 1)
    (ret : Same h₀ L m news s Q (fun t => .int (cmpB x y) t)) :
    wpAny (model PySem.Challenge.rw_no0405_01.row.prog w) (ktrTop dp un gd cn cs L a ccd cl outer) (call (.ref 136) [o, .bytes x.toArray t, .bytes y.toArray t2]) Q E s := by
  obtain ⟨⟨A₀, base, B⟩, F, X, N, ⟨p, loose, mean, mg, mb, T⟩, hk, hd, hu⟩ := C
  refine wpAny_call ?_
  k_dflt walk_at "sk enter"
  k_steps
  all_goals (refine cb_retI ret ?_ (by k_asm) (by k_asm); unfold cmpB; simp_all)
end
local macro_rules | `(tactic| walk_at "kfit") => `(tactic| first | assumption | omega | fail "kfit")
local macro_rules | `(tactic| walk_at "call ref") => `(tactic| (k_here; (with_reducible show wpAny _ _ (call (Value.ref 122) _) _ _ _); k_dflt (refine' tagK_spec ?C ?hk ?_; (case C => walk_at "cx"); (case hk => walk_at "kfit")); walk_at "sk ret"))
local macro_rules | `(tactic| walk_at "call ref") => `(tactic| (k_here; (with_reducible show wpAny _ _ (call (Value.ref 115) _) _ _ _); k_dflt (refine' userK_spec ?C ?hk ?_; (case C => walk_at "cx"); (case hk => walk_at "kfit")); walk_at "sk ret"))
local macro_rules | `(tactic| walk_at "call ref") => `(tactic| (k_here; (with_reducible show wpAny _ _ (call (Value.ref 136) _) _ _ _); k_dflt (refine' compB_spec ?C ?_; (case C => walk_at "cx")); walk_at "sk ret"))
def cmpI (x y : Nat) : Int := if cmpB (ubk x) (ubk y) ≠ 0 then cmpB (ubk x) (ubk y) else if tg x > tg y then -1 else if tg x < tg y then 1 else 0
def cmpK (i : Bool) (x y : Nat) : Int := if i = true then cmpI x y else cmpB (kb x) (kb y)
/-- an order stands at o -/
def OrdAt (P : Params) (news : List (Addr × Obj)) (i : Bool) (o : Addr) : Prop :=
  if i = true then ∃ d u du t n, (o, instObj 249 d) ∈ news ∧ (d, dictOf [⟨PyData.keyHash P (Str.ofString "user_order"), .str (Str.ofString "user_order") t, .ref u⟩] n) ∈ news ∧ (u, instObj 195 du) ∈ news ∧ (du, dictOf [] 0) ∈ news
  else ∃ d, (o, instObj 195 d) ∈ news ∧ (d, dictOf [] 0) ∈ news
theorem OrdAt.mono {P : Params} {news news' : List (Addr × Obj)} {i : Bool} {o : Addr} (h : OrdAt P news i o) (hs : ∀ p ∈ news, p ∈ news') : OrdAt P news' i o := by
  cases i with
  | true =>
    obtain ⟨d, u, du, t, n, h1, h2, h3, h4⟩ := h
    exact ⟨d, u, du, t, n, hs _ h1, hs _ h2, hs _ h3, hs _ h4⟩
  | false =>
    obtain ⟨d, h1, h2⟩ := h
    exact ⟨d, hs _ h1, hs _ h2⟩
section
variable {w : World} {dp un : Nat} {gd : Option (List Code)} {cn : Str} {cs : Scope} {L a : Addr} {ccd : Value} {cl : List (Str × Addr)} {outer : List Env} {h₀ : Heap} {m : Str → Option Value} {s : Shared} {Q E : Value → Shared → Prop} {news : List (Addr × Obj)}
theorem compI_spec {x y : Nat} {o d u du : Addr} {t t2 t3 : Tok} {n : Nat} (C : Cx w dp un cs outer h₀ s.heap L m news 4) (hx : x < 48) (hy : y < 48)
    (ho : (o, instObj 249 d) ∈ news) (hd : (d, dictOf [⟨PyData.keyHash w.params (Str.ofString "user_order"), .str (Str.ofString "user_order") t3, .ref u⟩] n) ∈ news) (hu : (u, instObj 195 du) ∈ news) (hdu : (du, dictOf [] 0) ∈ news)
    (ret : Same h₀ L m news s Q (fun t => .int (cmpI x y) t)) :
    wpAny (model PySem.Challenge.rw_no0405_01.row.prog w) (ktrTop dp un gd cn cs L a ccd cl outer) (call (.ref 218) [.ref o, .bytes (kb x).toArray t, .bytes (kb y).toArray t2]) Q E s := by
  obtain ⟨⟨A₀, base, B⟩, F, X, N, ⟨p, loose, mean, mg, mb, T⟩, hk, hdp, hun⟩ := C
  refine wpAny_call ?_
  k_dflt walk_at "sk enter"
  k_steps
  all_goals (refine cb_retI ret ?_ (by k_asm) (by k_asm); unfold cmpI; (repeat' split) <;> first | rfl | omega | simp_all)
/-- _law_draw -/
def dr (ns : List Int) (i : Int) : Int := ns.getD (Int.fmod i ns.length).toNat 0 + 31 * Int.fdiv i ns.length
theorem draw_spec {vs : List Value} {ns : List Int} {l : Addr} {n : Nat} {i : Int} {t : Tok} (C : Cx w dp un cs outer h₀ s.heap L m news 1) (hl : (l, listOf vs.toArray n) ∈ news) (hi : IntsAre vs ns) (h1 : 0 < ns.length) (h2 : ns.length ≤ 1000) (h3 : 0 ≤ i)
    (ret : Same h₀ L m news s Q (fun t => .int (dr ns i) t)) :
    wpAny (model PySem.Challenge.rw_no0405_01.row.prog w) (ktrTop dp un gd cn cs L a ccd cl outer) (call (.ref 363) [.ref l, .int i t]) Q E s := by
  obtain ⟨⟨A₀, base, B⟩, F, X, N, ⟨p, loose, mean, mg, mb, T⟩, hk, hdp, hun⟩ := C
  have hv : vs.length = ns.length := hi.length
  refine wpAny_call ?_
  k_dflt walk_at "sk enter"
  k_steps
  exact cb_retI ret (by unfold dr; rw [hv]) (by k_asm) (by k_asm)
theorem users_at {t0 t1 t2 t3 : Tok} {x : Int} (h : 0 ≤ x) : ∃ tk, [Value.bytes [98].toArray t0, Value.bytes [].toArray t1, Value.bytes [97].toArray t2, Value.bytes [97, 0].toArray t3][(x.fmod 4).toNat]? = some (.bytes (ubk (x % 48).toNat).toArray tk) := by
  have e : (x.fmod 4).toNat = (x % 48).toNat % 4 := by rw [Int.fmod_eq_emod_of_nonneg _ (by decide)]; omega
  have h4 : (x % 48).toNat % 4 < 4 := by omega
  rw [e]
  unfold ubk
  generalize (x % 48).toNat % 4 = j at h4
  match j, h4 with
  | 0, _ => exact ⟨_, rfl⟩
  | 1, _ => exact ⟨_, rfl⟩
  | 2, _ => exact ⟨_, rfl⟩
  | 3, _ => exact ⟨_, rfl⟩
theorem ubk_len : ∀ k, (ubk k).length ≤ 2 := by
  intro k
  unfold ubk
  split <;> decide
theorem kb_ints {x : Int} (h : 0 ≤ x) : ubk (x % 48).toNat ++ ([Int.fmod (Int.fdiv x 4) 2, Int.fmod (Int.fdiv x 8) 3, Int.fmod (Int.fdiv x 24) 2, 0, 0, 0, 0, 0].map fun n => n.toNat.toUInt8) = kb (x % 48).toNat := by
  unfold kb
  congr 1
  have e1 : (Int.fmod (Int.fdiv x 4) 2).toNat = (x % 48).toNat / 4 % 2 := by
    rw [Int.fdiv_eq_ediv_of_nonneg _ (by decide), Int.fmod_eq_emod_of_nonneg _ (by decide)]; omega
  have e2 : (Int.fmod (Int.fdiv x 8) 3).toNat = (x % 48).toNat / 8 % 3 := by
    rw [Int.fdiv_eq_ediv_of_nonneg _ (by decide), Int.fmod_eq_emod_of_nonneg _ (by decide)]; omega
  have e3 : (Int.fmod (Int.fdiv x 24) 2).toNat = (x % 48).toNat / 24 % 2 := by
    rw [Int.fdiv_eq_ediv_of_nonneg _ (by decide), Int.fmod_eq_emod_of_nonneg _ (by decide)]; omega
  simp only [List.map_cons, List.map_nil, e1, e2, e3]
  rfl
theorem key_spec {x : Int} {t : Tok} (C : Cx w dp un cs outer h₀ s.heap L m news 2) (h3 : 0 ≤ x)
    (ret : Same h₀ L m news s Q (fun t => .bytes (kb (x % 48).toNat).toArray t)) :
    wpAny (model PySem.Challenge.rw_no0405_01.row.prog w) (ktrTop dp un gd cn cs L a ccd cl outer) (call (.ref 370) [.int x t]) Q E s := by
  obtain ⟨⟨A₀, base, B⟩, F, X, N, ⟨p, loose, mean, mg, mb, T⟩, hk, hdp, hun⟩ := C
  refine wpAny_call ?_
  k_dflt walk_at "sk enter"
  k_steps
  (rename News _ _ _ _ => N1)
  have h4a : 0 ≤ x.fmod 4 := Int.fmod_nonneg_of_pos _ (by decide)
  have h4b : x.fmod 4 < 4 := Int.fmod_lt_of_pos _ (by decide)
  refine item_L N1 (List.Mem.head _) h4a (by omega) (Exists.choose_spec (users_at h3)) ?_
  k_steps
  (rename News _ _ _ _ => N2)
  refine bytes_K (ns := [Int.fmod (Int.fdiv x 4) 2, Int.fmod (Int.fdiv x 8) 3, Int.fmod (Int.fdiv x 24) 2, 0, 0, 0, 0, 0]) (by k_asm) N2 ⟨_, (N2 _ (List.Mem.head _)).1, rfl, _, rfl⟩ (by repeat constructor) ?_ (by rw [sizeLine_eq]; simp) rfl ?_
  · have a1 := Int.fmod_nonneg_of_pos (Int.fdiv x 4) (show (0 : Int) < 2 by decide)
    have a2 := Int.fmod_lt_of_pos (Int.fdiv x 4) (show (0 : Int) < 2 by decide)
    have a3 := Int.fmod_nonneg_of_pos (Int.fdiv x 8) (show (0 : Int) < 3 by decide)
    have a4 := Int.fmod_lt_of_pos (Int.fdiv x 8) (show (0 : Int) < 3 by decide)
    have a5 := Int.fmod_nonneg_of_pos (Int.fdiv x 24) (show (0 : Int) < 2 by decide)
    have a6 := Int.fmod_lt_of_pos (Int.fdiv x 24) (show (0 : Int) < 2 by decide)
    intro n hn
    simp only [List.mem_cons, List.not_mem_nil, or_false] at hn
    omega
  intro h' t' k' F' N' _
  dsimp only
  refine bytes_add_K (by have := ubk_len (x % 48).toNat; simp only [List.size_toArray, List.length_map, List.length_cons, List.length_nil]; omega) (kb_ints h3) ?_
  intro t'' k''
  k_steps
  exact ret _ _ _ (by k_asm) (by walk_at "sk news")
theorem kb_neg : ∀ k, k < 48 → 0 - (((kb k).getD (((kb k).length : Int) - 8).toNat 0).toNat : Int) - 256 * (((kb k).getD (((kb k).length : Int) - 8 + 1).toNat 0).toNat : Int) - 65536 * (((kb k).getD (((kb k).length : Int) - 8 + 2).toNat 0).toNat : Int) = -tg k := by decide +kernel
def rb (i : Bool) (k : Nat) : List UInt8 := if i = true then ubk k else kb k
def ri (i : Bool) (k : Nat) : Int := if i = true then -tg k else 0
theorem rank_spec {i : Bool} {k : Nat} {t : Tok} (C : Cx w dp un cs outer h₀ s.heap L m news 4) (hk48 : k < 48)
    (ret : ∀ l t1 t2 h' tk', Fr h₀ L h' m → News h₀ L h' ((l, tupOf [.bytes (rb i k).toArray t1, .int (ri i k) t2] 0) :: news) → (∀ p ∈ news, p.1 < l) → Q (.ref l) { s with heap := h', toks := tk' }) :
    wpAny (model PySem.Challenge.rw_no0405_01.row.prog w) (ktrTop dp un gd cn cs L a ccd cl outer) (call (.ref 377) [.bytes (kb k).toArray t, .bool i]) Q E s := by
  obtain ⟨⟨A₀, base, B⟩, F, X, N, ⟨p, loose, mean, mg, mb, T⟩, hk, hdp, hun⟩ := C
  have hlen := kb_len k hk48
  cases i with
  | false =>
    refine wpAny_call ?_
    k_dflt walk_at "sk enter"
    k_steps
    exact ret _ _ _ _ _ (by k_asm) (by k_asm) (by k_asm)
  | true =>
    refine wpAny_call ?_
    k_dflt walk_at "sk enter"
    k_steps
    (rename News h₀ _ _ _ => N9)
    rw [kb_user k hk48, kb_neg k hk48] at N9
    exact ret _ _ _ _ _ (by k_asm) N9 (by k_asm)
end
local macro_rules | `(tactic| walk_at "call ref") => `(tactic| (k_here; (with_reducible show wpAny _ _ (call (Value.ref 218) _) _ _ _); k_dflt (refine' compI_spec ?C ?hx ?hy ?ho ?hd ?hu ?hdu ?_; (case C => walk_at "cx"); (case ho | hd | hu | hdu => k_mem); (case hx | hy => walk_at "kfit")); walk_at "sk ret"))
local macro_rules | `(tactic| walk_at "call ref") => `(tactic| (k_here; (with_reducible show wpAny _ _ (call (Value.ref 370) _) _ _ _); k_dflt (refine' key_spec ?C ?h3 ?_; (case C => walk_at "cx"); (case h3 => omega)); walk_at "sk ret"))
local macro_rules | `(tactic| walk_at "call ref") => `(tactic| (k_here; (with_reducible show wpAny _ _ (call (Value.ref 377) _) _ _ _); k_dflt (refine' rank_spec ?C ?hk ?_; (case C => walk_at "cx"); (case hk => walk_at "kfit")); intro l' t1' t2' h' tk' F' N' l1; (try dsimp only); (try k_lt l1); (try k_sweep)))
def rkF : List Nat := [36, 0, 12, 13, 42, 6, 30, 21, 38, 2, 20, 16, 44, 8, 32, 24, 40, 4, 28, 18, 46, 10, 34, 26, 37, 1, 15, 14, 43, 7, 31, 22, 39, 3, 23, 17, 45, 9, 33, 25, 41, 5, 29, 19, 47, 11, 35, 27]
def rkT : List Nat := [47, 11, 23, 35, 46, 10, 22, 34, 45, 9, 21, 33, 44, 8, 20, 32, 43, 7, 19, 31, 42, 6, 18, 30, 41, 5, 17, 29, 40, 4, 16, 28, 39, 3, 15, 27, 38, 2, 14, 26, 37, 1, 13, 25, 36, 0, 12, 24]
/-- the place of a key in its order -/
def rk (i : Bool) (k : Nat) : Nat := if i = true then rkT.getD k 0 else rkF.getD k 0
theorem cmp_rkF : ∀ x, x < 48 → ∀ y, y < 48 → cmpK false x y = if rk false x < rk false y then -1 else if rk false y < rk false x then 1 else 0 := by decide +kernel
theorem cmp_rkT : ∀ x, x < 48 → ∀ y, y < 48 → cmpK true x y = if rk true x < rk true y then -1 else if rk true y < rk true x then 1 else 0 := by decide +kernel
theorem cmp_rk {i : Bool} {x y : Nat} (hx : x < 48) (hy : y < 48) : cmpK i x y = if rk i x < rk i y then -1 else if rk i y < rk i x then 1 else 0 := by
  cases i
  · exact cmp_rkF x hx y hy
  · exact cmp_rkT x hx y hy
theorem rk_injF : ∀ x, x < 48 → ∀ y, y < 48 → rk false x = rk false y → x = y := by decide +kernel
theorem rk_injT : ∀ x, x < 48 → ∀ y, y < 48 → rk true x = rk true y → x = y := by decide +kernel
theorem rk_inj {i : Bool} {x y : Nat} (hx : x < 48) (hy : y < 48) (h : rk i x = rk i y) : x = y := by
  cases i
  · exact rk_injF x hx y hy h
  · exact rk_injT x hx y hy h
theorem kb_injF : ∀ x, x < 48 → ∀ y, y < 48 → kb x = kb y → x = y := by decide +kernel
/-- what a rank compared with a rank comes to -/
def rankLt (i : Bool) (x y : Nat) : Bool := if rb i x = rb i y then decide (ri i x < ri i y) else (Builtin.Bytes.order (rb i x) (rb i y) == .lt)
theorem rank_rkF : ∀ x, x < 48 → ∀ y, y < 48 → rankLt false x y = decide (rk false x < rk false y) := by decide +kernel
theorem rank_rkT : ∀ x, x < 48 → ∀ y, y < 48 → rankLt true x y = decide (rk true x < rk true y) := by decide +kernel
theorem rank_rk {i : Bool} {x y : Nat} (hx : x < 48) (hy : y < 48) : rankLt i x y = decide (rk i x < rk i y) := by
  cases i
  · exact rank_rkF x hx y hy
  · exact rank_rkT x hx y hy
theorem cmp_neg {i : Bool} {x y : Nat} (hx : x < 48) (hy : y < 48) : cmpK i x y < 0 ↔ rk i x < rk i y := by
  rw [cmp_rk hx hy]
  split
  · simp [*]
  · split <;> simp [*]
theorem cmp_zero {i : Bool} {x y : Nat} (hx : x < 48) (hy : y < 48) : cmpK i x y = 0 ↔ x = y := by
  rw [cmp_rk hx hy]
  constructor
  · intro h
    split at h
    · omega
    · split at h
      · omega
      · exact rk_inj (i := i) hx hy (by omega)
  · rintro rfl
    simp
/-! the towers -/
structure Tw where
  a : Addr
  d : Addr
  l : Addr
  k : Nat
  v : UInt8
  h : Nat
def NodeIn (P : Params) (news : List (Addr × Obj)) (a d l : Addr) (kbs vbs : List UInt8) (links : List Value) : Prop :=
  (a, instObj 275 d) ∈ news ∧
  (∃ t1 t2 t3 u1 u2 n, (d, dictOf [⟨PyData.keyHash P (Str.ofString "key"), .str (Str.ofString "key") t1, .bytes kbs.toArray u1⟩, ⟨PyData.keyHash P (Str.ofString "value"), .str (Str.ofString "value") t2, .bytes vbs.toArray u2⟩, ⟨PyData.keyHash P (Str.ofString "links"), .str (Str.ofString "links") t3, .ref l⟩] n) ∈ news) ∧
  ∃ ep, (l, listOf links.toArray ep) ∈ news
theorem NodeIn.mono {P : Params} {news news' : List (Addr × Obj)} {a d l : Addr} {kbs vbs : List UInt8} {links : List Value} (h : NodeIn P news a d l kbs vbs links) (hs : ∀ p ∈ news, p ∈ news') : NodeIn P news' a d l kbs vbs links := by
  obtain ⟨h1, ⟨t1, t2, t3, u1, u2, n, h2⟩, ep, h3⟩ := h
  exact ⟨hs _ h1, ⟨t1, t2, t3, u1, u2, n, hs _ h2⟩, ep, hs _ h3⟩
/-- the first tower taller than j -/
def nxt (j : Nat) : List Tw → Value
  | [] => .none
  | t :: r => if j < t.h then .ref t.a else nxt j r
def lks (h : Nat) (r : List Tw) : List Value := (List.range h).map fun j => nxt j r
theorem lks_at {h j : Nat} {r : List Tw} (hj : j < h) : (lks h r)[j]? = some (nxt j r) := by
  unfold lks
  simp [hj]
theorem lks_len {h : Nat} {r : List Tw} : (lks h r).length = h := by simp [lks]
theorem nxt_cases (j : Nat) : ∀ B : List Tw, (nxt j B = .none ∧ ∀ t ∈ B, t.h ≤ j) ∨ ∃ B1 t B2, B = B1 ++ t :: B2 ∧ (∀ u ∈ B1, u.h ≤ j) ∧ j < t.h ∧ nxt j B = .ref t.a
  | [] => .inl ⟨rfl, fun _ h => nomatch h⟩
  | t :: r => by
    by_cases h : j < t.h
    · exact .inr ⟨[], t, r, rfl, (by intro u hu; cases hu), h, by simp only [nxt, if_pos h]⟩
    · rcases nxt_cases j r with ⟨h1, h2⟩ | ⟨B1, u, B2, rfl, h1, h2, h3⟩
      · refine .inl ⟨by simp only [nxt, if_neg h]; exact h1, fun u hu => ?_⟩
        rcases List.mem_cons.mp hu with rfl | hu
        · omega
        · exact h2 u hu
      · refine .inr ⟨t :: B1, u, B2, rfl, fun x hx => ?_, h2, by simp only [nxt, if_neg h]; exact h3⟩
        rcases List.mem_cons.mp hx with rfl | hx
        · omega
        · exact h1 x hx
def Chain (P : Params) (news : List (Addr × Obj)) : List Tw → Prop
  | [] => True
  | t :: r => NodeIn P news t.a t.d t.l (kb t.k) [t.v] (lks t.h r) ∧ Chain P news r
theorem Chain.mono {P : Params} {news news' : List (Addr × Obj)} (hs : ∀ p ∈ news, p ∈ news') : ∀ {T : List Tw}, Chain P news T → Chain P news' T
  | [], _ => trivial
  | _ :: _, ⟨h, r⟩ => ⟨h.mono hs, Chain.mono hs r⟩
theorem Chain.at {P : Params} {news : List (Addr × Obj)} {t : Tw} {B : List Tw} : ∀ {A : List Tw}, Chain P news (A ++ t :: B) → NodeIn P news t.a t.d t.l (kb t.k) [t.v] (lks t.h B)
  | [], h => h.1
  | _ :: A, h => Chain.at (A := A) h.2
/-- the fixed parts of a skip list -/
structure Sl where
  sa : Addr
  sd : Addr
  o : Addr
  hs : Addr
  ha : Addr
  hd : Addr
  hl : Addr
  most : Nat
  i : Bool
/-- the tallest tower, or 1 -/
def tall : List Tw → Nat
  | [] => 1
  | t :: r => max t.h (tall r)
theorem tall_ge : ∀ {T : List Tw} {t : Tw}, t ∈ T → t.h ≤ tall T
  | u :: r, t, h => by
    rcases List.mem_cons.mp h with rfl | h
    · exact Nat.le_max_left _ _
    · exact Nat.le_trans (tall_ge h) (Nat.le_max_right _ _)
theorem tall_pos : ∀ T : List Tw, 1 ≤ tall T
  | [] => Nat.le_refl _
  | _ :: r => Nat.le_trans (tall_pos r) (Nat.le_max_right _ _)
theorem tall_le {n : Nat} (h1 : 1 ≤ n) : ∀ {T : List Tw}, (∀ t ∈ T, t.h ≤ n) → tall T ≤ n
  | [], _ => h1
  | _ :: _, h => Nat.max_le.mpr ⟨h _ (.head _), tall_le h1 fun t ht => h t (.tail _ ht)⟩
structure SlIn (P : Params) (news : List (Addr × Obj)) (S : Sl) (T : List Tw) : Prop where
  inst : (S.sa, instObj 345 S.sd) ∈ news
  dict : ∃ t1 t2 t3 t4 t5 u1 u2 n, (S.sd, dictOf [⟨PyData.keyHash P (Str.ofString "order"), .str (Str.ofString "order") t1, .ref S.o⟩, ⟨PyData.keyHash P (Str.ofString "heights"), .str (Str.ofString "heights") t2, .ref S.hs⟩, ⟨PyData.keyHash P (Str.ofString "head"), .str (Str.ofString "head") t3, .ref S.ha⟩,
    ⟨PyData.keyHash P (Str.ofString "height"), .str (Str.ofString "height") t4, .int (tall T : Nat) u1⟩, ⟨PyData.keyHash P (Str.ofString "added"), .str (Str.ofString "added") t5, .int (T.length : Nat) u2⟩] n) ∈ news
  ord : OrdAt P news S.i S.o
  head : NodeIn P news S.ha S.hd S.hl [] [] (lks S.most T)
  chain : Chain P news T
  nodup : (S.hl :: T.map (·.l)).Nodup
  sorted : T.Pairwise fun t u => rk S.i t.k < rk S.i u.k
  keys : ∀ t ∈ T, t.k < 48
  hts : ∀ t ∈ T, 1 ≤ t.h ∧ t.h ≤ S.most
  few : T.length ≤ 7
  mostLo : 1 ≤ S.most
  mostHi : S.most ≤ 4
theorem SlIn.mono {P : Params} {news news' : List (Addr × Obj)} {S : Sl} {T : List Tw} (h : SlIn P news S T) (hs : ∀ p ∈ news, p ∈ news') : SlIn P news' S T :=
  { h with inst := hs _ h.inst, dict := (let ⟨t1, t2, t3, t4, t5, u1, u2, n, q⟩ := h.dict; ⟨t1, t2, t3, t4, t5, u1, u2, n, hs _ q⟩), ord := h.ord.mono hs, head := h.head.mono hs, chain := h.chain.mono hs }
/-- where a search stands that has passed A -/
def curA (S : Sl) (A : List Tw) : Addr := match A.getLast? with
  | some t => t.a
  | none => S.ha
def curH (S : Sl) (A : List Tw) : Nat := match A.getLast? with
  | some t => t.h
  | none => S.most
theorem SlIn.cur {P : Params} {news : List (Addr × Obj)} {S : Sl} {T A B : List Tw} (h : SlIn P news S T) (e : T = A ++ B) : ∃ d l kbs vbs, NodeIn P news (curA S A) d l kbs vbs (lks (curH S A) B) := by
  subst e
  rcases List.eq_nil_or_concat A with rfl | ⟨A', t, rfl⟩
  · exact ⟨_, _, _, _, h.head⟩
  · have q := h.chain
    simp only [List.concat_eq_append, List.append_assoc, List.singleton_append] at q
    have q2 := Chain.at (A := A') (t := t) (B := B) q
    refine ⟨t.d, t.l, kb t.k, [t.v], ?_⟩
    unfold curA curH
    simp only [List.concat_eq_append, List.getLast?_append, List.getLast?_singleton, Option.some_or]
    exact q2
/-- the last tower of A that is taller than j, or the head -/
def lastV (S : Sl) (j : Nat) (A : List Tw) : Value := .ref (curA S (A.filter fun t => j < t.h))
def trailV (S : Sl) (A : List Tw) : List Value := (List.range S.most).map fun j => lastV S j A
local macro_rules | `(tactic| walk_at "subscriptTail") => `(tactic| (k_here; (fail_if_success (with_reducible show wpAny _ _ (subscriptTail (PySem.Expr.Name _ _) _ _ _) _ _ _)); k_dflt (refine kba_turn (value' := PySem.Expr.Name (PySem.Str.ofString "a") ⟨0, 0, 0, 0⟩) (fun _ => rfl) ?_)))
local macro_rules | `(tactic| walk_at "subscriptTail Attribute Name ref int") => `(tactic| (k_here; k_dflt (refine kba_turn (value' := PySem.Expr.Name (PySem.Str.ofString "a") ⟨0, 0, 0, 0⟩) (fun _ => rfl) ?_)))
local macro_rules | `(tactic| walk_at "subscriptTail Attribute Constant ref int") => `(tactic| (k_here; k_dflt (refine kba_turn (value' := PySem.Expr.Name (PySem.Str.ofString "a") ⟨0, 0, 0, 0⟩) (fun _ => rfl) ?_)))
local macro_rules | `(tactic| walk_at "subscriptTail Attribute BinOp ref int") => `(tactic| (k_here; k_dflt (refine kba_turn (value' := PySem.Expr.Name (PySem.Str.ofString "a") ⟨0, 0, 0, 0⟩) (fun _ => rfl) ?_)))
local macro_rules | `(tactic| walk_at "subscriptTail Call Constant ref int") => `(tactic| (k_here; k_dflt (refine kba_turn (value' := PySem.Expr.Name (PySem.Str.ofString "a") ⟨0, 0, 0, 0⟩) (fun _ => rfl) ?_)))
local macro_rules | `(tactic| walk_at "subscriptTail Name Name ref int") => `(tactic| (k_here; k_dflt (refine' item_L ?N ?hm ?h0 ?h1 ?hx ?_ ?hs ?hg; (case N => k_asm); (case hm => k_mem); (case h0 | h1 => omega); (case hx => assumption); (case hs => with_unfolding_all rfl); (case hg => (intro _; with_unfolding_all rfl)))))
local macro_rules | `(tactic| walk_at "subscriptTail Name BinOp ref int") => `(tactic| (k_here; k_dflt (refine' item_L ?N ?hm ?h0 ?h1 ?hx ?_ ?hs ?hg; (case N => k_asm); (case hm => k_mem); (case h0 | h1 => omega); (case hx => assumption); (case hs => with_unfolding_all rfl); (case hg => (intro _; with_unfolding_all rfl)))))
local macro_rules | `(tactic| walk_at "subscriptTail Name Constant ref int") => `(tactic| (k_here; k_dflt (first | (refine' item_tupleT ?t ?a ?b ?c ?d ?_; (case t => exact News.isTup (by k_asm) (by k_mem)); (case a | b => decide); (case c | d => rfl); k_whole) | (refine' item_L ?N ?hm ?h0 ?h1 ?hx ?_ ?hs ?hg; (case N => k_asm); (case hm => k_mem); (case h0 | h1 => omega); (case hx => assumption); (case hs => with_unfolding_all rfl); (case hg => (intro _; with_unfolding_all rfl))))))
theorem lastV_stop {S : Sl} {j : Nat} {A1 A2 : List Tw} (h1 : j < curH S A1) (h2 : ∀ t ∈ A2, t.h ≤ j) : lastV S j (A1 ++ A2) = .ref (curA S A1) := by
  unfold lastV
  have e2 : A2.filter (fun t => decide (j < t.h)) = [] := List.filter_eq_nil_iff.mpr fun t ht => by have := h2 t ht; simp; omega
  rw [List.filter_append, e2, List.append_nil]
  congr 1
  rcases List.eq_nil_or_concat A1 with rfl | ⟨A', t, rfl⟩
  · rfl
  · have h3 : j < t.h := by
      unfold curH at h1
      simpa [List.concat_eq_append, List.getLast?_append] using h1
    unfold curA
    simp [List.concat_eq_append, List.filter_append, List.filter_cons, h3]
theorem lastV_none {S : Sl} {j : Nat} {A : List Tw} (h2 : ∀ t ∈ A, t.h ≤ j) : lastV S j A = .ref S.ha := by
  unfold lastV
  have e2 : A.filter (fun t => decide (j < t.h)) = [] := List.filter_eq_nil_iff.mpr fun t ht => by have := h2 t ht; simp; omega
  rw [e2]
  rfl
theorem cur_snoc {S : Sl} {A : List Tw} {t : Tw} : curA S (A ++ [t]) = t.a ∧ curH S (A ++ [t]) = t.h := by
  unfold curA curH
  simp [List.getLast?_append]
theorem split_go {i : Bool} {k : Nat} {A2 B B1 B2 : List Tw} {v : Tw} (e : A2 ++ B = B1 ++ v :: B2) (hB : ∀ u ∈ B, ¬ rk i u.k < rk i k) (hv : rk i v.k < rk i k) : ∃ C2, A2 = B1 ++ v :: C2 ∧ B2 = C2 ++ B := by
  rcases List.append_eq_append_iff.mp e with ⟨a', h1, h2⟩ | ⟨c', h1, h2⟩
  · exact absurd hv (hB v (by rw [h2]; simp))
  · cases c' with
    | nil => exact absurd hv (hB v (by rw [List.nil_append] at h2; rw [← h2]; exact .head _))
    | cons x c' =>
      rw [List.cons_append, List.cons.injEq] at h2
      obtain ⟨rfl, h2⟩ := h2
      exact ⟨c', h1, h2⟩
theorem split_stop {i : Bool} {k : Nat} {A2 B B1 B2 : List Tw} {v : Tw} (e : A2 ++ B = B1 ++ v :: B2) (hA : ∀ u ∈ A2, rk i u.k < rk i k) (hv : ¬ rk i v.k < rk i k) : ∃ C2, B1 = A2 ++ C2 := by
  rcases List.append_eq_append_iff.mp e with ⟨a', h1, h2⟩ | ⟨c', h1, h2⟩
  · exact ⟨a', h1⟩
  · cases c' with
    | nil => exact ⟨[], by rw [h1]; simp⟩
    | cons x c' =>
      rw [List.cons_append, List.cons.injEq] at h2
      obtain ⟨rfl, h2⟩ := h2
      exact absurd (hA v (by rw [h1]; simp)) hv
theorem tb_stop {S : Sl} {lv : Int} {A1 A2 : List Tw} {lst : List Value} (h0 : 0 ≤ lv) (h1 : lv < (curH S A1 : Int)) (h2 : lv < (lst.length : Int)) (hfin : ∀ j : Nat, lv < (j : Int) → j < S.most → lst[j]? = some (lastV S j (A1 ++ A2))) (hn : ∀ u ∈ A2, u.h ≤ lv.toNat) :
    ∀ j : Nat, lv - 1 < (j : Int) → j < S.most → (lst.set lv.toNat (.ref (curA S A1)))[j]? = some (lastV S j (A1 ++ A2)) := by
  intro j hj1 hj2
  by_cases hj : lv.toNat = j
  · subst hj
    rw [List.getElem?_set_self (by omega), lastV_stop (by omega) hn]
  · rw [List.getElem?_set_ne hj]
    exact hfin j (by omega) hj2
structure TbS where
  A1 : List Tw
  A2 : List Tw
  lv : Int
  tok : Tok
  lst : List Value
abbrev tbP (S : Sl) (A : List Tw) (c : TbS) : Prop := c.A1 ++ c.A2 = A ∧ -1 ≤ c.lv ∧ c.lv < (S.most : Int) ∧ c.lv < (curH S c.A1 : Int) ∧ c.lst.length = S.most ∧ ∀ j : Nat, c.lv < (j : Int) → j < S.most → c.lst[j]? = some (lastV S j A)
abbrev tbSize (c : TbS) : Nat := (c.lv + 1).toNat + c.A2.length
abbrev tbLed (tl : Addr) (news : List (Addr × Obj)) (c : TbS) : List (Addr × Obj) := (tl, listOf c.lst.toArray 0) :: news
abbrev tbPs (S : Sl) (c : TbS) : List (Str × Value) := [(Str.ofString "tower", .ref (curA S c.A1)), (Str.ofString "level", .int c.lv c.tok)]
section
variable {g : Heap} {L tl : Addr} {s : Shared} {S : Sl} {A1 A2 : List Tw} {lv : Int} {tok tok2 : Tok} {lst : List Value} {news : List (Addr × Obj)} {m₀ m' : Str → Option Value} {h' : Heap} {tk : Nat}
theorem tb_end_stop (h0 : 0 ≤ lv) (h1 : lv < (S.most : Int)) (h2 : lv < (curH S A1 : Int)) (hlen : lst.length = S.most) (hlt : ∀ p ∈ news, p.1 < tl)
    (stop : ∀ j : Nat, lv - 1 < (j : Int) → j < S.most → (lst.set lv.toNat (.ref (curA S A1)))[j]? = some (lastV S j (A1 ++ A2)))
    (F : Fr g L h' m') (N : News g L h' (updL ((tl, listOf lst.toArray 0) :: news) tl (listOf (lst.set lv.toNat (.ref (curA S A1))).toArray 0)))
    (hp1 : m' (Str.ofString "tower") = some (.ref (curA S A1))) (hp2 : m' (Str.ofString "level") = some (.int (lv - 1) tok2))
    (hr : ∀ x, (∀ p ∈ tbPs S ⟨A1, A2, lv - 1, tok2, lst.set lv.toNat (.ref (curA S A1))⟩, x ≠ p.1) → [Str.ofString "ahead"].contains x = false → m' x = m₀ x) :
    SEnd g L s (tbP S (A1 ++ A2)) tbSize (tbLed tl news) (tbPs S) [Str.ofString "ahead"] m₀ ⟨A1, A2, lv, tok, lst⟩ { s with heap := h', toks := tk } := by
  refine SEnd.intro ⟨A1, A2, lv - 1, tok2, lst.set lv.toNat (.ref (curA S A1))⟩ F N ?_ ?_ hr ⟨rfl, by dsimp only; omega, by dsimp only; omega, by dsimp only; omega, by dsimp only; rw [List.length_set]; exact hlen, stop⟩ (by dsimp only [tbSize]; omega)
  · intro p9 h9
    rcases List.mem_cons.mp h9 with rfl | h9
    · exact updL_self (List.Mem.head _)
    · exact updL_ne (List.Mem.tail _ h9) (Nat.ne_of_lt (hlt _ h9))
  · intro p9 h9
    rcases List.mem_cons.mp h9 with rfl | h9
    · exact hp1
    · rcases List.mem_cons.mp h9 with rfl | h9
      · exact hp2
      · cases h9
theorem tb_end_go {B1 C2 : List Tw} {v : Tw} (h0 : 0 ≤ lv) (h1 : lv < (S.most : Int)) (h3 : lv.toNat < v.h) (hlen : lst.length = S.most)
    (hfin : ∀ j : Nat, lv < (j : Int) → j < S.most → lst[j]? = some (lastV S j (A1 ++ (B1 ++ v :: C2))))
    (F : Fr g L h' m') (N : News g L h' ((tl, listOf lst.toArray 0) :: news))
    (hp1 : m' (Str.ofString "tower") = some (.ref v.a)) (hp2 : m' (Str.ofString "level") = some (.int lv tok2))
    (hr : ∀ x, (∀ p ∈ tbPs S ⟨A1 ++ B1 ++ [v], C2, lv, tok2, lst⟩, x ≠ p.1) → [Str.ofString "ahead"].contains x = false → m' x = m₀ x) :
    SEnd g L s (tbP S (A1 ++ (B1 ++ v :: C2))) tbSize (tbLed tl news) (tbPs S) [Str.ofString "ahead"] m₀ ⟨A1, B1 ++ v :: C2, lv, tok, lst⟩ { s with heap := h', toks := tk } := by
  refine SEnd.intro ⟨A1 ++ B1 ++ [v], C2, lv, tok2, lst⟩ F N (fun _ h => h) ?_ hr ⟨by simp, by dsimp only; omega, by dsimp only; omega, by dsimp only; rw [cur_snoc.2]; omega, hlen, hfin⟩ (by dsimp only [tbSize]; simp; omega)
  intro p9 h9
  rcases List.mem_cons.mp h9 with rfl | h9
  · show _ = some (Value.ref (curA S (A1 ++ B1 ++ [v])))
    rw [cur_snoc.1]
    exact hp1
  · rcases List.mem_cons.mp h9 with rfl | h9
    · exact hp2
    · cases h9
end
section
variable {w : World} {dp un : Nat} {gd : Option (List Code)} {cn : Str} {cs : Scope} {L a : Addr} {ccd : Value} {cl : List (Str × Addr)} {outer : List Env} {h₀ : Heap} {m : Str → Option Value} {s : Shared} {Q E : Value → Shared → Prop} {news n0 : List (Addr × Obj)}
theorem tb_spec {S : Sl} {T A B : List Tw} {k : Nat} {t : Tok} (C : Cx w dp un cs outer h₀ s.heap L m news 6) (SI : SlIn w.params n0 S T) (hs : ∀ p ∈ n0, p ∈ news) (hT : T = A ++ B)
    (hA : ∀ u ∈ A, rk S.i u.k < rk S.i k) (hB : ∀ u ∈ B, ¬ rk S.i u.k < rk S.i k) (hk48 : k < 48)
    (ret : ∀ l h' tk', Fr h₀ L h' m → News h₀ L h' ((l, listOf (trailV S A).toArray 0) :: news) → (∀ p ∈ news, p.1 < l) → Q (.ref l) { s with heap := h', toks := tk' }) :
    wpAny (model PySem.Challenge.rw_no0405_01.row.prog w) (ktrTop dp un gd cn cs L a ccd cl outer) (call (.ref 307) [.ref S.sa, .bytes (kb k).toArray t]) Q E s := by
  obtain ⟨⟨A₀, base, B'⟩, F, X, N, ⟨p, loose, mean, mg, mb, Tp⟩, hk, hdp, hun⟩ := C
  have SI := SI.mono hs
  have hinst := SI.inst
  obtain ⟨t1, t2, t3, t4, t5, u1, u2, n, hdict⟩ := SI.dict
  obtain ⟨hh1, ⟨q1, q2, q3, q4, q5, q6, hh2⟩, ep, hh3⟩ := SI.head
  have hm1 := SI.mostLo
  have hm2 := SI.mostHi
  have hll : (lks S.most T).length = S.most := lks_len
  have htl := tall_le SI.mostLo fun t ht => (SI.hts t ht).2
  have htp := tall_pos T
  refine wpAny_call ?_
  k_dflt walk_at "sk enter"
  k_steps
  rename_i tl h3 l1 h2 h1 hh F1 N1
  have hlt : ∀ p ∈ news, p.1 < tl := ktn_ltOf l1.2
  unfold Stp
  with_unfolding_all
    refine' while_S (σ := TbS)
      (tbP S A) tbSize (tbLed tl news) (tbPs S) [Str.ofString "ahead"]
      ⟨[], A, (tall T : Int) - 1, _, List.replicate S.most (.ref S.ha)⟩ F1 N1 ?hl ?hp ?h0 ?turn ?hE
  case hE => passes_own
  case hl =>
    rw [hll]
    intro p9 h9
    rcases List.mem_cons.mp h9 with rfl | h9
    · exact List.Mem.head _
    · exact .tail _ (.tail _ h9)
  case hp => walk_at "sk pairs"
  case h0 =>
    refine ⟨rfl, by dsimp only; omega, by dsimp only; omega, by show (tall T : Int) - 1 < (S.most : Int); omega, List.length_replicate, fun j hj1 hj2 => ?_⟩
    dsimp only at hj1 ⊢
    rw [List.getElem?_replicate, if_pos hj2, lastV_none]
    intro u hu
    have hu2 : u ∈ T := by rw [hT]; exact List.mem_append.mpr (.inl hu)
    have := tall_ge hu2
    omega
  case turn =>
    rintro ⟨A1, A2, lv, tok, lst⟩ u h tk ⟨he, hlv0, hlv1, hlv2, hlen, hfin⟩ F' N'
    intro qb9
    dsimp only [tbLed, tbPs, kstB] at he hlv0 hlv1 hlv2 hlen hfin F' N' ⊢
    k_fold
    subst he
    obtain ⟨d, l, kbs, vbs, n1, ⟨q1, q2, q3, q4, q5, q6, n2⟩, ep', n3⟩ := SI.cur (A := A1) (B := A2 ++ B) (by rw [hT, List.append_assoc])
    by_cases hlv : 0 ≤ lv
    · have hlk : (lks (curH S A1) (A2 ++ B))[lv.toNat]? = some (nxt lv.toNat (A2 ++ B)) := lks_at (by omega)
      have mk : Mk := trivial
      k_steps
      unfold Stp
      (rename News _ _ _ _ => N8); (rename Fr _ _ _ _ => F8)
      rcases nxt_cases lv.toNat (A2 ++ B) with ⟨e1, e2⟩ | ⟨B1, v, B2, e1, e2, e3, e4⟩
      · have stop : ∀ j : Nat, lv - 1 < (j : Int) → j < S.most → (lst.set lv.toNat (.ref (curA S A1)))[j]? = some (lastV S j (A1 ++ A2)) :=
          tb_stop hlv (by omega) (by omega) hfin fun u hu => e2 u (List.mem_append.mpr (.inl hu))
        rw [e1] at F8
        k_steps
        exact tb_end_stop hlv hlv1 hlv2 hlen hlt stop (by k_asm) (by k_asm) (by exact rfl) (by exact rfl) (by walk_at "sk same")
      · rw [e4] at F8
        have hv : v ∈ T := by
          rw [hT, List.append_assoc, e1]
          simp
        have hvk := SI.keys v hv
        obtain ⟨A', r, hcut⟩ := List.append_of_mem hv
        obtain ⟨v1, ⟨r1, r2, r3, r4, r5, r6, v2⟩, ep2, v3⟩ := Chain.at (A := A') (t := v) (B := r) (by rw [← hcut]; exact SI.chain)
        have hcmp : cmpK S.i v.k k < 0 ↔ rk S.i v.k < rk S.i k := cmp_neg hvk hk48
        walk1
        refine join_test (decide (rk S.i v.k < rk S.i k)) s F8 N8 ?first ?second
        case first =>
          k_fold
          have hord := SI.ord
          cases hi : S.i with
          | false =>
            have hc2 : cmpK S.i v.k k = cmpB (kb v.k) (kb k) := by simp [cmpK, hi]
            rw [hi] at hord
            simp only [OrdAt, Bool.false_eq_true, if_false] at hord
            obtain ⟨d0, o1, o2⟩ := hord
            k_steps
            all_goals exact TestI.intro (by first | exact (decide_eq_true (hcmp.mp (by omega))).symm | exact (decide_eq_false (mt hcmp.mpr (by omega))).symm) (by k_asm) (by k_asm)
          | true =>
            have hc2 : cmpK S.i v.k k = cmpI v.k k := by simp [cmpK, hi]
            rw [hi] at hord
            simp only [OrdAt, if_true] at hord
            obtain ⟨d0, u0, du0, t0, n00, o1, o2, o3, o4⟩ := hord
            k_steps
            all_goals exact TestI.intro (by first | exact (decide_eq_true (hcmp.mp (by omega))).symm | exact (decide_eq_false (mt hcmp.mpr (by omega))).symm) (by k_asm) (by k_asm)
        case second =>
          intro h9 tk9 F9 N9
          clear F8 N8
          by_cases hlt2 : rk S.i v.k < rk S.i k
          · obtain ⟨C2, rfl, rfl⟩ := split_go e1 hB hlt2
            rw [decide_eq_true hlt2]
            k_steps
            exact tb_end_go hlv hlv1 e3 hlen hfin (by k_asm) (by k_asm) (by exact rfl) (by exact rfl) (by walk_at "sk same")
          · obtain ⟨C2, hC2⟩ := split_stop e1 (fun u hu => hA u (List.mem_append.mpr (.inr hu))) hlt2
            have stop : ∀ j : Nat, lv - 1 < (j : Int) → j < S.most → (lst.set lv.toNat (.ref (curA S A1)))[j]? = some (lastV S j (A1 ++ A2)) :=
              tb_stop hlv (by omega) (by omega) hfin fun u hu => e2 u (by rw [hC2]; exact List.mem_append.mpr (.inl hu))
            rw [decide_eq_false hlt2]
            k_steps
            exact tb_end_stop hlv hlv1 hlv2 hlen hlt stop (by k_asm) (by k_asm) (by exact rfl) (by exact rfl) (by walk_at "sk same")
    · have hlst : lst = trailV S (A1 ++ A2) := by
        apply List.ext_getElem?
        intro j
        by_cases hj : j < S.most
        · rw [hfin j (by omega) hj]
          unfold trailV
          simp [hj]
        · rw [List.getElem?_eq_none (by omega), List.getElem?_eq_none (by unfold trailV; simp; omega)]
      k_steps
      (rename News h₀ _ _ _ => N9)
      rw [hlst] at N9
      exact ret _ _ _ (by k_asm) N9 hlt
end
local macro_rules | `(tactic| walk_at "call ref") => `(tactic| (k_here; (with_reducible show wpAny _ _ (call (Value.ref 307) _) _ _ _); k_dflt (refine' tb_spec ?C (by assumption) ?hs (by assumption) (by assumption) (by assumption) ?hk ?_; (case C => walk_at "cx"); (case hs => walk_at "sk sub2"); (case hk => walk_at "kfit")); intro l' h' tk' F' N' l1; (try dsimp only); (try k_lt l1); (try k_sweep)))
def foundV (S : Sl) (A : List Tw) : Value := match A.getLast? with
  | some t => .ref t.a
  | none => .none
theorem found_snoc {S : Sl} {A : List Tw} {t : Tw} : foundV S (A ++ [t]) = .ref t.a := by
  unfold foundV
  simp [List.getLast?_append]
structure BfS where
  A1 : List Tw
  A2 : List Tw
  lv : Int
  tok : Tok
abbrev bfP (S : Sl) (A : List Tw) (c : BfS) : Prop := c.A1 ++ c.A2 = A ∧ -1 ≤ c.lv ∧ c.lv < (S.most : Int) ∧ c.lv < (curH S c.A1 : Int) ∧ ∀ t ∈ c.A2, (t.h : Int) ≤ c.lv + 1
abbrev bfSize (c : BfS) : Nat := (c.lv + 1).toNat + c.A2.length
abbrev bfPs (S : Sl) (c : BfS) : List (Str × Value) := [(Str.ofString "tower", .ref (curA S c.A1)), (Str.ofString "level", .int c.lv c.tok), (Str.ofString "found", foundV S c.A1)]
section
variable {g : Heap} {L : Addr} {s : Shared} {S : Sl} {A1 A2 : List Tw} {lv : Int} {tok tok2 : Tok} {news : List (Addr × Obj)} {m₀ m' : Str → Option Value} {h' : Heap} {tk : Nat}
theorem bf_end_stop (h0 : 0 ≤ lv) (h1 : lv < (S.most : Int)) (h2 : lv < (curH S A1 : Int)) (stop : ∀ t ∈ A2, t.h ≤ lv.toNat)
    (F : Fr g L h' m') (N : News g L h' news)
    (hp1 : m' (Str.ofString "tower") = some (.ref (curA S A1))) (hp2 : m' (Str.ofString "level") = some (.int (lv - 1) tok2)) (hp3 : m' (Str.ofString "found") = some (foundV S A1))
    (hr : ∀ x, (∀ p ∈ bfPs S ⟨A1, A2, lv - 1, tok2⟩, x ≠ p.1) → [Str.ofString "ahead"].contains x = false → m' x = m₀ x) :
    SEnd g L s (bfP S (A1 ++ A2)) bfSize (fun _ => news) (bfPs S) [Str.ofString "ahead"] m₀ ⟨A1, A2, lv, tok⟩ { s with heap := h', toks := tk } := by
  refine SEnd.intro ⟨A1, A2, lv - 1, tok2⟩ F N (fun _ h => h) ?_ hr ⟨rfl, by dsimp only; omega, by dsimp only; omega, by dsimp only; omega, fun t ht => by have := stop t ht; dsimp only; omega⟩ (by dsimp only [bfSize]; omega)
  intro p9 h9
  rcases List.mem_cons.mp h9 with rfl | h9
  · exact hp1
  · rcases List.mem_cons.mp h9 with rfl | h9
    · exact hp2
    · rcases List.mem_cons.mp h9 with rfl | h9
      · exact hp3
      · cases h9
theorem bf_end_go {B1 C2 : List Tw} {v : Tw} (h0 : 0 ≤ lv) (h1 : lv < (S.most : Int)) (h3 : lv.toNat < v.h) (hh : ∀ t ∈ B1 ++ v :: C2, (t.h : Int) ≤ lv + 1)
    (F : Fr g L h' m') (N : News g L h' news)
    (hp1 : m' (Str.ofString "tower") = some (.ref v.a)) (hp2 : m' (Str.ofString "level") = some (.int lv tok2)) (hp3 : m' (Str.ofString "found") = some (.ref v.a))
    (hr : ∀ x, (∀ p ∈ bfPs S ⟨A1 ++ B1 ++ [v], C2, lv, tok2⟩, x ≠ p.1) → [Str.ofString "ahead"].contains x = false → m' x = m₀ x) :
    SEnd g L s (bfP S (A1 ++ (B1 ++ v :: C2))) bfSize (fun _ => news) (bfPs S) [Str.ofString "ahead"] m₀ ⟨A1, B1 ++ v :: C2, lv, tok⟩ { s with heap := h', toks := tk } := by
  refine SEnd.intro ⟨A1 ++ B1 ++ [v], C2, lv, tok2⟩ F N (fun _ h => h) ?_ hr ⟨by simp, by dsimp only; omega, by dsimp only; omega, by dsimp only; rw [cur_snoc.2]; omega, fun t ht => hh t (List.mem_append.mpr (.inr (.tail _ ht)))⟩ (by dsimp only [bfSize]; simp; omega)
  intro p9 h9
  rcases List.mem_cons.mp h9 with rfl | h9
  · show _ = some (Value.ref (curA S (A1 ++ B1 ++ [v])))
    rw [cur_snoc.1]
    exact hp1
  · rcases List.mem_cons.mp h9 with rfl | h9
    · exact hp2
    · rcases List.mem_cons.mp h9 with rfl | h9
      · show _ = some (foundV S (A1 ++ B1 ++ [v]))
        rw [found_snoc]
        exact hp3
      · cases h9
end
section
variable {w : World} {dp un : Nat} {gd : Option (List Code)} {cn : Str} {cs : Scope} {L a : Addr} {ccd : Value} {cl : List (Str × Addr)} {outer : List Env} {h₀ : Heap} {m : Str → Option Value} {s : Shared} {Q E : Value → Shared → Prop} {news n0 : List (Addr × Obj)}
theorem before_spec {S : Sl} {T A B : List Tw} {k : Nat} {t : Tok} (C : Cx w dp un cs outer h₀ s.heap L m news 6) (SI : SlIn w.params n0 S T) (hs : ∀ p ∈ n0, p ∈ news) (hT : T = A ++ B)
    (hA : ∀ u ∈ A, rk S.i u.k < rk S.i k) (hB : ∀ u ∈ B, ¬ rk S.i u.k < rk S.i k) (hk48 : k < 48)
    (ret : ∀ h' tk', Fr h₀ L h' m → News h₀ L h' news → Q (foundV S A) { s with heap := h', toks := tk' }) :
    wpAny (model PySem.Challenge.rw_no0405_01.row.prog w) (ktrTop dp un gd cn cs L a ccd cl outer) (call (.ref 335) [.ref S.sa, .bytes (kb k).toArray t]) Q E s := by
  obtain ⟨⟨A₀, base, B'⟩, F, X, N, ⟨p, loose, mean, mg, mb, Tp⟩, hk, hdp, hun⟩ := C
  have SI := SI.mono hs
  have hinst := SI.inst
  obtain ⟨t1, t2, t3, t4, t5, u1, u2, n, hdict⟩ := SI.dict
  obtain ⟨hh1, ⟨q1, q2, q3, q4, q5, q6, hh2⟩, ep, hh3⟩ := SI.head
  have hm1 := SI.mostLo
  have hm2 := SI.mostHi
  have htl := tall_le SI.mostLo fun t ht => (SI.hts t ht).2
  have htp := tall_pos T
  refine wpAny_call ?_
  k_dflt walk_at "sk enter"
  k_steps
  (rename Fr _ _ _ _ => F1); (rename News _ _ _ _ => N1)
  unfold Stp
  with_unfolding_all
    refine' while_S (σ := BfS) (bfP S A) bfSize (fun _ => news) (bfPs S) [Str.ofString "ahead"]
        ⟨[], A, (tall T : Int) - 1, _⟩ F1 N1 (fun _ h => h) ?hp ?h0 ?turn ?hE
  case hE => passes_own
  case hp => walk_at "sk pairs"
  case h0 =>
    refine ⟨rfl, by dsimp only; omega, by dsimp only; omega, by show (tall T : Int) - 1 < (S.most : Int); omega, fun u hu => ?_⟩
    have hu2 : u ∈ T := by rw [hT]; exact List.mem_append.mpr (.inl hu)
    have := tall_ge hu2
    dsimp only
    omega
  case turn =>
    rintro ⟨A1, A2, lv, tok⟩ u h tk ⟨he, hlv0, hlv1, hlv2, hfin⟩ F' N'
    intro qb9
    dsimp only [bfPs, kstB] at he hlv0 hlv1 hlv2 hfin F' N' ⊢
    k_fold
    subst he
    obtain ⟨d, l, kbs, vbs, n1, ⟨q1, q2, q3, q4, q5, q6, n2⟩, ep', n3⟩ := SI.cur (A := A1) (B := A2 ++ B) (by rw [hT, List.append_assoc])
    by_cases hlv : 0 ≤ lv
    · have hlk : (lks (curH S A1) (A2 ++ B))[lv.toNat]? = some (nxt lv.toNat (A2 ++ B)) := lks_at (by omega)
      have mk : Mk := trivial
      k_steps
      unfold Stp
      (rename News _ _ _ _ => N8); (rename Fr _ _ _ _ => F8)
      rcases nxt_cases lv.toNat (A2 ++ B) with ⟨e1, e2⟩ | ⟨B1, v, B2, e1, e2, e3, e4⟩
      · have stop : ∀ t ∈ A2, t.h ≤ lv.toNat := fun u hu => e2 u (List.mem_append.mpr (.inl hu))
        rw [e1] at F8
        k_steps
        exact bf_end_stop hlv hlv1 hlv2 stop (by k_asm) (by k_asm) (by exact rfl) (by exact rfl) (by exact rfl) (by walk_at "sk same")
      · rw [e4] at F8
        have hv : v ∈ T := by
          rw [hT, List.append_assoc, e1]
          simp
        have hvk := SI.keys v hv
        obtain ⟨A', r, hcut⟩ := List.append_of_mem hv
        obtain ⟨v1, ⟨r1, r2, r3, r4, r5, r6, v2⟩, ep2, v3⟩ := Chain.at (A := A') (t := v) (B := r) (by rw [← hcut]; exact SI.chain)
        have hcmp : cmpK S.i v.k k < 0 ↔ rk S.i v.k < rk S.i k := cmp_neg hvk hk48
        walk1
        refine join_test (decide (rk S.i v.k < rk S.i k)) s F8 N8 ?first ?second
        case first =>
          k_fold
          have hord := SI.ord
          cases hi : S.i with
          | false =>
            have hc2 : cmpK S.i v.k k = cmpB (kb v.k) (kb k) := by simp [cmpK, hi]
            rw [hi] at hord
            simp only [OrdAt, Bool.false_eq_true, if_false] at hord
            obtain ⟨d0, o1, o2⟩ := hord
            k_steps
            all_goals exact TestI.intro (by first | exact (decide_eq_true (hcmp.mp (by omega))).symm | exact (decide_eq_false (mt hcmp.mpr (by omega))).symm) (by k_asm) (by k_asm)
          | true =>
            have hc2 : cmpK S.i v.k k = cmpI v.k k := by simp [cmpK, hi]
            rw [hi] at hord
            simp only [OrdAt, if_true] at hord
            obtain ⟨d0, u0, du0, t0, n00, o1, o2, o3, o4⟩ := hord
            k_steps
            all_goals exact TestI.intro (by first | exact (decide_eq_true (hcmp.mp (by omega))).symm | exact (decide_eq_false (mt hcmp.mpr (by omega))).symm) (by k_asm) (by k_asm)
        case second =>
          intro h9 tk9 F9 N9
          clear F8 N8
          by_cases hlt2 : rk S.i v.k < rk S.i k
          · obtain ⟨C2, rfl, rfl⟩ := split_go e1 hB hlt2
            rw [decide_eq_true hlt2]
            k_steps
            exact bf_end_go hlv hlv1 e3 hfin (by k_asm) (by k_asm) (by exact rfl) (by exact rfl) (by exact rfl) (by walk_at "sk same")
          · obtain ⟨C2, hC2⟩ := split_stop e1 (fun u hu => hA u (List.mem_append.mpr (.inr hu))) hlt2
            have stop : ∀ t ∈ A2, t.h ≤ lv.toNat := fun u hu => e2 u (by rw [hC2]; exact List.mem_append.mpr (.inl hu))
            rw [decide_eq_false hlt2]
            k_steps
            exact bf_end_stop hlv hlv1 hlv2 stop (by k_asm) (by k_asm) (by exact rfl) (by exact rfl) (by exact rfl) (by walk_at "sk same")
    · have hA2 : A2 = [] := by
        cases A2 with
        | nil => rfl
        | cons x r =>
          have q1 := hfin x (.head _)
          have q2 := (SI.hts x (by rw [hT]; simp)).1
          omega
      subst hA2
      rw [List.append_nil] at ret
      k_steps
      exact ret _ _ (by k_asm) (by k_asm)
theorem last_spec {S : Sl} {T : List Tw} (C : Cx w dp un cs outer h₀ s.heap L m news 6) (SI : SlIn w.params n0 S T) (hs : ∀ p ∈ n0, p ∈ news)
    (ret : ∀ h' tk', Fr h₀ L h' m → News h₀ L h' news → Q (foundV S T) { s with heap := h', toks := tk' }) :
    wpAny (model PySem.Challenge.rw_no0405_01.row.prog w) (ktrTop dp un gd cn cs L a ccd cl outer) (call (.ref 342) [.ref S.sa]) Q E s := by
  obtain ⟨⟨A₀, base, B'⟩, F, X, N, ⟨p, loose, mean, mg, mb, Tp⟩, hk, hdp, hun⟩ := C
  have SI := SI.mono hs
  have hinst := SI.inst
  obtain ⟨t1, t2, t3, t4, t5, u1, u2, n, hdict⟩ := SI.dict
  obtain ⟨hh1, ⟨q1, q2, q3, q4, q5, q6, hh2⟩, ep, hh3⟩ := SI.head
  have hm1 := SI.mostLo
  have hm2 := SI.mostHi
  have htl := tall_le SI.mostLo fun t ht => (SI.hts t ht).2
  have htp := tall_pos T
  refine wpAny_call ?_
  k_dflt walk_at "sk enter"
  k_steps
  (rename Fr _ _ _ _ => F1); (rename News _ _ _ _ => N1)
  unfold Stp
  with_unfolding_all
    refine' while_S (σ := BfS) (bfP S T) bfSize (fun _ => news) (bfPs S) [Str.ofString "ahead"]
        ⟨[], T, (tall T : Int) - 1, _⟩ F1 N1 (fun _ h => h) ?hp ?h0 ?turn ?hE
  case hE => passes_own
  case hp => walk_at "sk pairs"
  case h0 =>
    refine ⟨rfl, by dsimp only; omega, by dsimp only; omega, by show (tall T : Int) - 1 < (S.most : Int); omega, fun u hu => ?_⟩
    have : u.h ≤ tall T := tall_ge hu
    dsimp only
    omega
  case turn =>
    rintro ⟨A1, A2, lv, tok⟩ u h tk ⟨he, hlv0, hlv1, hlv2, hfin⟩ F' N'
    intro qb9
    dsimp only [bfPs, kstB] at he hlv0 hlv1 hlv2 hfin F' N' ⊢
    k_fold
    subst he
    obtain ⟨d, l, kbs, vbs, n1, ⟨q1, q2, q3, q4, q5, q6, n2⟩, ep', n3⟩ := SI.cur (A := A1) (B := A2) rfl
    by_cases hlv : 0 ≤ lv
    · have hlk : (lks (curH S A1) A2)[lv.toNat]? = some (nxt lv.toNat A2) := lks_at (by omega)
      rcases nxt_cases lv.toNat A2 with ⟨e1, e2⟩ | ⟨B1, v, B2, rfl, e2, e3, e4⟩
      · rw [e1] at hlk
        k_steps
        exact bf_end_stop hlv hlv1 hlv2 e2 (by k_asm) (by k_asm) (by exact rfl) (by exact rfl) (by exact rfl) (by walk_at "sk same")
      · rw [e4] at hlk
        k_steps
        exact bf_end_go hlv hlv1 e3 hfin (by k_asm) (by k_asm) (by exact rfl) (by exact rfl) (by exact rfl) (by walk_at "sk same")
    · have hA2 : A2 = [] := by
        cases A2 with
        | nil => rfl
        | cons x r =>
          have q1 := hfin x (.head _)
          have q2 := (SI.hts x (by simp)).1
          omega
      subst hA2
      rw [List.append_nil] at ret
      k_steps
      exact ret _ _ (by k_asm) (by k_asm)
end
local macro_rules | `(tactic| walk_at "call ref") => `(tactic| (k_here; (with_reducible show wpAny _ _ (call (Value.ref 335) _) _ _ _); k_dflt (refine' before_spec ?C (by assumption) ?hs (by assumption) (by assumption) (by assumption) ?hk ?_; (case C => walk_at "cx"); (case hs => walk_at "sk sub2"); (case hk => walk_at "kfit")); walk_at "sk ret4"))
local macro_rules | `(tactic| walk_at "call ref") => `(tactic| (k_here; (with_reducible show wpAny _ _ (call (Value.ref 342) _) _ _ _); k_dflt (refine' last_spec ?C (by assumption) ?hs ?_; (case C => walk_at "cx"); (case hs => walk_at "sk sub2")); walk_at "sk ret4"))
/-- v is the row of the tower t -/
def RowIs (news : List (Addr × Obj)) (v : Value) (t : Tw) : Prop := ∃ a t1 t2 t3 n, v = .ref a ∧ (a, tupOf [.bytes (kb t.k).toArray t1, .bytes [t.v].toArray t2, .int (t.h : Nat) t3] n) ∈ news
def RowsAre (news : List (Addr × Obj)) : List Value → List Tw → Prop
  | [], [] => True
  | v :: vs, t :: ts => RowIs news v t ∧ RowsAre news vs ts
  | _, _ => False
theorem RowIs.mono {news news' : List (Addr × Obj)} {v : Value} {t : Tw} (h : RowIs news v t) (hs : ∀ p ∈ news, p ∈ news') : RowIs news' v t := by
  obtain ⟨a, t1, t2, t3, n, rfl, hm⟩ := h
  exact ⟨a, t1, t2, t3, n, rfl, hs _ hm⟩
theorem RowsAre.mono {news news' : List (Addr × Obj)} (hs : ∀ p ∈ news, p ∈ news') : ∀ {vs : List Value} {ts : List Tw}, RowsAre news vs ts → RowsAre news' vs ts
  | [], [], _ => trivial
  | _ :: _, _ :: _, h => ⟨h.1.mono hs, RowsAre.mono hs h.2⟩
  | [], _ :: _, h => h.elim
  | _ :: _, [], h => h.elim
theorem RowsAre.length {news : List (Addr × Obj)} : ∀ {vs : List Value} {ts : List Tw}, RowsAre news vs ts → vs.length = ts.length
  | [], [], _ => rfl
  | _ :: _, _ :: _, h => by rw [List.length_cons, List.length_cons, RowsAre.length h.2]
  | [], _ :: _, h => h.elim
  | _ :: _, [], h => h.elim
theorem RowsAre.append {news : List (Addr × Obj)} : ∀ {vs : List Value} {ts : List Tw} {ws : List Value} {us : List Tw}, RowsAre news vs ts → RowsAre news ws us → RowsAre news (vs ++ ws) (ts ++ us)
  | [], [], _, _, _, k => k
  | _ :: _, _ :: _, _, _, h, k => ⟨h.1, RowsAre.append h.2 k⟩
  | [], _ :: _, _, _, h, _ => h.elim
  | _ :: _, [], _, _, h, _ => h.elim
theorem RowsAre.take {news : List (Addr × Obj)} : ∀ {vs : List Value} {ts : List Tw} (n : Nat), RowsAre news vs ts → RowsAre news (vs.take n) (ts.take n)
  | _, _, 0, _ => by simp [RowsAre]
  | [], [], _ + 1, _ => trivial
  | _ :: _, _ :: _, n + 1, h => ⟨h.1, RowsAre.take n h.2⟩
  | [], _ :: _, _ + 1, h => h.elim
  | _ :: _, [], _ + 1, h => h.elim
theorem RowsAre.drop {news : List (Addr × Obj)} : ∀ {vs : List Value} {ts : List Tw} (n : Nat), RowsAre news vs ts → RowsAre news (vs.drop n) (ts.drop n)
  | _, _, 0, h => h
  | [], [], _ + 1, _ => trivial
  | _ :: _, _ :: _, n + 1, h => RowsAre.drop n h.2
  | [], _ :: _, _ + 1, h => h.elim
  | _ :: _, [], _ + 1, h => h.elim
theorem RowsAre.at {news : List (Addr × Obj)} : ∀ {vs : List Value} {ts : List Tw} {i : Nat} {v : Value}, RowsAre news vs ts → vs[i]? = some v → ∃ t, ts[i]? = some t ∧ RowIs news v t
  | [], [], _, _, _, e => by simp at e
  | _ :: _, t :: _, 0, _, h, e => by
    simp only [List.getElem?_cons_zero, Option.some.injEq] at e
    exact ⟨t, rfl, e ▸ h.1⟩
  | _ :: _, _ :: _, i + 1, _, h, e => by
    simp only [List.getElem?_cons_succ] at e ⊢
    exact RowsAre.at h.2 e
  | [], _ :: _, _, _, h, _ => h.elim
  | _ :: _, [], _, _, h, _ => h.elim
section
variable {w : World} {dp un : Nat} {gd : Option (List Code)} {cn : Str} {cs : Scope} {L a : Addr} {ccd : Value} {cl : List (Str × Addr)} {outer : List Env} {h₀ : Heap} {m : Str → Option Value} {s : Shared} {Q E : Value → Shared → Prop} {news n0 : List (Addr × Obj)}
theorem first_spec {S : Sl} {T : List Tw} (C : Cx w dp un cs outer h₀ s.heap L m news 6) (SI : SlIn w.params n0 S T) (hs : ∀ p ∈ n0, p ∈ news)
    (ret : ∀ h' tk', Fr h₀ L h' m → News h₀ L h' news → Q (nxt 0 T) { s with heap := h', toks := tk' }) :
    wpAny (model PySem.Challenge.rw_no0405_01.row.prog w) (ktrTop dp un gd cn cs L a ccd cl outer) (call (.ref 321) [.ref S.sa]) Q E s := by
  obtain ⟨⟨A₀, base, B'⟩, F, X, N, ⟨p, loose, mean, mg, mb, Tp⟩, hk, hdp, hun⟩ := C
  have SI := SI.mono hs
  have hinst := SI.inst
  obtain ⟨t1, t2, t3, t4, t5, u1, u2, n, hdict⟩ := SI.dict
  obtain ⟨hh1, ⟨q1, q2, q3, q4, q5, q6, hh2⟩, ep, hh3⟩ := SI.head
  have hm1 := SI.mostLo
  have hlk : (lks S.most T)[0]? = some (nxt 0 T) := lks_at (by omega)
  refine wpAny_call ?_
  k_dflt walk_at "sk enter"
  k_steps
  exact ret _ _ (by k_asm) (by k_asm)
theorem curH_pos {P : Params} {S : Sl} {T A B : List Tw} (SI : SlIn P n0 S T) (hT : T = A ++ B) : 0 < curH S A := by
  unfold curH
  cases e : A.getLast? with
  | none => have := SI.mostLo; dsimp only; omega
  | some t =>
    have ht : t ∈ T := by rw [hT]; exact List.mem_append.mpr (.inl (List.mem_of_getLast? e))
    exact (SI.hts t ht).1
theorem lastV_zero {P : Params} {S : Sl} {T A B : List Tw} (SI : SlIn P n0 S T) (hT : T = A ++ B) : lastV S 0 A = .ref (curA S A) := by
  unfold lastV
  congr 2
  apply List.filter_eq_self.mpr
  intro t ht
  have := (SI.hts t (by rw [hT]; exact List.mem_append.mpr (.inl ht))).1
  simp
  omega
theorem seek_spec {S : Sl} {T A B : List Tw} {k : Nat} {t : Tok} (C : Cx w dp un cs outer h₀ s.heap L m news 8) (SI : SlIn w.params n0 S T) (hs : ∀ p ∈ n0, p ∈ news) (hT : T = A ++ B)
    (hA : ∀ u ∈ A, rk S.i u.k < rk S.i k) (hB : ∀ u ∈ B, ¬ rk S.i u.k < rk S.i k) (hk48 : k < 48)
    (ret : ∀ h' tk', Fr h₀ L h' m → News h₀ L h' news → Q (nxt 0 B) { s with heap := h', toks := tk' }) :
    wpAny (model PySem.Challenge.rw_no0405_01.row.prog w) (ktrTop dp un gd cn cs L a ccd cl outer) (call (.ref 328) [.ref S.sa, .bytes (kb k).toArray t]) Q E s := by
  obtain ⟨⟨A₀, base, B'⟩, F, X, N, ⟨p, loose, mean, mg, mb, Tp⟩, hk, hdp, hun⟩ := C
  have SI := SI.mono hs
  have hinst := SI.inst
  obtain ⟨t1, t2, t3, t4, t5, u1, u2, n, hdict⟩ := SI.dict
  obtain ⟨d, l, kbs, vbs, hh1, ⟨q1, q2, q3, q4, q5, q6, hh2⟩, ep, hh3⟩ := SI.cur hT
  have hm1 := SI.mostLo
  have hpos := curH_pos SI hT
  have hlk : (lks (curH S A) B)[0]? = some (nxt 0 B) := lks_at (by omega)
  have htr : (trailV S A)[0]? = some (Value.ref (curA S A)) := by
    rw [← lastV_zero SI hT]
    unfold trailV
    have : 0 < S.most := by omega
    simp [this]
  refine wpAny_call ?_
  k_dflt walk_at "sk enter"
  k_steps
  (rename News h₀ _ _ _ => N9)
  exact ret _ _ (by k_asm) (fun p hp => N9 p (List.mem_cons_of_mem _ hp))
theorem told_none (C : Cx w dp un cs outer h₀ s.heap L m news 2)
    (ret : ∀ l h' tk', Fr h₀ L h' m → News h₀ L h' ((l, listOf [].toArray 0) :: news) → (∀ p ∈ news, p.1 < l) → Q (.ref l) { s with heap := h', toks := tk' }) :
    wpAny (model PySem.Challenge.rw_no0405_01.row.prog w) (ktrTop dp un gd cn cs L a ccd cl outer) (call (.ref 403) [.none]) Q E s := by
  obtain ⟨⟨A₀, base, B'⟩, F, X, N, ⟨p, loose, mean, mg, mb, Tp⟩, hk, hdp, hun⟩ := C
  refine wpAny_call ?_
  k_dflt walk_at "sk enter"
  k_steps
  exact ret _ _ _ (by k_asm) (by k_asm) (by k_asm)
theorem told_some {S : Sl} {T : List Tw} {t : Tw} (C : Cx w dp un cs outer h₀ s.heap L m news 2) (SI : SlIn w.params n0 S T) (hs : ∀ p ∈ n0, p ∈ news) (ht : t ∈ T)
    (ret : ∀ l tp h' tk' t1 t2 t3, Fr h₀ L h' m → News h₀ L h' ((l, listOf [.ref tp].toArray 0) :: (tp, tupOf [.bytes (kb t.k).toArray t1, .bytes [t.v].toArray t2, .int (t.h : Nat) t3] 0) :: news) → (∀ p ∈ news, p.1 < tp) → tp < l → Q (.ref l) { s with heap := h', toks := tk' }) :
    wpAny (model PySem.Challenge.rw_no0405_01.row.prog w) (ktrTop dp un gd cn cs L a ccd cl outer) (call (.ref 403) [.ref t.a]) Q E s := by
  obtain ⟨⟨A₀, base, B'⟩, F, X, N, ⟨p, loose, mean, mg, mb, Tp⟩, hk, hdp, hun⟩ := C
  have SI := SI.mono hs
  have hm2 := SI.mostHi
  have hth := (SI.hts t ht).2
  obtain ⟨A', r, hcut⟩ := List.append_of_mem ht
  obtain ⟨v1, ⟨r1, r2, r3, r4, r5, r6, v2⟩, ep2, v3⟩ := Chain.at (A := A') (t := t) (B := r) (by rw [← hcut]; exact SI.chain)
  have hll : (lks t.h r).length = t.h := lks_len
  refine wpAny_call ?_
  k_dflt walk_at "sk enter"
  k_steps
  (rename News h₀ _ _ _ => N9)
  rw [hll] at N9
  exact ret _ _ _ _ _ _ _ (by k_asm) N9 (by k_asm) (And.left (b := AllLt _ news) (by assumption))
end
/-! rows compared -/
section
variable {A : Around} {s : Shared} {h₀ : Heap} {L : Addr} {news : List (Addr × Obj)}
theorem bytes_eqAt {b c : Array UInt8} {t u : Tok} : SeqAt.EqAt A s (.bytes b t) (.bytes c u) (b.toList == c.toList) := fun prog w E Q hq => by
  unfold eqBool
  refine wpAny_holding ?_
  refine wpAny_ite_split (fun hab => ?_) (fun _ => ?_)
  · have e := eq_of_beq hab
    injection e with e1 e2
    subst e1
    rw [beq_self_eq_true] at hq
    exact wpAny_bind (wpAny_rule (wpAny_pure hq))
  · exact wpAny_bind (eq_bytes (wpAny_truthy_bool hq))
theorem row_eqAt {v v' : Value} {t : Tw} (N : News h₀ L s.heap news) (h1 : RowIs news v t) (h2 : RowIs news v' t) (hu : A.units < cLine) : SeqAt.EqAt A s v v' true := by
  obtain ⟨a, t1, t2, t3, n, rfl, m1⟩ := h1
  obtain ⟨a', t1', t2', t3', n', rfl, m2⟩ := h2
  by_cases e : a = a'
  · subst e; exact SeqAt.EqAt.same _
  · refine SeqAt.EqAt.of_refs e ?_
    have key := SeqAt.RcAt.tuples (A := A) (s := s) (l := a) (b := a') (items := [Value.bytes (kb t.k).toArray t1, .bytes [t.v].toArray t2, .int (t.h : Nat) t3].toArray) (items2 := [Value.bytes (kb t.k).toArray t1', .bytes [t.v].toArray t2', .int (t.h : Nat) t3'].toArray) (e := fun _ => true)
      ⟨_, (N _ m1).1, rfl, n, rfl⟩ ⟨_, (N _ m2).1, rfl, n', rfl⟩ hu (fun j j1 j2 => ?_)
    · exact key
    · match j, j1 with
      | 0, _ =>
        have q := bytes_eqAt (A := A.in1) (s := s) (b := (kb t.k).toArray) (c := (kb t.k).toArray) (t := t1) (u := t1')
        rw [beq_self_eq_true] at q
        exact q
      | 1, _ =>
        have q := bytes_eqAt (A := A.in1) (s := s) (b := [t.v].toArray) (c := [t.v].toArray) (t := t2) (u := t2')
        rw [beq_self_eq_true] at q
        exact q
      | 2, _ =>
        have q := SeqAt.EqAt.int_int (A := A.in1) (s := s) ((t.h : Nat) : Int) t3 ((t.h : Nat) : Int) t3'
        rw [beq_self_eq_true] at q
        exact q
theorem rows_items {vs ws : List Value} {ts : List Tw} (N : News h₀ L s.heap news) (h1 : RowsAre news vs ts) (h2 : RowsAre news ws ts) (hu : A.units < cLine) :
    ∀ j (j1 : j < vs.toArray.size) (j2 : j < ws.toArray.size), SeqAt.EqAt A s vs.toArray[j] ws.toArray[j] true := by
  intro j j1 j2
  obtain ⟨t, e, r1⟩ := RowsAre.at (i := j) (v := vs.toArray[j]) h1 (by simp)
  obtain ⟨t', e', r2⟩ := RowsAre.at (i := j) (v := ws.toArray[j]) h2 (by simp)
  rw [e] at e'
  cases e'
  exact row_eqAt N r1 r2 hu
end
section
variable {prog : Program} {w : World} {A : Around} {E : Value → Shared → Prop} {s : Shared} {h₀ : Heap} {L D D2 : Addr} {news : List (Addr × Obj)} {vs ws : List Value} {ts : List Tw} {n n2 : Nat} {Q : Value → Shared → Prop}
theorem rows_eq (N : News h₀ L s.heap news) (hm : (D, listOf vs.toArray n) ∈ news) (hm2 : (D2, listOf ws.toArray n2) ∈ news) (h1 : RowsAre news vs ts) (h2 : RowsAre news ws ts) (hu : A.units + 1 < cLine) (h : Q (.bool true) s) :
    wpAny (model prog w) A (compareOp .Eq (.ref D) (.ref D2)) Q E s := by
  refine SeqAt.eq_listAt (items := vs.toArray) (items2 := ws.toArray) (e := fun _ => true) ⟨_, (N _ hm).1, rfl, n, rfl⟩ ⟨_, (N _ hm2).1, rfl, n2, rfl⟩ ?_ (by omega) (rows_items N h1 h2 (by show A.units + 1 < cLine; omega)) ?_
  · rw [List.size_toArray, List.size_toArray, h1.length, h2.length]
  · rw [show (List.range vs.toArray.size).all (fun _ => true) = true by simp]; exact h
theorem rows_ne (N : News h₀ L s.heap news) (hm : (D, listOf vs.toArray n) ∈ news) (hm2 : (D2, listOf ws.toArray n2) ∈ news) (h1 : RowsAre news vs ts) (h2 : RowsAre news ws ts) (hu : A.units + 1 < cLine) (h : Q (.bool false) s) :
    wpAny (model prog w) A (compareOp .NotEq (.ref D) (.ref D2)) Q E s := by
  have key := SeqAt.RcNeAt.lists (A := A) (s := s) (l := D) (b := D2) (items := vs.toArray) (items2 := ws.toArray) (e := fun _ => true) ⟨_, (N _ hm).1, rfl, n, rfl⟩ ⟨_, (N _ hm2).1, rfl, n2, rfl⟩ (by rw [List.size_toArray, List.size_toArray, h1.length, h2.length]) (by omega) (rows_items N h1 h2 (by show A.units + 1 < cLine; omega))
  rw [show (List.range vs.toArray.size).all (fun _ => true) = true by simp] at key
  exact key prog w E Q h
/-- a key among the keys -/
def isB (k : List UInt8) : Value → Bool
  | .bytes b _ => b.toList == k
  | _ => false
theorem keys_in {k : List UInt8} {t : Tok} (N : News h₀ L s.heap news) (hm : (D, listOf vs.toArray n) ∈ news) (hv : ∀ v ∈ vs, ∃ b u, v = .bytes b u) (h : Q (.bool (vs.any (isB k))) s) :
    wpAny (model prog w) A (compareOp .In (.bytes k.toArray t) (.ref D)) Q E s := by
  refine SeqAt.in_listAt (items := vs.toArray) (isB k) ⟨_, (N _ hm).1, rfl, n, rfl⟩ (fun y hy => ?_) (by simpa using h)
  obtain ⟨b, u, rfl⟩ := hv y (by simpa using hy)
  exact bytes_eqAt
def LtAt (A : Around) (s : Shared) (a b : Value) (r : Bool) : Prop :=
  ∀ (prog : Program) (w : World) (E : Value → Shared → Prop) (Q : Value → Shared → Prop), Q (.bool r) s → wpAny (model prog w) A (richCompare .Lt a b) Q E s
theorem LtAt.bytes {b c : Array UInt8} {t u : Tok} : LtAt A s (.bytes b t) (.bytes c u) (Builtin.Bytes.order b.toList c.toList == .lt) := fun prog w E Q h => lt_bytes h
theorem LtAt.int {b c : Int} {t u : Tok} : LtAt A s (.int b t) (.int c u) (decide (b < c)) := fun prog w E Q h => lt_int h
theorem tuple_lt2 (l b : Addr) (x1 x2 y1 y2 : Value) (n n2 : Nat) (e1 e2 r1 r2 : Bool) :
    Meets (Builtin.«tuple.__lt__» ⟨[.ref l, .ref b], []⟩)
      (fun A R s => s.heap.get? l = some { cls := .type "tuple", dict := none, data := .seq [x1, x2].toArray n, slots := #[] } ∧ s.heap.get? b = some { cls := .type "tuple", dict := none, data := .seq [y1, y2].toArray n2, slots := #[] } ∧
        SeqAt.EqAt A.in1 s x1 y1 e1 ∧ SeqAt.EqAt A.in1 s x2 y2 e2 ∧ LtAt A.in1 s x1 y1 r1 ∧ LtAt A.in1 s x2 y2 r2 ∧
        R (.ok (.ret (.bool (if e1 = true then (if e2 = true then false else r2) else r1)))) s) := by
  refine .of_wp fun prog w A R s h => ?_
  obtain ⟨hp, g, d, tk, os⟩ := s; obtain ⟨hl, hb, he1, he2, hr1, hr2, h⟩ := h
  have f2 := AutoSeq1.sub_tuple_tuple
  wp_walk using AutoSeq1.wpAny_loadPart' hl, AutoSeq1.wpAny_loadPart' hb, wpAny_forIn_list _ (fun rest b s' => b.1 = none ∧ s' = ⟨hp, g, d, tk, os⟩ ∧ (rest = [(x1, y1), (x2, y2)] ∨ (rest = [(x2, y2)] ∧ e1 = true) ∨ (rest = [] ∧ e1 = true ∧ e2 = true))) _
  case turn =>
    rintro ⟨y, x⟩ rest b s' ⟨hb', rfl, hz⟩
    rcases hz with hz | ⟨hz, hz2⟩ | ⟨hz, _⟩
    · injection hz with q1 q2
      injection q1 with q3 q4
      subst q3 q4 q2
      refine wpAny_bind (he1 prog w _ _ ?_)
      cases e1 with
      | true =>
        wp_walk
        exact ⟨rfl, rfl, .inr (.inl ⟨rfl, rfl⟩)⟩
      | false =>
        refine bm_if_true rfl ?_
        dsimp only
        refine wpAny_bind (wpAny_rule ?_)
        refine wpAny_bind (hr1 prog w _ _ ?_)
        wp_walk
        exact ⟨_, rfl, by simpa using h⟩
    · injection hz with q1 q2
      injection q1 with q3 q4
      subst q3 q4 q2
      refine wpAny_bind (he2 prog w _ _ ?_)
      cases e2 with
      | true =>
        wp_walk
        exact ⟨rfl, rfl, .inr (.inr ⟨rfl, hz2, rfl⟩)⟩
      | false =>
        refine bm_if_true rfl ?_
        dsimp only
        refine wpAny_bind (wpAny_rule ?_)
        refine wpAny_bind (hr2 prog w _ _ ?_)
        wp_walk
        exact ⟨_, rfl, by simpa [hz2] using h⟩
    · cases hz
  case fin =>
    rintro ⟨b1, b2⟩ s' ⟨hb', rfl, hz⟩
    simp only at hb'
    subst hb'
    rcases hz with hz | ⟨hz, hz2⟩ | ⟨hz, hz1, hz2⟩
    · cases hz
    · cases hz
    · wp_walk
      exact ⟨_, rfl, by simpa [hz1, hz2, Builtin.Tuple.tupleCompareSizes] using h⟩
  case h => exact ⟨rfl, rfl, .inl rfl⟩
theorem rank_lt {i : Bool} {x y : Nat} {a b : Addr} {t1 t2 t3 t4 : Tok} {n n2 : Nat} (N : News h₀ L s.heap news) (ha : (a, tupOf [.bytes (rb i x).toArray t1, .int (ri i x) t2] n) ∈ news) (hb : (b, tupOf [.bytes (rb i y).toArray t3, .int (ri i y) t4] n2) ∈ news)
    (hx : x < 48) (hy : y < 48) (hu : A.units < cLine) (h : Q (.bool (decide (rk i x < rk i y))) s) : wpAny (model prog w) A (compareOp .Lt (.ref a) (.ref b)) Q E s := by
  show wpAny (model prog w) A (richCompare .Lt (.ref a) (.ref b)) Q E s
  have key : (if ((rb i x).toArray.toList == (rb i y).toArray.toList) = true then (if (ri i x == ri i y) = true then false else decide (ri i x < ri i y)) else (Builtin.Bytes.order (rb i x).toArray.toList (rb i y).toArray.toList == .lt)) = decide (rk i x < rk i y) := by
    rw [← rank_rk hx hy]
    unfold rankLt
    simp only [List.toList_toArray, beq_iff_eq]
    split
    · split
      · rename_i e1 e2
        simp [e2]
      · rfl
    · rfl
  exact richCompare_meets_room (op := .Lt) ⟨_, (N _ ha).1, rfl⟩ ⟨_, (N _ hb).1, rfl⟩ F.slot_tuple_lt F.entry_tuple_lt (F.args_tuple_lt_2 _ _)
    (tuple_lt2 a b _ _ _ _ n n2 _ _ _ _) ⟨(N _ ha).1, (N _ hb).1, bytes_eqAt, SeqAt.EqAt.int_int _ _ _ _, LtAt.bytes, LtAt.int, by rw [key]; exact ⟨(fun e => nomatch e), h⟩⟩ hu
end
/-! a for over a range whose own name is a cell -/
section
variable {prog : Program} {w : World} {A : Around} {E : Value → Shared → Prop} {Q : Flow → Shared → Prop} {s : Shared} {env : Env} {h₀ : Heap}
def FCEnd (h₀ : Heap) (L : Addr) (s : Shared) (I : Addr) (oI : Obj) (c : Addr) (news : List (Addr × Obj)) (stored : List Str) (m₀ : Str → Option Value) (s₂ : Shared) : Prop :=
  ∃ h' tk m' news' o' v', s₂ = { s with heap := h', toks := tk } ∧ Fr h₀ L h' m' ∧ News h₀ L h' news' ∧ (I, oI) ∈ news' ∧ (c, o') ∈ news' ∧ o'.data = .cell v' ∧ (∀ p ∈ news, p ∈ news') ∧ ∀ z, stored.contains z = false → m' z = m₀ z
def FCPost (h₀ : Heap) (L : Addr) (s : Shared) (I : Addr) (oI : Obj) (c : Addr) (news : List (Addr × Obj)) (stored : List Str) (m₀ : Str → Option Value) (Q : Flow → Shared → Prop) (f : Flow) (s₂ : Shared) : Prop :=
  match f with
  | .ret v => Q (.ret v) s₂
  | .brk => Q .next s₂
  | _ => FCEnd h₀ L s I oI c news stored m₀ s₂
theorem FCEnd.intro {L I c : Addr} {oI o' : Obj} {news news' : List (Addr × Obj)} {stored : List Str} {m₀ m' : Str → Option Value} {h' : Heap} {tk : Nat} {v' : Option Value} (F : Fr h₀ L h' m') (N : News h₀ L h' news') (h1 : (I, oI) ∈ news') (h2 : (c, o') ∈ news') (h3 : o'.data = .cell v') (h4 : ∀ p ∈ news, p ∈ news')
    (h5 : ∀ z, stored.contains z = false → m' z = m₀ z) : FCEnd h₀ L s I oI c news stored m₀ { s with heap := h', toks := tk } := ⟨h', tk, m', news', o', v', rfl, F, N, h1, h2, h3, h4, h5⟩
def LoopC (prog : Program) (w : World) (A : Around) (h₀ : Heap) (env : Env) (c : Addr) (body : List Stmt) (Q : Flow → Shared → Prop) (E : Value → Shared → Prop) (xv : Value) (s₁ : Shared) : Prop :=
  ∃ (r : Addr) (a₀ b₀ : Int) (t₀ u₀ v₀ : Tok) (n : Nat) (m₀ : Str → Option Value) (news : List (Addr × Obj)) (oc : Obj) (vc : Option Value) (stored : List Str),
    xv = .ref r ∧ IsRange s₁.heap r a₀ b₀ 1 t₀ u₀ v₀ ∧ 0 ≤ a₀ ∧ b₀ ≤ 1000 ∧ b₀ - a₀ = (n : Int) ∧ Fr h₀ env.locals s₁.heap m₀ ∧ News h₀ env.locals s₁.heap ((c, oc) :: news) ∧ oc.data = .cell vc ∧ (∀ p ∈ news, p.1 ≠ c) ∧
    (∀ i (u : Str → Option Value) h tk o t I oI, i < n → o.data = .cell (some (.int (a₀ + (i : Int)) t)) → (∀ p ∈ (c, o) :: news, p.1 ≠ I) → Fr h₀ env.locals h (fun z => if stored.contains z then u z else m₀ z) → News h₀ env.locals h ((I, oI) :: (c, o) :: news) →
      wpAny (model prog w) A (execs body env) (FCPost h₀ env.locals s₁ I oI c news stored m₀ Q) E { s₁ with heap := h, toks := tk }) ∧
    (∀ (u : Str → Option Value) h tk o v', o.data = .cell v' → Fr h₀ env.locals h (fun z => if stored.contains z then u z else m₀ z) → News h₀ env.locals h ((c, o) :: news) → Q .next { s₁ with heap := h, toks := tk })
theorem LoopC.intro {c r : Addr} {body : List Stmt} {a₀ b₀ : Int} {t₀ u₀ v₀ : Tok} (n : Nat) {m₀ : Str → Option Value} {news all : List (Addr × Obj)} {oc : Obj} {vc : Option Value} (stored : List Str)
    (hr : IsRange s.heap r a₀ b₀ 1 t₀ u₀ v₀) (ha : 0 ≤ a₀) (hb : b₀ ≤ 1000) (hn : b₀ - a₀ = (n : Int)) (F : Fr h₀ env.locals s.heap m₀) (N : News h₀ env.locals s.heap all) (hs : ∀ p ∈ (c, oc) :: news, p ∈ all) (hd : oc.data = .cell vc) (hne : ∀ p ∈ news, p.1 ≠ c)
    (turn : ∀ i (u : Str → Option Value) h tk o t I oI, i < n → o.data = .cell (some (.int (a₀ + (i : Int)) t)) → (∀ p ∈ (c, o) :: news, p.1 ≠ I) → Fr h₀ env.locals h (fun z => if stored.contains z then u z else m₀ z) → News h₀ env.locals h ((I, oI) :: (c, o) :: news) →
      wpAny (model prog w) A (execs body env) (FCPost h₀ env.locals s I oI c news stored m₀ Q) E { s with heap := h, toks := tk })
    (done : ∀ (u : Str → Option Value) h tk o v', o.data = .cell v' → Fr h₀ env.locals h (fun z => if stored.contains z then u z else m₀ z) → News h₀ env.locals h ((c, o) :: news) → Q .next { s with heap := h, toks := tk }) :
    LoopC prog w A h₀ env c body Q E (.ref r) s := ⟨r, a₀, b₀, t₀, u₀, v₀, n, m₀, news, oc, vc, stored, rfl, hr, ha, hb, hn, F, fun p hp => N p (hs p hp), hd, hne, turn, done⟩
theorem for_C {x : Str} {px pos : Pos} {iter : Expr} {body : List Stmt} {c : Addr} (hx : env.kindOf x = some .cell) (hc : env.cells.lookup x = some c) (hkf : env.scope.kind = .function) (hh : A.handled = none)
    (h : wpAny (model prog w) A (eval iter env) (LoopC prog w A h₀ env c body Q E) E s)
    (hs : ∀ x, foldedSetIterable iter env x = pure x := by intro _; rfl) (hE : PassesOwn (model prog w) A env E := by passes_own) :
    wpAny (model prog w) A (exec (.For (.Name x px) iter body [] pos) env) Q E s := by
  refine wpAny_For (wpAny_mono h (fun xv s₁ h₁ => ?_) fun _ _ e => e) hs
  obtain ⟨r, a₀, b₀, t₀, u₀, v₀, n, m₀, news, oc, vc, stored, rfl, hr, ha, hb, hn, F, N, hd, hne, turn, done⟩ := h₁
  have hsz : Builtin.Range.rangeSize a₀ b₀ 1 = (n : Int) := by
    unfold Builtin.Range.rangeSize
    simp only [show (1 : Int) > 0 by decide, if_true]
    (repeat' split) <;> first | omega | (simp at *; omega)
  refine wpAny_pyIter_range hr (small_one (by omega) (by omega) (by omega) (by omega)) ?_
  have W : Walks prog w A s₁.heap.objs.size [s₁.heap.objs.size] [s₁.heap.objs.size] n (fun i v => i < n ∧ ∃ t, v = .int (a₀ + i * 1) t)
      (fun i h => IsRangeIter h s₁.heap.objs.size (a₀ + (i : Nat) * 1) ((n : Int) - (i : Nat)) 1) := (Walks.range hh _ a₀ 1 n).bound
  generalize hI : s₁.heap.objs.size = I at W ⊢
  have hcI : c ≠ I := by
    have := Heap.lt_size (N _ (List.Mem.head _)).1
    rw [hI] at this
    exact Nat.ne_of_lt this
  have hLI : env.locals ≠ I := by
    have := F.ns.lt
    rw [hI] at this
    exact Nat.ne_of_lt this
  have hI0 : h₀.get? I = none := by rw [← hI]; exact next_is_new F
  have hnI : ∀ p ∈ news, p.1 ≠ I := fun p hp => by
    have := Heap.lt_size (N p (.tail _ hp)).1
    rw [hI] at this
    exact Nat.ne_of_lt this
  refine codeAny_forLoop (fun k s' => ∃ h' tk m' i o' v', s' = { s₁ with heap := h', toks := tk } ∧ IsRangeIter h' I (a₀ + (i : Nat) * 1) ((n : Int) - (i : Nat)) 1 ∧ Fr h₀ env.locals h' m' ∧ News h₀ env.locals h' ((c, o') :: news) ∧ o'.data = .cell v' ∧ (∀ z, stored.contains z = false → m' z = m₀ z) ∧ i ≤ n ∧ k = n + 1 - i) ?_ (n + 1)
    ⟨_, s₁.toks, m₀, 0, oc, vc, rfl, ?_, F.push _, (fun p hp => ⟨Heap.get?_push_of_some _ (N p hp).1, (N p hp).2⟩), hd, fun _ _ => rfl, Nat.zero_le _, rfl⟩
  · rintro k s' ⟨h', tk, m', i, o', v', rfl, hit, F', N', hd', hm', hi, rfl⟩
    have em : (fun z => if stored.contains z then m' z else m₀ z) = m' := by
      funext z
      cases h9 : stored.contains z with
      | true => simp
      | false => simp only [Bool.false_eq_true, if_false]; exact (hm' z h9).symm
    have keep : ∀ h₁ : Heap, (∀ b o, b ∉ [I] → h'.get? b = some o → h₁.get? b = some o) → Fr h₀ env.locals h₁ m' ∧ News h₀ env.locals h₁ ((c, o') :: news) := fun h₁ hk₁ =>
      ⟨⟨F'.ns.at' fun o e => hk₁ _ o (by simpa using hLI) e, fun b o e => hk₁ b o (by
          intro hm
          rw [List.mem_singleton.mp hm, hI0] at e
          cases e) (F'.keep b o e), F'.above⟩, fun p hp => ⟨hk₁ _ _ (by
          intro hm
          rcases List.mem_cons.mp hp with rfl | hp
          · exact hcI (List.mem_singleton.mp hm)
          · exact hnI p hp (List.mem_singleton.mp hm)) (N' p hp).1, (N' p hp).2⟩⟩
    by_cases hlt : i < n
    · refine W.item i _ _ _ hlt hit fun v h₁ tk₁ hP hst₁ hk₁ => ?_
      obtain ⟨_, t, rfl⟩ := hP
      obtain ⟨F₁, N₁⟩ := keep h₁ hk₁
      have hc1 := N₁ _ (List.Mem.head _)
      refine wpAny_assign_Name (wpAny_storeName_cell hkf hx hc ⟨o', hc1.1, hd'⟩ fun h₂ hv₂ hs₂ => ?_)
      obtain ⟨o2, ho2, hd2⟩ := hv₂
      have F₂ : Fr h₀ env.locals h₂ m' := F₁.change hs₂ hc1.2.1 hc1.2.2
      have hit2 : IsRangeIter h₂ I (a₀ + ((i + 1 : Nat) : Int) * 1) ((n : Int) - ((i + 1 : Nat) : Int)) 1 := (hs₂.2 I hcI.symm).trans hst₁
      obtain ⟨oI, heI⟩ : ∃ oI, h₂.get? I = some oI := ⟨_, hit2⟩
      have N₂ : News h₀ env.locals h₂ ((I, oI) :: (c, o2) :: news) := fun p hp => by
        rcases List.mem_cons.mp hp with rfl | hp
        · exact ⟨heI, hLI.symm, hI0⟩
        · rcases List.mem_cons.mp hp with rfl | hp
          · exact ⟨ho2, hc1.2⟩
          · have z := N₁ p (.tail _ hp)
            exact ⟨(hs₂.2 _ (hne p hp)).trans z.1, z.2⟩
      rw [Int.mul_one] at hd2
      have step := turn i m' h₂ tk₁ o2 t I oI hlt hd2 (fun p hp => by
        rcases List.mem_cons.mp hp with rfl | hp
        · exact hcI
        · exact hnI p hp) (by rw [em]; exact F₂) N₂
      refine wpAny_mono (wpAny_passesOwn hE step) (fun f s₃ h₃ => ?_) fun _ _ e => e
      have fin : FCEnd h₀ env.locals s₁ I oI c news stored m₀ s₃ → ∃ m, m < n + 1 - i ∧ ∃ h' tk m' i o' v', s₃ = { s₁ with heap := h', toks := tk } ∧ IsRangeIter h' I (a₀ + (i : Nat) * 1) ((n : Int) - (i : Nat)) 1 ∧ Fr h₀ env.locals h' m' ∧ News h₀ env.locals h' ((c, o') :: news) ∧ o'.data = .cell v' ∧ (∀ z, stored.contains z = false → m' z = m₀ z) ∧ i ≤ n ∧ m = n + 1 - i := by
        rintro ⟨h3, tk3, m3, news3, o3, v3, rfl, F3, N3, q1, q2, q3, q4, q5⟩
        have eI : oI = _ := Option.some.inj (heI.symm.trans hit2)
        refine ⟨n + 1 - (i + 1), by omega, h3, tk3, m3, i + 1, o3, v3, rfl, ?_, F3, fun p hp => ?_, q3, q5, hlt, rfl⟩
        · show h3.get? I = some _
          rw [(N3 _ q1).1, eI]
        · rcases List.mem_cons.mp hp with rfl | hp
          · exact N3 _ q2
          · exact N3 _ (q4 p hp)
      cases f with
      | ret v => exact h₃
      | brk => exact h₃
      | next => exact fin h₃
      | cont => exact fin h₃
    · have hin : i = n := by omega
      subst hin
      refine W.done _ _ _ hit fun h₁ tk₁ hk₁ => wpAny_execs_nil ?_
      obtain ⟨F₁, N₁⟩ := keep h₁ hk₁
      exact done m' h₁ tk₁ o' v' hd' (by rw [em]; exact F₁) N₁
  · show IsRangeIter _ _ _ _ _
    rw [hsz, ← hI]
    simpa using Heap.get?_push_size _ rfl
end
/-! comprehensions over a list of the ledger -/
section
open LCg LCt
variable {prog : Program} {w : World} {A : Around} {s : Shared} {env : Env} {h₀ : Heap} {L ax : Addr} {m : Str → Option Value} {ct elt : Expr} {x : Str} {scope : Scope} {cl : List (Str × Addr)} {Fin : List Value → List (Addr × Obj) → Prop} {news : List (Addr × Obj)} {vs : List Value}
/-- what a clause of the comprehension gives at an item -/
def Gives1 (h₀ : Heap) (L : Addr) (m : Str → Option Value) (x : Str) (s : Shared) (news : List (Addr × Obj)) (v : Value) {α : Type} (R : α → Prop) (t : Addr → (α → Shared → Prop) → (Value → Shared → Prop) → Shared → Prop) : Prop :=
  ∀ I oI C oC D ys m₂ h tk (E' : Value → Shared → Prop) (Q' : α → Shared → Prop), NsObj oC m₂ → m₂ x = some v → Fr h₀ L h m → News h₀ L h ((I, oI) :: (C, oC) :: (D, lst ys) :: news) →
    (∀ y h' tk', R y → Fr h₀ L h' m → News h₀ L h' ((I, oI) :: (C, oC) :: (D, lst ys) :: news) → Q' y { s with heap := h', toks := tk' }) → t C Q' E' { s with heap := h, toks := tk }
theorem rest_filter (b : Value → Bool) (hS : SrcAt h₀ ax vs.toArray news)
    (cond : ∀ v ∈ vs, Gives1 h₀ L m x s news v (fun y => y = b v) (fun C Q' E' s' => wpAny (model prog w) A (isTrue ct (compEnvC scope cl C env) (eval ct (compEnvC scope cl C env))) Q' E' s'))
    (el : ∀ v ∈ vs, Gives1 h₀ L m x s news v (fun y => y = v) (fun C Q' E' s' => wpAny (model prog w) A (eval elt (compEnvC scope cl C env)) Q' E' s')) :
    ∀ k i ys, i + k = vs.length → Fin (ys ++ (vs.drop i).filter b) news → CompRestT prog w A h₀ L m env ct elt x scope cl s (SrcAt h₀ ax vs.toArray) (fun i v => vs.toArray[i]? = some v) Fin k i ys news := by
  intro k
  induction k with
  | zero =>
    intro i ys hi hf
    refine CompRestT.zero ?_
    rw [List.drop_of_length_le (by omega)] at hf
    simpa using hf
  | succ k ih =>
    intro i ys hi hf
    refine CompRestT.succ fun v I oI C oC D m₂ h tk E' hP hC hx F N off ne => ?_
    have hv : vs[i]? = some v := by simpa using hP
    have hmem : v ∈ vs := List.mem_of_getElem? hv
    have hdrop : vs.drop i = v :: vs.drop (i + 1) := by
      have hlt : i < vs.length := by omega
      rw [List.drop_eq_getElem_cons hlt]
      congr 1
      exact Option.some.inj ((List.getElem?_eq_getElem hlt).symm.trans hv)
    rw [hdrop, List.filter_cons] at hf
    refine cond v hmem I oI C oC D ys m₂ h tk E' _ hC hx F N fun y h' tk' hy F' N' => ?_
    subst hy
    cases hb : b v with
    | false =>
      rw [hb] at hf
      simp only [Bool.false_eq_true, if_false] at hf ⊢
      exact CompEnd.intro F' N' news (fun p hp => hp) off hS (ih (i + 1) ys (by omega) hf)
    | true =>
      rw [hb] at hf
      simp only [if_true] at hf ⊢
      refine el v hmem I oI C oC D ys m₂ h' tk' E' _ hC hx F' N' fun y h2 tk2 hy F2 N2 => ?_
      subst hy
      exact CompEnd.intro F2 N2 news (fun p hp => hp) off hS (ih (i + 1) (ys ++ [y]) (by omega) (by rw [List.append_assoc]; exact hf))
inductive All2 (R : Value → Value → Prop) : List Value → List Value → Prop
  | nil : All2 R [] []
  | cons {v y : Value} {vs ys : List Value} : R v y → All2 R vs ys → All2 R (v :: vs) (y :: ys)
theorem rest_map (R : Value → Value → Prop) (hS : SrcAt h₀ ax vs.toArray news)
    (el : ∀ v ∈ vs, Gives1 h₀ L m x s news v (R v) (fun C Q' E' s' => wpAny (model prog w) A (eval elt (compEnvC scope cl C env)) Q' E' s')) :
    ∀ k i ys, i + k = vs.length → (∀ zs, All2 R (vs.drop i) zs → Fin (ys ++ zs) news) → CompRest prog w A h₀ L m env elt x scope cl s (SrcAt h₀ ax vs.toArray) (fun i v => vs.toArray[i]? = some v) Fin k i ys news := by
  intro k
  induction k with
  | zero =>
    intro i ys hi hf
    refine CompRest.zero ?_
    have := hf [] (by rw [List.drop_of_length_le (by omega)]; exact .nil)
    simpa using this
  | succ k ih =>
    intro i ys hi hf
    refine CompRest.succ fun v I oI C oC D m₂ h tk E' hP hC hx F N off ne => ?_
    have hv : vs[i]? = some v := by simpa using hP
    have hmem : v ∈ vs := List.mem_of_getElem? hv
    have hdrop : vs.drop i = v :: vs.drop (i + 1) := by
      have hlt : i < vs.length := by omega
      rw [List.drop_eq_getElem_cons hlt]
      congr 1
      exact Option.some.inj ((List.getElem?_eq_getElem hlt).symm.trans hv)
    refine el v hmem I oI C oC D ys m₂ h tk E' _ hC hx F N fun y h2 tk2 hy F2 N2 => ?_
    exact CompEnd.intro F2 N2 news (fun p hp => hp) off hS (ih (i + 1) (ys ++ [y]) (by omega) fun zs hz => by
      rw [List.append_assoc]
      exact hf (y :: zs) (by rw [hdrop]; exact .cons hy hz))
/-- the same over a range -/
theorem rest_range (a₀ : Int) (R : Int → Value → Prop) (n : Nat)
    (el : ∀ i : Nat, i < n → ∀ t, Gives1 h₀ L m x s news (.int (a₀ + (i : Int)) t) (R (a₀ + (i : Int))) (fun C Q' E' s' => wpAny (model prog w) A (eval elt (compEnvC scope cl C env)) Q' E' s')) :
    ∀ k i ys, i + k = n → (∀ j : Nat, j < ys.length → ∃ y, ys[j]? = some y ∧ R (a₀ + (j : Int)) y) → ys.length = i → (∀ zs : List Value, zs.length = n → (∀ j : Nat, j < n → ∃ y, zs[j]? = some y ∧ R (a₀ + (j : Int)) y) → Fin zs news) →
      CompRest prog w A h₀ L m env elt x scope cl s (fun _ => True) (fun i v => ∃ t, v = .int (a₀ + (i : Int)) t) Fin k i ys news := by
  intro k
  induction k with
  | zero =>
    intro i ys hi hys hl hf
    exact CompRest.zero (hf ys (by omega) fun j hj => hys j (by omega))
  | succ k ih =>
    intro i ys hi hys hl hf
    refine CompRest.succ fun v I oI C oC D m₂ h tk E' hP hC hx F N off ne => ?_
    obtain ⟨t, rfl⟩ := hP
    refine el i (by omega) t I oI C oC D ys m₂ h tk E' _ hC hx F N fun y h2 tk2 hy F2 N2 => ?_
    refine CompEnd.intro F2 N2 news (fun p hp => hp) off trivial (ih (i + 1) (ys ++ [y]) (by omega) (fun j hj => ?_) (by rw [List.length_append, List.length_singleton, hl]) hf)
    by_cases h9 : j < ys.length
    · rw [List.getElem?_append_left h9]
      exact hys j h9
    · have hj' : j = i := by
        rw [List.length_append, List.length_singleton] at hj
        omega
      subst hj'
      exact ⟨y, by rw [List.getElem?_append_right (by omega), hl]; simp, hy⟩
end
theorem append_L {prog : Program} {w : World} {A : Around} {E : Value → Shared → Prop} {s : Shared} {h₀ : Heap} {L D : Addr} {m : Str → Option Value} {news : List (Addr × Obj)} {vs : List Value} {n : Nat} {x : Value} {Q : Value → Shared → Prop}
    (F : Fr h₀ L s.heap m) (N : News h₀ L s.heap news) (hm : (D, listOf vs.toArray n) ∈ news) (hz : vs.length ≤ 1000)
    (h : ∀ h', Fr h₀ L h' m → News h₀ L h' (updL news D (listOf (vs ++ [x]).toArray (n + 1))) → Q .none { s with heap := h' }) : wpAny (model prog w) A (call (.builtin "list.append") [.ref D, x]) Q E s := by
  have z := N _ hm
  refine append_at (hsz := by rw [List.size_toArray, sizeLine_eq]; omega) z.1 fun h' hs ho' => h h' (F.change hs z.2.1 z.2.2) fun p hp => ?_
  rcases updL_of hp with rfl | ⟨hp, hne⟩
  · refine ⟨?_, z.2⟩
    rw [ho', List.push_toArray]
  · exact ⟨(hs.2 _ hne).trans (N p hp).1, (N p hp).2⟩
local macro_rules | `(tactic| walk_at "call builtin:list.append") => `(tactic| (k_here; (with_reducible show wpAny _ _ (call (Value.builtin _) [Value.ref _, _]) _ _ _); k_dflt (refine' append_L ?k1 ?k2 ?k3 ?k4 ?_; (case k1 | k2 => k_asm); (case k3 => k_mem); (case k4 => ((try dsimp only); omega))); intro h' F' N'; (try k_sweep)))
local macro_rules | `(tactic| k_mem) => `(tactic| ((with_reducible show _ ∈ updL _ _ _); refine' updL_ne (p := (_, _)) ?_ ?_; k_mem; (refine' (by assumption : ∀ p ∈ (_ : List (Addr × Obj)), p.1 ≠ _) (_, _) ?_; k_mem)))
local macro_rules | `(tactic| walk_at "sk enterC") => `(tactic| (refine' code_defC ?k1 ?k2 ?k3 ?k4 ?k5 ?kA ?kF ?kK ?k6 ?k7 ?k8 ?k9 ?kB ?kD ?_ ?c2 ?c3 ?c4; (case kA | kF => exact rfl); (case kK => first | exact rfl | assumption); (case k1 | k2 | k3 | k4 | k5 => k_asm); (case k6 | k7 => k_is); (case k8 => walk_at "cx room"); (case k9 => exact BindsTo.of_eq rfl); (case kB => exact rfl); (case kD => decide +kernel); (case c2 | c3 | c4 => exact rfl); k_whole; intro g' L' h' tk' cells' FG' F' N' Y' B' X' T' l1; (try k_lt l1); k_cells Y'; (try simp only [List.cons_append, List.nil_append] at N'); (try dsimp only); walk_at "sk open"; (try k_fold)))
local macro_rules | `(tactic| walk_at "sk sub2") => `(tactic| (intro p9 h9; (repeat (first | exact h9 | refine List.mem_cons_of_mem _ ?_)); done))
structure FlS where
  A1 : List Tw
  A2 : List Tw
  xs : List Value
  ep : Nat
  tups : List (Addr × Obj)
abbrev flP (T : List Tw) (j : Nat) (fl : Addr) (news : List (Addr × Obj)) (c : FlS) : Prop := c.A1 ++ c.A2 = T ∧ RowsAre (c.tups ++ news) c.xs (c.A1.filter fun t => j < t.h) ∧ ∀ p ∈ c.tups ++ news, p.1 ≠ fl
abbrev flSize (c : FlS) : Nat := c.A2.length
abbrev flLed (fl : Addr) (news : List (Addr × Obj)) (c : FlS) : List (Addr × Obj) := (fl, listOf c.xs.toArray c.ep) :: (c.tups ++ news)
abbrev flPs (j : Nat) (c : FlS) : List (Str × Value) := [(Str.ofString "tower", nxt j c.A2)]
theorem fl_end {g : Heap} {L fl D : Addr} {s : Shared} {T A1 B1 B2 : List Tw} {v : Tw} {j ep : Nat} {xs : List Value} {tups news : List (Addr × Obj)} {m₀ m' : Str → Option Value} {h' : Heap} {tk : Nat} {t1 t2 t3 : Tok}
    (he : A1 ++ (B1 ++ v :: B2) = T) (hB1 : ∀ u ∈ B1, u.h ≤ j) (hv : j < v.h) (hrows : RowsAre (tups ++ news) xs (A1.filter fun t => j < t.h)) (hne : ∀ p ∈ tups ++ news, p.1 ≠ fl) (hD : fl < D)
    (F : Fr g L h' m') (N : News g L h' (updL ((D, tupOf [.bytes (kb v.k).toArray t1, .bytes [v.v].toArray t2, .int (v.h : Nat) t3] 0) :: (fl, listOf xs.toArray ep) :: (tups ++ news)) fl (listOf (xs ++ [Value.ref D]).toArray (ep + 1))))
    (hp1 : m' (Str.ofString "tower") = some (nxt j B2)) (hr : ∀ x, (∀ p ∈ flPs j ⟨A1 ++ B1 ++ [v], B2, xs ++ [Value.ref D], ep + 1, (D, tupOf [.bytes (kb v.k).toArray t1, .bytes [v.v].toArray t2, .int (v.h : Nat) t3] 0) :: tups⟩, x ≠ p.1) → ([] : List Str).contains x = false → m' x = m₀ x) :
    SEnd g L s (flP T j fl news) flSize (flLed fl news) (flPs j) [] m₀ ⟨A1, B1 ++ v :: B2, xs, ep, tups⟩ { s with heap := h', toks := tk } := by
  have hDne : D ≠ fl := Nat.ne_of_gt hD
  refine SEnd.intro ⟨A1 ++ B1 ++ [v], B2, xs ++ [Value.ref D], ep + 1, (D, tupOf [.bytes (kb v.k).toArray t1, .bytes [v.v].toArray t2, .int (v.h : Nat) t3] 0) :: tups⟩ F N ?_ ?_ hr ⟨by simpa using he, ?_, ?_⟩ (by dsimp only [flSize]; simp; omega)
  · intro p9 h9
    rcases List.mem_cons.mp h9 with rfl | h9
    · exact updL_self (.tail _ (.head _))
    · rcases List.mem_cons.mp h9 with rfl | h9
      · exact updL_ne (.head _) hDne
      · exact updL_ne (.tail _ (.tail _ h9)) (hne _ h9)
  · intro p9 h9
    rcases List.mem_cons.mp h9 with rfl | h9
    · exact hp1
    · cases h9
  · have e1 : B1.filter (fun t => decide (j < t.h)) = [] := List.filter_eq_nil_iff.mpr fun t ht => by have := hB1 t ht; simp; omega
    dsimp only
    rw [List.filter_append, List.filter_append, e1, List.append_nil]
    refine RowsAre.append (hrows.mono fun p hp => .tail _ hp) ?_
    rw [List.filter_cons, if_pos (by simpa using hv)]
    exact ⟨⟨D, t1, t2, t3, 0, rfl, .head _⟩, trivial⟩
  · intro p hp
    rcases List.mem_cons.mp hp with rfl | hp
    · exact hDne
    · exact hne p hp
section
variable {w : World} {dp un : Nat} {gd : Option (List Code)} {cn : Str} {cs : Scope} {L a : Addr} {ccd : Value} {cl : List (Str × Addr)} {outer : List Env} {h₀ : Heap} {m : Str → Option Value} {s : Shared} {Q E : Value → Shared → Prop} {news n0 : List (Addr × Obj)}
theorem floor_spec {S : Sl} {T : List Tw} {j : Nat} {nn : Int} {tj tn : Tok} (C : Cx w dp un cs outer h₀ s.heap L m news 2) (SI : SlIn w.params n0 S T) (hs : ∀ p ∈ n0, p ∈ news) (hj : j < S.most) (hnn : nn = (T.length : Nat))
    (ret : ∀ l xs ep tups h' tk', Fr h₀ L h' m → News h₀ L h' ((l, listOf xs.toArray ep) :: (tups ++ news)) → RowsAre (tups ++ news) xs (T.filter fun t => j < t.h) → Q (.ref l) { s with heap := h', toks := tk' }) :
    wpAny (model PySem.Challenge.rw_no0405_01.row.prog w) (ktrTop dp un gd cn cs L a ccd cl outer) (call (.ref 391) [.ref S.ha, .int (j : Nat) tj, .int nn tn]) Q E s := by
  subst hnn
  obtain ⟨⟨A₀, base, B'⟩, F, X, N, ⟨p, loose, mean, mg, mb, Tp⟩, hk, hdp, hun⟩ := C
  have SI := SI.mono hs
  obtain ⟨hh1, ⟨q1, q2, q3, q4, q5, q6, hh2⟩, ep, hh3⟩ := SI.head
  have hm1 := SI.mostLo
  have hm2 := SI.mostHi
  have hfew := SI.few
  have hlk : (lks S.most T)[((j : Nat) : Int).toNat]? = some (nxt j T) := lks_at hj
  refine wpAny_call ?_
  k_dflt walk_at "sk enter"
  k_steps
  rename_i fl h2 hlt h1 hh F1 N1
  unfold Stp
  with_unfolding_all
    refine' while_S (σ := FlS) (flP T j fl news) flSize (flLed fl news) (flPs j) []
        ⟨[], T, [], 0, []⟩ F1 N1 (fun _ h => h) ?hp ?h0 ?turn ?hE
  case hE => passes_own
  case hp => walk_at "sk pairs"
  case h0 => exact ⟨rfl, trivial, fun p hp => Nat.ne_of_lt (hlt p hp)⟩
  case turn =>
    rintro ⟨A1, A2, xs, ep', tups⟩ u h tk ⟨he, hrows, hne⟩ F' N'
    intro qb9
    dsimp only [flPs, flLed, kstB] at he hrows hne F' N' ⊢
    k_fold
    have hxl : xs.length ≤ A1.length := by rw [hrows.length]; exact List.length_filter_le _ _
    have hTl : T.length = A1.length + A2.length := by rw [← he, List.length_append]
    rcases nxt_cases j A2 with ⟨e1, e2⟩ | ⟨B1, v, B2, rfl, e2, e3, e4⟩
    · rw [e1] at F'
      have e6 : A2.filter (fun t => decide (j < t.h)) = [] := List.filter_eq_nil_iff.mpr fun t ht => by have := e2 t ht; simp; omega
      have e5 : T.filter (fun t => decide (j < t.h)) = A1.filter fun t => j < t.h := by
        rw [← he, List.filter_append, e6, List.append_nil]
      rw [← e5] at hrows
      k_steps
      exact ret _ _ _ _ _ _ (by k_asm) (by k_asm) hrows
    · rw [e4] at F'
      simp only [List.length_append, List.length_cons] at hTl
      have hch := SI.chain
      rw [← he, ← List.append_assoc] at hch
      obtain ⟨v1, ⟨r1, r2, r3, r4, r5, r6, v2⟩, ep2, v3⟩ := Chain.at (A := A1 ++ B1) (t := v) (B := B2) hch
      have hvh := (SI.hts v (by rw [← he]; simp)).2
      have hll : (lks v.h B2).length = v.h := lks_len
      have hlk2 : (lks v.h B2)[((j : Nat) : Int).toNat]? = some (nxt j B2) := lks_at e3
      k_steps
      rename fl < _ ∧ AllLt _ _ => l9
      rename_i N9
      rw [hll] at N9
      exact fl_end he e2 e3 hrows hne l9.1 (by k_asm) (by k_asm) (by exact rfl) (by walk_at "sk same")
end
local macro_rules | `(tactic| walk_at "call ref") => `(tactic| (k_here; (with_reducible show wpAny _ _ (call (Value.ref 391) _) _ _ _); k_dflt (refine' floor_spec ?C (by assumption) ?hs (by assumption) ?hnn ?_; (case C => walk_at "cx"); (case hs => walk_at "sk sub2"); (case hnn => omega)); intro l' xs' ep' tups' h' tk' F' N' r9; (try dsimp only); (try k_sweep)))
/-! comprehensions over rows -/
section
open LCg LCt
variable {prog : Program} {w : World} {A : Around} {s : Shared} {env : Env} {h₀ : Heap} {L ax : Addr} {m : Str → Option Value} {ct elt : Expr} {x : Str} {scope : Scope} {cl : List (Str × Addr)} {Fin : List Value → List (Addr × Obj) → Prop} {news : List (Addr × Obj)} {vs : List Value} {ts : List Tw}
theorem rows_filter (b : Tw → Bool) (hr : RowsAre news vs ts) (hS : SrcAt h₀ ax vs.toArray news)
    (cond : ∀ v t, t ∈ ts → RowIs news v t → Gives1 h₀ L m x s news v (fun y => y = b t) (fun C Q' E' s' => wpAny (model prog w) A (isTrue ct (compEnvC scope cl C env) (eval ct (compEnvC scope cl C env))) Q' E' s'))
    (el : ∀ v t, t ∈ ts → RowIs news v t → Gives1 h₀ L m x s news v (fun y => y = v) (fun C Q' E' s' => wpAny (model prog w) A (eval elt (compEnvC scope cl C env)) Q' E' s')) :
    ∀ k i ys, i + k = vs.length → (∀ zs, RowsAre news zs ((ts.drop i).filter b) → Fin (ys ++ zs) news) → CompRestT prog w A h₀ L m env ct elt x scope cl s (SrcAt h₀ ax vs.toArray) (fun i v => vs.toArray[i]? = some v) Fin k i ys news := by
  intro k
  induction k with
  | zero =>
    intro i ys hi hf
    refine CompRestT.zero ?_
    have := hf [] (by rw [List.drop_of_length_le (by rw [← hr.length]; omega)]; exact trivial)
    simpa using this
  | succ k ih =>
    intro i ys hi hf
    refine CompRestT.succ fun v I oI C oC D m₂ h tk E' hP hC hx F N off ne => ?_
    have hv : vs[i]? = some v := by simpa using hP
    obtain ⟨t, ht, hrow⟩ := RowsAre.at hr hv
    have hmem : t ∈ ts := List.mem_of_getElem? ht
    have hdrop : ts.drop i = t :: ts.drop (i + 1) := by
      have hlt : i < ts.length := by rw [← hr.length]; omega
      rw [List.drop_eq_getElem_cons hlt]
      congr 1
      exact Option.some.inj ((List.getElem?_eq_getElem hlt).symm.trans ht)
    rw [hdrop, List.filter_cons] at hf
    refine cond v t hmem hrow I oI C oC D ys m₂ h tk E' _ hC hx F N fun y h' tk' hy F' N' => ?_
    subst hy
    cases hb : b t with
    | false =>
      rw [hb] at hf
      simp only [Bool.false_eq_true, if_false] at hf ⊢
      exact CompEnd.intro F' N' news (fun p hp => hp) off hS (ih (i + 1) ys (by omega) hf)
    | true =>
      rw [hb] at hf
      simp only [if_true] at hf ⊢
      refine el v t hmem hrow I oI C oC D ys m₂ h' tk' E' _ hC hx F' N' fun y h2 tk2 hy F2 N2 => ?_
      subst hy
      exact CompEnd.intro F2 N2 news (fun p hp => hp) off hS (ih (i + 1) (ys ++ [y]) (by omega) fun zs hz => by
        rw [List.append_assoc]
        exact hf (y :: zs) ⟨hrow, hz⟩)
inductive Pairs (R : Value → Tw → Prop) : List Value → List Tw → Prop
  | nil : Pairs R [] []
  | cons {v : Value} {t : Tw} {vs : List Value} {ts : List Tw} : R v t → Pairs R vs ts → Pairs R (v :: vs) (t :: ts)
theorem rows_map (R : Value → Tw → Prop) (hr : RowsAre news vs ts) (hS : SrcAt h₀ ax vs.toArray news)
    (el : ∀ v t, t ∈ ts → RowIs news v t → Gives1 h₀ L m x s news v (fun y => R y t) (fun C Q' E' s' => wpAny (model prog w) A (eval elt (compEnvC scope cl C env)) Q' E' s')) :
    ∀ k i ys, i + k = vs.length → (∀ zs, Pairs R zs (ts.drop i) → Fin (ys ++ zs) news) → CompRest prog w A h₀ L m env elt x scope cl s (SrcAt h₀ ax vs.toArray) (fun i v => vs.toArray[i]? = some v) Fin k i ys news := by
  intro k
  induction k with
  | zero =>
    intro i ys hi hf
    refine CompRest.zero ?_
    have := hf [] (by rw [List.drop_of_length_le (by rw [← hr.length]; omega)]; exact .nil)
    simpa using this
  | succ k ih =>
    intro i ys hi hf
    refine CompRest.succ fun v I oI C oC D m₂ h tk E' hP hC hx F N off ne => ?_
    have hv : vs[i]? = some v := by simpa using hP
    obtain ⟨t, ht, hrow⟩ := RowsAre.at hr hv
    have hmem : t ∈ ts := List.mem_of_getElem? ht
    have hdrop : ts.drop i = t :: ts.drop (i + 1) := by
      have hlt : i < ts.length := by rw [← hr.length]; omega
      rw [List.drop_eq_getElem_cons hlt]
      congr 1
      exact Option.some.inj ((List.getElem?_eq_getElem hlt).symm.trans ht)
    refine el v t hmem hrow I oI C oC D ys m₂ h tk E' _ hC hx F N fun y h2 tk2 hy F2 N2 => ?_
    exact CompEnd.intro F2 N2 news (fun p hp => hp) off hS (ih (i + 1) (ys ++ [y]) (by omega) fun zs hz => by
      rw [List.append_assoc]
      exact hf (y :: zs) (by rw [hdrop]; exact .cons hy hz))
theorem tops {zs : List Value} (h : Pairs (fun v t => ∃ u, v = .int (t.h : Nat) u) zs ts) : IntsAre zs (ts.map fun t => ((t.h : Nat) : Int)) := by
  induction h with
  | nil => exact .nil
  | cons h1 _ ih =>
    obtain ⟨u, rfl⟩ := h1
    exact .cons _ _ ih
theorem tall_mem : ∀ T : List Tw, ((tall T : Nat) : Int) ∈ (1 : Int) :: T.map fun t => ((t.h : Nat) : Int)
  | [] => .head _
  | t :: r => by
    have ih := tall_mem r
    rcases Nat.le_total t.h (tall r) with h | h
    · rw [show tall (t :: r) = tall r from Nat.max_eq_right h]
      rcases List.mem_cons.mp ih with ih | ih
      · rw [ih]; exact .head _
      · exact .tail _ (.tail _ ih)
    · rw [show tall (t :: r) = t.h from Nat.max_eq_left h]
      exact .tail _ (.head _)
theorem tall_is {M : Int} {T : List Tw} (h1 : M ∈ (1 : Int) :: T.map fun t => ((t.h : Nat) : Int)) (h2 : ∀ a ∈ (1 : Int) :: T.map fun t => ((t.h : Nat) : Int), a ≤ M) : M = (tall T : Nat) := by
  have a := h2 _ (tall_mem T)
  have b : M ≤ (tall T : Nat) := by
    rcases List.mem_cons.mp h1 with h | h
    · have := tall_pos T; omega
    · obtain ⟨t, ht, rfl⟩ := List.mem_map.mp h
      have := tall_ge ht; omega
  omega
end
local macro_rules | `(tactic| walk_at "eval ListComp") => `(tactic| refine Stp.mk ?_)
local macro_rules | `(tactic| walk_at "CompSrcT") => `(tactic| refine Stp.mk ?_)
local macro_rules | `(tactic| walk_at "CompSrc") => `(tactic| refine Stp.mk ?_)
local macro_rules | `(tactic| walk_at "sk compT") => `(tactic| (unfold Stp; refine LCt.ListComp_T (F₀ := by k_asm) (by with_unfolding_all rfl) (by decide) (by rfl) (by decide) (by rfl) ?_))
local macro_rules | `(tactic| walk_at "sk compU") => `(tactic| (unfold Stp; refine LCg.ListComp_U (F₀ := by k_asm) (by with_unfolding_all rfl) (by decide) (by rfl) (by decide) (by rfl) ?_))
local macro_rules | `(tactic| walk_at "sk srcT") => `(tactic| (unfold Stp; refine LCt.CompSrcT.ledger (by rfl) (by k_asm) (by k_asm) (by k_mem) (by (rw [List.size_toArray, sizeLine_eq]; first | omega | (simp only [List.length_take, List.length_drop]; omega))) ?_; intro g9))
local macro_rules | `(tactic| walk_at "sk srcU") => `(tactic| (unfold Stp; refine LCg.CompSrc.ledger (by rfl) (by k_asm) (by k_asm) (by k_mem) (by (rw [List.size_toArray, sizeLine_eq]; first | omega | (simp only [List.length_take, List.length_drop]; omega))) ?_; intro g9))
local macro_rules | `(tactic| walk_at "call builtin:max") => `(tactic| refine Stp.mk ?_)
section
variable {w : World} {dp un : Nat} {gd : Option (List Code)} {cn : Str} {cs : Scope} {L a : Addr} {ccd : Value} {cl : List (Str × Addr)} {outer : List Env} {h₀ : Heap} {m : Str → Option Value} {s : Shared} {Q E : Value → Shared → Prop} {news n0 : List (Addr × Obj)}
theorem stands_spec {S : Sl} {T : List Tw} {R : Addr} {rv : List Value} {er : Nat} {tm : Tok} (C : Cx w dp un cs outer h₀ s.heap L m news 4) (SI : SlIn w.params n0 S T) (hs : ∀ p ∈ n0, p ∈ news) (hR : (R, listOf rv.toArray er) ∈ news) (hrows : RowsAre news rv T)
    (ret : ∀ news' h' tk', Fr h₀ L h' m → News h₀ L h' (news' ++ news) → Q (.bool true) { s with heap := h', toks := tk' }) :
    wpAny (model PySem.Challenge.rw_no0405_01.row.prog w) (ktrTop dp un gd cn cs L a ccd cl outer) (call (.ref 396) [.ref S.sa, .ref S.ha, .ref R, .int (S.most : Nat) tm]) Q E s := by
  obtain ⟨⟨A₀, base, B'⟩, F, X, N, ⟨p, loose, mean, mg, mb, Tp⟩, hk, hdp, hun⟩ := C
  have SI := SI.mono hs
  have hinst := SI.inst
  obtain ⟨t1, t2, t3, t4, t5, u1, u2, n, hdict⟩ := SI.dict
  have hm1 := SI.mostLo
  have hm2 := SI.mostHi
  have hfew := SI.few
  have hrl := hrows.length
  refine wpAny_call ?_
  k_dflt walk_at "sk enterC"
  k_steps
  rename_i g1 L1 h1 tk1 FG1 F1 B1 X1 T1 l1 o1 d1 N1
  dsimp only [bindC] at d1
  refine for_C (h₀ := g1) (c := L1 + 1) rfl rfl rfl rfl ?_
  k_steps
  rename_i t3 u3 v3 hr F2 N2 hk2
  refine LoopC.intro S.most [] hr (by omega) (by omega) (by omega) F2 N2 (fun _ h => h) d1 (fun p hp => Nat.ne_of_lt (Nat.lt_succ_of_lt (l1 p hp))) ?turn ?done
  case turn =>
    intro i u h tk o t I oI hi hd hI F3 N3
    rw [Int.zero_add] at hd
    change Fr g1 L1 _ _ at F3
    change News g1 L1 _ _ at N3
    (try k_fold)
    k_steps
    rename RowsAre _ _ (List.filter _ T) => r9
    walk_at "sk compT"
    k_steps
    walk_at "sk srcT"
    refine rows_filter (ts := T) (fun t => decide (i < t.h)) (hrows.mono ?_) (.inr ⟨_, by k_mem, rfl, _, rfl⟩) ?cond ?el _ _ _ ?kk ?fin
    · walk_at "sk sub2"
    case cond =>
      intro v5 w5 hw5 hrow5 I5 oI5 C5 oC5 D5 ys5 m5 h5 tk5 E5 Q5 hC5 hx5 F5 N5 fin5
      obtain ⟨a5, p5, q5, r5, n5, rfl, hm5⟩ := hrow5
      dsimp only
      k_steps
      exact fin5 _ _ _ (by simp only [Int.ofNat_lt]) (by k_asm) (by k_asm)
    case el =>
      intro v5 w5 hw5 hrow5 I5 oI5 C5 oC5 D5 ys5 m5 h5 tk5 E5 Q5 hC5 hx5 F5 N5 fin5
      dsimp only
      k_steps
      exact fin5 _ _ _ rfl (by k_asm) (by k_asm)
    case kk => rw [Nat.zero_add, List.size_toArray]
    case fin =>
      intro zs hz D5 h5 tk5 F5 N5 off5
      rw [List.drop_zero] at hz
      rw [List.nil_append] at N5
      refine rows_ne N5 (by k_mem) (by k_mem) (r9.mono ?_) (hz.mono ?_) (by walk_at "cx units") ?_
      · walk_at "sk sub2"
      · walk_at "sk sub2"
      k_steps
      exact FCEnd.intro F5 N5 (by k_mem) (by k_mem) hd (by walk_at "sk sub2") (fun z _ => rfl)
  case done =>
    intro u h tk o v' hd F3 N3
    change Fr g1 L1 _ _ at F3
    change News g1 L1 _ _ at N3
    k_steps
    any_goals (exfalso; omega)
    walk_at "sk compU"
    k_steps
    walk_at "sk srcU"
    refine rows_map (ts := T) (fun v t => ∃ u, v = .int (t.h : Nat) u) (hrows.mono ?_) (.inr ⟨_, by k_mem, rfl, _, rfl⟩) ?el _ _ _ ?kk ?fin
    · walk_at "sk sub2"
    case el =>
      intro v5 w5 hw5 hrow5 I5 oI5 C5 oC5 D5 ys5 m5 h5 tk5 E5 Q5 hC5 hx5 F5 N5 fin5
      obtain ⟨a5, p5, q5, r5, n5, rfl, hm5⟩ := hrow5
      dsimp only
      k_steps
      exact fin5 _ _ _ ⟨_, rfl⟩ (by k_asm) (by k_asm)
    case kk => rw [Nat.zero_add, List.size_toArray]
    case fin =>
      intro zs hz D5 h5 tk5 F5 N5 off5
      rw [List.drop_zero] at hz
      rw [List.nil_append] at N5
      have hzl : zs.length = T.length := by have := (tops hz).length; rw [List.length_map] at this; exact this
      refine cat_L (vs := [_]) (ws := zs) F5 N5 (by k_mem) (by k_mem) (by simp) (by omega) ?_
      intro l6 h6 F6 N6 hl6
      k_steps
      unfold Stp
      refine kso_max F6 N6 (kso_isList N6 (by k_mem) rfl) (.cons 1 _ (tops hz)) (by simp) (by with_unfolding_all rfl) ?_
      intro h7 M t7 tk7 F7 N7 hM hM2
      obtain rfl := tall_is hM hM2
      k_steps
      rw [beq_self_eq_true]
      exact ret [_, _, _, _] _ _ (by k_asm) (by k_asm)
end
local macro_rules | `(tactic| walk_at "call ref") => `(tactic| (k_here; (with_reducible show wpAny _ _ (call (Value.ref 396) _) _ _ _); k_dflt (refine' stands_spec ?C (by assumption) ?hs ?hR (by assumption) ?_; (case C => walk_at "cx"); (case hs => walk_at "sk sub2"); (case hR => k_mem)); walk_at "sk ret"))
/-! plain facts for the finds -/
def ov : Option Tw → Value
  | none => .none
  | some t => .ref t.a
theorem nxt_ov {B : List Tw} (h : ∀ t ∈ B, 1 ≤ t.h) : nxt 0 B = ov B.head? := by
  cases B with
  | nil => rfl
  | cons t r =>
    have := h t (.head _)
    show (if 0 < t.h then Value.ref t.a else nxt 0 r) = .ref t.a
    rw [if_pos (by omega)]
theorem found_ov {S : Sl} {A : List Tw} : foundV S A = ov A.getLast? := by
  unfold foundV ov
  cases A.getLast? <;> rfl
theorem take_head {B : List Tw} : B.take 1 = B.head?.toList := by cases B <;> simp
theorem drop_last {A : List Tw} : A.drop (A.length - 1) = A.getLast?.toList := by
  rcases List.eq_nil_or_concat A with rfl | ⟨A', t, rfl⟩
  · rfl
  · simp
theorem sl_split (i : Bool) (k : Nat) : ∀ {T : List Tw}, (T.Pairwise fun t u => rk i t.k < rk i u.k) → ∃ A B, T = A ++ B ∧ (∀ u ∈ A, rk i u.k < rk i k) ∧ ∀ u ∈ B, ¬ rk i u.k < rk i k
  | [], _ => ⟨[], [], rfl, (fun _ h => nomatch h), (fun _ h => nomatch h)⟩
  | t :: r, h => by
    obtain ⟨h1, h2⟩ := List.pairwise_cons.mp h
    by_cases ht : rk i t.k < rk i k
    · obtain ⟨A, B, rfl, a, b⟩ := sl_split i k h2
      exact ⟨t :: A, B, rfl, fun u hu => by rcases List.mem_cons.mp hu with rfl | hu; exact ht; exact a u hu, b⟩
    · exact ⟨[], t :: r, rfl, (fun _ h => nomatch h), fun u hu => by
        rcases List.mem_cons.mp hu with rfl | hu
        · exact ht
        · have := h1 u hu; omega⟩
theorem filter_split {i : Bool} {k : Nat} {A B : List Tw} (hA : ∀ u ∈ A, rk i u.k < rk i k) (hB : ∀ u ∈ B, ¬ rk i u.k < rk i k) : (A ++ B).filter (fun t => decide (rk i t.k < rk i k)) = A := by
  have e1 : A.filter (fun t => decide (rk i t.k < rk i k)) = A := List.filter_eq_self.mpr fun t ht => by simp [hA t ht]
  have e2 : B.filter (fun t => decide (rk i t.k < rk i k)) = [] := List.filter_eq_nil_iff.mpr fun t ht => by simp; have := hB t ht; omega
  rw [List.filter_append, e1, e2, List.append_nil]
theorem ha_ne {P : Params} {g h : Heap} {L : Addr} {news : List (Addr × Obj)} {S : Sl} {T : List Tw} {t : Tw} (N : News g L h news) (SI : SlIn P news S T) (ht : t ∈ T) : t.a ≠ S.ha := by
  intro e
  obtain ⟨A, B, rfl⟩ := List.append_of_mem ht
  obtain ⟨a1, ⟨p1, p2, p3, p4, p5, p6, a2⟩, _⟩ := SI.head
  obtain ⟨b1, ⟨q1, q2, q3, q4, q5, q6, b2⟩, _⟩ := Chain.at SI.chain
  rw [e] at b1
  have z := news_one N a1 b1
  have ed : S.hd = t.d := by simpa [instObj] using z
  rw [← ed] at b2
  have z2 := news_one N a2 b2
  simp only [dictOf, Obj.mk.injEq, Data.dict.injEq] at z2
  simp at z2
section
variable {w : World} {dp un : Nat} {gd : Option (List Code)} {cn : Str} {cs : Scope} {L a : Addr} {ccd : Value} {cl : List (Str × Addr)} {outer : List Env} {h₀ : Heap} {m : Str → Option Value} {s : Shared} {Q E : Value → Shared → Prop} {news n0 : List (Addr × Obj)}
theorem told_spec {S : Sl} {T : List Tw} {v : Value} {o : Option Tw} (hv : v = ov o) (hin : ∀ t, o = some t → t ∈ T) (C : Cx w dp un cs outer h₀ s.heap L m news 2) (SI : SlIn w.params n0 S T) (hs : ∀ p ∈ n0, p ∈ news)
    (ret : ∀ l xs extra h' tk', Fr h₀ L h' m → News h₀ L h' ((l, listOf xs.toArray 0) :: (extra ++ news)) → RowsAre (extra ++ news) xs o.toList → Q (.ref l) { s with heap := h', toks := tk' }) :
    wpAny (model PySem.Challenge.rw_no0405_01.row.prog w) (ktrTop dp un gd cn cs L a ccd cl outer) (call (.ref 403) [v]) Q E s := by
  subst hv
  cases o with
  | none => exact told_none C fun l h' tk' F N _ => ret l [] [] h' tk' F N trivial
  | some t => exact told_some C SI hs (hin t rfl) fun l tp h' tk' t1 t2 t3 F N _ _ => ret l [.ref tp] [(tp, tupOf [.bytes (kb t.k).toArray t1, .bytes [t.v].toArray t2, .int (t.h : Nat) t3] 0)] h' tk' F N ⟨⟨tp, t1, t2, t3, 0, rfl, .head _⟩, trivial⟩
end
local macro_rules | `(tactic| walk_at "call ref") => `(tactic| (k_here; (with_reducible show wpAny _ _ (call (Value.ref 403) _) _ _ _); k_dflt (refine' told_spec (by assumption) (by assumption) ?C (by assumption) ?hs ?_; (case C => walk_at "cx"); (case hs => walk_at "sk sub2")); intro l' xs' extra' h' tk' F' N' r9; (try dsimp only); (try k_sweep)))
local macro_rules | `(tactic| walk_at "call ref") => `(tactic| (k_here; (with_reducible show wpAny _ _ (call (Value.ref 321) _) _ _ _); k_dflt (refine' first_spec ?C (by assumption) ?hs ?_; (case C => walk_at "cx"); (case hs => walk_at "sk sub2")); walk_at "sk ret4"))
local macro_rules | `(tactic| walk_at "call ref") => `(tactic| (k_here; (with_reducible show wpAny _ _ (call (Value.ref 328) _) _ _ _); k_dflt (refine' seek_spec ?C (by assumption) ?hs (by assumption) (by assumption) (by assumption) ?hk ?_; (case C => walk_at "cx"); (case hs => walk_at "sk sub2"); (case hk => walk_at "kfit")); walk_at "sk ret4"))
local macro_rules | `(tactic| walk_at "compareOp NotEq ref ref") => `(tactic| refine Stp.mk ?_)
local macro_rules | `(tactic| walk_at "compareOp Eq ref ref") => `(tactic| refine Stp.mk ?_)
local macro_rules | `(tactic| walk_at "compareOp Lt ref ref") => `(tactic| refine Stp.mk ?_)
local macro_rules | `(tactic| walk_at "compareOp In bytes ref") => `(tactic| refine Stp.mk ?_)
local macro_rules | `(tactic| walk_at "sk ne") => `(tactic| (intro e9; ((try dsimp only at e9) <;> (try change @Eq Nat _ _ at e9) <;> omega)))
local macro_rules | `(tactic| walk_at "sk off") => `(tactic| first | (refine List.forall_mem_cons.mpr ⟨?_, ?_⟩; (focus walk_at "sk ne"); (walk_at "sk off")) | (intro p9 h9; have h8 : @LT.lt Nat instLTNat _ _ := (by assumption : ∀ p ∈ (_ : List (Addr × Obj)), p.1 < _) _ h9; walk_at "sk ne"))
local macro_rules | `(tactic| walk_at "sk updF") => `(tactic| first | (refine' UpdF.head ?a; (case a => walk_at "sk off")) | (refine' UpdF.tail ?a ?b; (case a => walk_at "sk ne"); (case b => walk_at "sk updF")))
local macro_rules | `(tactic| walk_at "storeName") => `(tactic| (k_here; k_dflt (refine' storeX_C ?F ?N ?c ?U ?d ?_ ?a ?b; (case a | b => rfl); (case F | N => k_asm); (case c => rfl); (case U => walk_at "sk updF"); (case d => k_asm); k_whole; intro h' o' F' N' d'; (try dsimp only at N'); (try k_sweep))))
local macro_rules | `(tactic| walk_at "sk pick") => `(tactic| first | with_reducible exact pick_last | with_reducible exact pick_upto (Int.natCast_nonneg _) | with_reducible exact pick_from (Int.natCast_nonneg _) | exact pick_last | exact pick_run (by omega) (by omega) | exact pick_upto (by omega) | exact pick_from (by omega) | fail "sk pick")
local macro_rules | `(tactic| walk_at "sk size") => `(tactic| first | assumption | omega | (simp only [List.length_take, List.length_drop, List.length_append, List.length_cons, List.length_nil]; omega) | fail "sk size")
local macro_rules | `(tactic| walk_at "subscriptTail Name Slice ref ref") => `(tactic| (k_here; k_dflt (refine' slice_L ?F ?N ?m ?p ?q ?z ?e ?_ ?s ?t; (case F | N => k_asm); (case m => k_mem); (case p | q => kmk_part); (case z => walk_at "sk size"); (case e => walk_at "sk pick"); (case s => with_unfolding_all rfl); (case t => kmk_pure)); intro D' h' F' N' l1; (try dsimp only); (try k_lt l1); (try k_sweep)))
local macro_rules | `(tactic| walk_at "subscriptTail Subscript Slice ref ref") => `(tactic| (k_here; k_dflt (refine' slice_L ?F ?N ?m ?p ?q ?z ?e ?_ ?s ?t; (case F | N => k_asm); (case m => k_mem); (case p | q => kmk_part); (case z => walk_at "sk size"); (case e => walk_at "sk pick"); (case s => with_unfolding_all rfl); (case t => kmk_pure)); intro D' h' F' N' l1; (try dsimp only); (try k_lt l1); (try k_sweep)))
local macro_rules | `(tactic| walk_at "exec Assign cons ListComp") => `(tactic| refine Stp.mk ?_)
local macro_rules | `(tactic| walk_at "sk compAT") => `(tactic| (unfold Stp; refine LCt.Assign_ListComp_T (F₀ := by k_asm) (by rfl) (by with_unfolding_all rfl) (by with_unfolding_all rfl) (by decide) (by rfl) (by decide) (by rfl) (by rfl) (by rfl) ?_))
local macro_rules | `(tactic| walk_at "sk compAU") => `(tactic| (unfold Stp; refine LCg.Assign_ListComp_U (F₀ := by k_asm) (by rfl) (by with_unfolding_all rfl) (by with_unfolding_all rfl) (by decide) (by rfl) (by decide) (by rfl) (by rfl) (by rfl) ?_))
local macro_rules | `(tactic| walk_at "FCPost") => `(tactic| dsimp only [FCPost])
local macro_rules | `(tactic| walk_at "call builtin:len") => `(tactic| (k_here; (with_reducible show wpAny _ _ (call (Value.builtin "len") [Value.ref _]) _ _ _); k_dflt (refine' len_L ?k1 ?k2 ?k3 ?_; (case k1 => k_asm); (case k2 => k_mem); (case k3 => omega))))
local macro_rules | `(tactic| walk_at "compareOp IsNot ref ref") => `(tactic| refine Stp.mk ?_)
local macro_rules | `(tactic| walk_at "compareOp Is ref ref") => `(tactic| refine Stp.mk ?_)
local macro_rules | `(tactic| walk_at "ite") => `(tactic| (k_here; k_openite; first
  | (refine ite_pos (by (try simp only [decide_eq_true_eq, beq_iff_eq, bne_iff_ne, ne_eq]); omega) ?_; walk_say "PRUNED by omega")
  | (refine ite_neg (by (try simp only [decide_eq_true_eq, beq_iff_eq, bne_iff_ne, ne_eq]); omega) ?_; walk_say "PRUNED by omega")))
local macro_rules | `(tactic| walk_at "sk sub2") => `(tactic| (intro p9 h9; (repeat (first | exact h9 | refine List.mem_cons_of_mem _ ?_ | refine List.mem_append_right _ ?_)); done))
/-! a for over a list of the ledger -/
section
variable {prog : Program} {w : World} {A : Around} {E : Value → Shared → Prop} {Q : Flow → Shared → Prop} {s : Shared} {env : Env} {h₀ : Heap}
def FLEnd (h₀ : Heap) (L : Addr) (s : Shared) (I : Addr) (oI : Obj) (x : Str) (news : List (Addr × Obj)) (R : Prop) (m₀ : Str → Option Value) (s₂ : Shared) : Prop :=
  ∃ h' tk m', s₂ = { s with heap := h', toks := tk } ∧ Fr h₀ L h' m' ∧ News h₀ L h' ((I, oI) :: news) ∧ (∀ z, z ≠ x → m' z = m₀ z) ∧ R
def FLPost (h₀ : Heap) (L : Addr) (s : Shared) (I : Addr) (oI : Obj) (x : Str) (news : List (Addr × Obj)) (R : Prop) (m₀ : Str → Option Value) (Q : Flow → Shared → Prop) (f : Flow) (s₂ : Shared) : Prop :=
  match f with
  | .ret v => Q (.ret v) s₂
  | .brk => Q .next s₂
  | _ => FLEnd h₀ L s I oI x news R m₀ s₂
def LoopL (prog : Program) (w : World) (A : Around) (h₀ : Heap) (env : Env) (x : Str) (body : List Stmt) (Q : Flow → Shared → Prop) (E : Value → Shared → Prop) (xv : Value) (s₁ : Shared) : Prop :=
  ∃ (ax : Addr) (its : List Value) (k : Nat) (m₀ : Str → Option Value) (news : List (Addr × Obj)) (R : Nat → Prop),
    xv = .ref ax ∧ Fr h₀ env.locals s₁.heap m₀ ∧ News h₀ env.locals s₁.heap news ∧ (ax, listOf its.toArray k) ∈ news ∧ R 0 ∧
    (∀ i v h tk I oI, its[i]? = some v → R i → (∀ p ∈ news, p.1 < I) → Fr h₀ env.locals h (fun y => if y = x then some v else m₀ y) → News h₀ env.locals h ((I, oI) :: news) →
      wpAny (model prog w) A (execs body env) (FLPost h₀ env.locals s₁ I oI x news (R (i + 1)) m₀ Q) E { s₁ with heap := h, toks := tk }) ∧
    (∀ (u : Str → Option Value) h tk, R its.length → Fr h₀ env.locals h (fun y => if y = x then u y else m₀ y) → News h₀ env.locals h news → Q .next { s₁ with heap := h, toks := tk })
theorem for_L1 {x : Str} {px pos : Pos} {iter : Expr} {body : List Stmt} (hx : env.kindOf x = some .local) (hkf : (env.scope.kind == .class || (env.scope.kind == .module && env.locals != env.globals)) = false) (hh : A.handled = none)
    (h : wpAny (model prog w) A (eval iter env) (LoopL prog w A h₀ env x body Q E) E s)
    (hs : ∀ x, foldedSetIterable iter env x = pure x := by intro _; rfl) (hE : PassesOwn (model prog w) A env E := by passes_own) :
    wpAny (model prog w) A (exec (.For (.Name x px) iter body [] pos) env) Q E s := by
  refine wpAny_For (wpAny_mono h (fun xv s₁ h₁ => ?_) fun _ _ e => e) hs
  obtain ⟨ax, its, k, m₀, news, R, rfl, F, N, hm, hR0, turn, done⟩ := h₁
  have hl : s₁.heap.IsList ax its.toArray := ⟨_, (N _ hm).1, rfl, k, rfl⟩
  have hlt : ax < s₁.heap.objs.size := Heap.lt_size (N _ hm).1
  refine wpAny_pyIter_list hl ?_
  have up : ∀ b o, s₁.heap.get? b = some o → (s₁.heap.push { cls := .type "list_iterator", data := .fields #[.ref ax, .int 0 0] }).get? b = some o := fun b o e => Heap.get?_push_of_some _ e
  have W := Walks.list (prog := prog) (w := w) hh s₁.heap.objs.size ax (Nat.ne_of_lt hlt) its.toArray
  have hit0 : (s₁.heap.push { cls := .type "list_iterator", data := .fields #[.ref ax, .int 0 0] }).IsListIter s₁.heap.objs.size ax 0 := ⟨_, Heap.get?_push_size _ rfl, rfl, rfl⟩
  have hLI : env.locals ≠ s₁.heap.objs.size := Nat.ne_of_lt F.ns.lt
  have hI0 : h₀.get? s₁.heap.objs.size = none := next_is_new F
  have hnI : ∀ p ∈ news, p.1 < s₁.heap.objs.size := fun p hp => Heap.lt_size (N p hp).1
  generalize hI : s₁.heap.objs.size = I at W hit0 hLI hI0 hnI ⊢
  refine codeAny_forLoop (fun k s' => ∃ h' tk m' i, s' = { s₁ with heap := h', toks := tk } ∧ (h'.IsListIter I ax i ∧ h'.IsList ax its.toArray) ∧ Fr h₀ env.locals h' m' ∧ News h₀ env.locals h' news ∧ (∀ z, z ≠ x → m' z = m₀ z) ∧ R i ∧ i ≤ its.length ∧ k = its.length + 1 - i) ?_ (its.length + 1)
    ⟨_, s₁.toks, m₀, 0, rfl, ⟨hit0, hl.at fun o e => up _ _ e⟩, F.push _, (fun p hp => ⟨up _ _ (N p hp).1, (N p hp).2⟩), fun _ _ => rfl, hR0, Nat.zero_le _, rfl⟩
  rintro k' s' ⟨h', tk, m', i, rfl, hit, F', N', hm', hRi, hi, rfl⟩
  have keep : ∀ h₁ : Heap, (∀ b o, b ∉ [I] → h'.get? b = some o → h₁.get? b = some o) → Fr h₀ env.locals h₁ m' ∧ News h₀ env.locals h₁ news := fun h₁ hk₁ =>
    ⟨⟨F'.ns.at' fun o e => hk₁ _ o (by simpa using hLI) e, fun b o e => hk₁ b o (by
        intro hm
        rw [List.mem_singleton.mp hm, hI0] at e
        cases e) (F'.keep b o e), F'.above⟩, fun p hp => ⟨hk₁ _ _ (by
        intro hm
        exact Nat.ne_of_lt (hnI p hp) (List.mem_singleton.mp hm)) (N' p hp).1, (N' p hp).2⟩⟩
  by_cases hlt2 : i < its.length
  · refine W.item i _ _ _ (by simpa using hlt2) hit fun v h₁ tk₁ hP hst₁ hk₁ => ?_
    obtain ⟨F₁, N₁⟩ := keep h₁ hk₁
    obtain ⟨oI, heI⟩ : ∃ oI, h₁.get? I = some oI := by obtain ⟨o, e, _⟩ := hst₁.1; exact ⟨o, e⟩
    have N₁' : News h₀ env.locals h₁ ((I, oI) :: news) := fun p hp => by
      rcases List.mem_cons.mp hp with rfl | hp
      · exact ⟨heI, hLI.symm, hI0⟩
      · exact N₁ p hp
    refine wpAny_assign_Name (wpAny_storeName_local hx F₁.ns (fun h₂ hn hs₂ => ?_) hkf)
    have F₂ := F₁.set hn hs₂
    have N₂ := N₁'.set hs₂
    have e2 : (fun y => if y = x then some v else m' y) = fun y => if y = x then some v else m₀ y := by
      funext y
      by_cases hy : y = x
      · simp [hy]
      · simp [hy, hm' y hy]
    rw [e2] at F₂
    have step := turn i v h₂ (tk₁ + 1) I oI (by simpa using hP) hRi hnI F₂ N₂
    refine wpAny_mono (wpAny_passesOwn hE step) (fun f s₃ h₃ => ?_) fun _ _ e => e
    have fin : FLEnd h₀ env.locals s₁ I oI x news (R (i + 1)) m₀ s₃ → ∃ m, m < its.length + 1 - i ∧ ∃ h' tk m' i, s₃ = { s₁ with heap := h', toks := tk } ∧ (h'.IsListIter I ax i ∧ h'.IsList ax its.toArray) ∧ Fr h₀ env.locals h' m' ∧ News h₀ env.locals h' news ∧ (∀ z, z ≠ x → m' z = m₀ z) ∧ R i ∧ i ≤ its.length ∧ m = its.length + 1 - i := by
      rintro ⟨h3, tk3, m3, rfl, F3, N3, q1, q2⟩
      refine ⟨its.length + 1 - (i + 1), by omega, h3, tk3, m3, i + 1, rfl, ⟨hst₁.1.at fun o e => ?_, ⟨_, (N3 _ (.tail _ hm)).1, rfl, k, rfl⟩⟩, F3, fun p hp => N3 p (.tail _ hp), q1, q2, hlt2, rfl⟩
      rw [heI] at e
      cases e
      exact (N3 _ (.head _)).1
    cases f with
    | ret v => exact h₃
    | brk => exact h₃
    | next => exact fin h₃
    | cont => exact fin h₃
  · have hin : i = its.length := by omega
    subst hin
    refine W.done _ _ _ (by simpa using hit) fun h₁ tk₁ hk₁ => wpAny_execs_nil ?_
    obtain ⟨F₁, N₁⟩ := keep h₁ hk₁
    refine done m' h₁ tk₁ hRi ?_ N₁
    have e2 : (fun y => if y = x then m' y else m₀ y) = m' := by
      funext y
      by_cases hy : y = x
      · simp [hy]
      · simp [hy, hm' y hy]
    rw [e2]; exact F₁
end
local macro_rules | `(tactic| walk_at "InitBack") => `(tactic| dsimp only [InitBack])
local macro_rules | `(tactic| walk_at "exec For Name Name cons nil") => `(tactic| refine Stp.mk ?_)
local macro_rules | `(tactic| walk_at "FLPost") => `(tactic| dsimp only [FLPost])
/-! entry of a def that holds a try, for a caller with cells -/
section
variable {prog : Program} {w : World} {A₀ A : Around} {s : Shared} {base h₀ g₀ : Heap} {L a : Addr} {m : Str → Option Value} {cn : Str} {cs : Scope} {ccd : Value} {cl : List (Str × Addr)} {news : List (Addr × Obj)} {K : Frag} {p : Program} {loose : List Str} {mean : ExcName → Option Value} {mg mb : Str → Option Value}
    {R : Result → Shared → Prop} {name qual : Str} {params : Arguments} {body : List Stmt} {scope : Scope} {dV kV doc pm cdv ct oc : Value} {an od : Option Addr} {osl : Array (Option Value)} {f : Addr} {args : Args} {binds : List (Str × Value)}
theorem back_turn {g g' : Heap} {L' : Addr} {m' : Str → Option Value} {s' : Shared} {news' : List (Addr × Obj)} (FG : Fr h₀ L g m) (T : KtsTurn [L] g g') (F' : Fr g' L' s'.heap m') (N' : News g' L' s'.heap news') : Fr h₀ L s'.heap m ∧ News h₀ L s'.heap news' := by
  obtain ⟨oL, es, ep, hL, hLd, hLk, hLf⟩ := FG.ns
  obtain ⟨sl, hs⟩ := T.up hL
  have nL : h₀.get? L = none := kts_self FG
  have up : ∀ b o, h₀.get? b = some o → g'.get? b = some o := fun b o e => T.other b o (FG.keep b o e) (fun q => by
    rw [List.mem_singleton.mp q, nL] at e
    cases e)
  refine ⟨⟨⟨_, es, ep, F'.keep _ _ hs, hLd, hLk, hLf⟩, fun b o e => F'.keep b o (up b o e), FG.above⟩, fun q hq => ⟨(N' q hq).1, fun z => ?_, ?_⟩⟩
  · have e := (N' q hq).2.2
    rw [z, hs] at e
    cases e
  · cases e : h₀.get? q.1 with
    | none => rfl
    | some o =>
      have e2 := (N' q hq).2.2
      rw [up _ _ e] at e2
      cases e2
theorem code_S0X (B : Below A₀ base [] h₀) (F : Fr h₀ L s.heap m) (X₀ : K.In h₀) (N : News h₀ L s.heap news) (T : Top p loose mean mg mb h₀) (hA : A.frames = some [envX cn cs L a ccd cl])
    (ho : K.lookup f = some ⟨oc, od, .func (fnOf name qual params body scope dV kV doc pm an cdv ct), osl⟩) (hcd : codeIn K cdv qual = true) (hroom : A.depth < recursionLimit)
    (hbind : BindsTo s (fnOf name qual params body scope dV kV doc pm an cdv ct) args binds) (hloc : ∀ y ∈ binds, scope.names.lookup y.1 = some .local)
    (h : ∀ g L' h₁, Fr h₀ L g m → Fr g L' h₁ (fun y => binds.reverse.lookup y) → News g L' h₁ news → Below A base [envX cn cs L a ccd cl] g → K.In g → Top p loose mean mg mb g → KtsDicts ([envX cn cs L a ccd cl].filterMap (·.frame)) g →
      wpAny (model prog w) (A.deeper (envOf qual scope L' f cdv)) (execs body (envOf qual scope L' f cdv))
        (fun fl s' => LeaveS0 ([envX cn cs L a ccd cl].filterMap (·.frame)) h₀ L m g R (match fl with | .ret v => v | _ => .none) s')
        (fun e s' => wpAny (model prog w) (A.deeper (envOf qual scope L' f cdv)) (leaving (envOf qual scope L' f cdv) e) (fun _ s'' => R (.error e) s'') (fun e' s'' => R (.error e') s'') s')
        { s with heap := h₁, toks := s.toks + binds.length })
    (hck : cs.kind = .function) (hco : scope.isCoroutine = false) (hgen : scope.isGenerator = false) (hk : scope.kind = .function)
    (hcell : ∀ x ∈ scope.names, x.2 ≠ .cell) : codeAny (model prog w) A (.call (.ref f) args) R s := by
  obtain ⟨FG, BG, st, _⟩ := groundX (R := R) B F N hA (show (envX cn cs L a ccd cl).frame = some L from rfl) hck
  refine codeAny_call_def (fd := fnOf name qual params body scope dV kV doc pm an cdv ct) (body := body) (binds := binds) hroom ((X₀.keeps F.keep) _ _ ho) rfl (T.nolimit.keeps F.keep) (codeRec_of (X₀.keeps F.keep) hcd) rfl hbind hcell hloc (fun h₁ hns hk₁ => ?_) hco hgen hk
  refine wpAny_mono (h _ s.heap.objs.size h₁ FG ⟨hns, fun b o e => hk₁ b o (of_hideAll _ e), Nat.le_of_eq (hideAll_size _ _)⟩
    (fun q hq => ⟨hk₁ _ _ (N q hq).1, Nat.ne_of_lt (Heap.lt_size (N q hq).1), hideAll_none _ (List.mem_map_of_mem hq)⟩) BG (X₀.keeps st) (T.keeps st) (fun b hb => ?_)) (fun fl s' hl => ?_) fun _ _ y => y
  · obtain ⟨oL, es, ep, hL, hLd, _⟩ := FG.ns
    rw [show b = L from List.mem_singleton.mp hb]
    exact ⟨oL, es, ep, hL, hLd⟩
  · obtain ⟨g', L', m', news', T', F', N', k⟩ := hl
    obtain ⟨F9, N9⟩ := back_turn FG T' F' N'
    exact k F9 N9
end
local macro_rules | `(tactic| walk_at "sk enterT") => `(tactic| (refine' code_S0X ?k1 ?k2 ?k3 ?k4 ?k5 ?kA ?k6 ?k7 ?k8 ?k9 ?kB ?_ ?cK ?c2 ?c3 ?c4 ?c5; (case kA => exact rfl); (case k2 | k1 | k3 | k4 | k5 => k_asm); (case k6 | k7 => k_is); (case k8 => walk_at "cx room"); (case k9 => exact BindsTo.of_eq rfl); (case kB => exact locs rfl); (case cK => first | exact rfl | assumption); (case c2 | c3 | c4 => exact rfl); (case c5 => decide); k_whole; intro g' L' h' FG' F' N' B' X' T' D'; (try dsimp only); walk_at "sk open"; (try k_fold)))
section
variable {w : World} {dp un : Nat} {gd : Option (List Code)} {cn : Str} {cs : Scope} {L a : Addr} {ccd : Value} {cl : List (Str × Addr)} {h₀ : Heap} {m : Str → Option Value} {s : Shared} {Q E : Value → Shared → Prop} {news n0 : List (Addr × Obj)}
theorem refused_low {o R : Addr} {mx : Int} {tm : Tok} (C : Cx w dp un cs [] h₀ s.heap L m news 8) (B0 : ∃ A₀, Below A₀ h₀ [] h₀) (hlo : -100 < mx) (hm : mx < 1)
    (ret : ∀ h' tk', Fr h₀ L h' m → News h₀ L h' news → Q (.bool true) { s with heap := h', toks := tk' }) :
    wpAny (model PySem.Challenge.rw_no0405_01.row.prog w) (ktrTop dp un gd cn cs L a ccd cl []) (call (.ref 384) [.ref o, .int mx tm, .ref R]) Q E s := by
  obtain ⟨_, F, X, N, ⟨p, loose, mean, mg, mb, Tp⟩, hk, hdp, hun⟩ := C
  obtain ⟨A₀, B'⟩ := B0
  refine wpAny_call ?_
  k_dflt walk_at "sk enterT"
  k_steps
  exact ret _ _ (by k_asm) (by walk_at "sk news")
theorem refused_none {o R : Addr} {er : Nat} {mx : Int} {tm : Tok} (C : Cx w dp un cs [] h₀ s.heap L m news 8) (B0 : ∃ A₀, Below A₀ h₀ [] h₀) (hR : (R, listOf [].toArray er) ∈ news) (hm : 1 ≤ mx)
    (ret : ∀ h' tk', Fr h₀ L h' m → News h₀ L h' news → Q (.bool true) { s with heap := h', toks := tk' }) :
    wpAny (model PySem.Challenge.rw_no0405_01.row.prog w) (ktrTop dp un gd cn cs L a ccd cl []) (call (.ref 384) [.ref o, .int mx tm, .ref R]) Q E s := by
  obtain ⟨_, F, X, N, ⟨p, loose, mean, mg, mb, Tp⟩, hk, hdp, hun⟩ := C
  obtain ⟨A₀, B'⟩ := B0
  have hl0 : ([] : List Value).length = 0 := rfl
  refine wpAny_call ?_
  k_dflt walk_at "sk enterT"
  k_steps
  exact ret _ _ (by k_asm) (by walk_at "sk news")
theorem refused_bad {o R : Addr} {er : Nat} {mx x : Int} {tm : Tok} {hv : List Value} {HA HB : List Int} (C : Cx w dp un cs [] h₀ s.heap L m news 8) (B0 : ∃ A₀, Below A₀ h₀ [] h₀) (hR : (R, listOf hv.toArray er) ∈ news) (hm : 1 ≤ mx) (hm2 : mx < 100)
    (hI : IntsAre hv (HA ++ x :: HB)) (hsz : hv.length ≤ 8) (hA : ∀ y ∈ HA, 1 ≤ y ∧ y ≤ mx) (hx : x < 1 ∨ mx < x) (hx1 : -100 < x) (hx2 : x < 100)
    (ret : ∀ h' tk', Fr h₀ L h' m → News h₀ L h' news → Q (.bool true) { s with heap := h', toks := tk' }) :
    wpAny (model PySem.Challenge.rw_no0405_01.row.prog w) (ktrTop dp un gd cn cs L a ccd cl []) (call (.ref 384) [.ref o, .int mx tm, .ref R]) Q E s := by
  obtain ⟨_, F, X, N, ⟨p, loose, mean, mg, mb, Tp⟩, hk, hdp, hun⟩ := C
  obtain ⟨A₀, B'⟩ := B0
  have hln := hI.length
  rw [List.length_append, List.length_cons] at hln
  refine wpAny_call ?_
  k_dflt walk_at "sk enterT"
  k_steps
  unfold Stp
  rename_i g1 L1 h1 FG1 F1 N1 B1 X1 T1 tk1
  refine for_L1 (h₀ := g1) rfl rfl rfl ?_
  k_steps
  refine ⟨R, hv, er, _, _, fun i => i ≤ HA.length, rfl, by k_asm, N1, by k_mem, Nat.zero_le _, ?turn, ?done⟩
  case turn =>
    intro i v h tk I oI hv3 hRi hI3 F3 N3
    change Fr g1 L1 _ _ at F3
    change News g1 L1 _ _ at N3
    (try k_fold)
    obtain ⟨n3, t3, rfl, hn3⟩ := IntsAre.at hI i v hv3
    by_cases hi3 : i < HA.length
    · rw [List.getElem?_append_left hi3] at hn3
      obtain ⟨b1, b2⟩ := hA n3 (List.mem_of_getElem? hn3)
      k_steps
      exact ⟨_, _, _, rfl, by k_asm, by k_asm, fun z hz => by simp [hz], by omega⟩
    · have hi4 : i = HA.length := by omega
      subst hi4
      rw [List.getElem?_append_right (Nat.le_refl _), Nat.sub_self, List.getElem?_cons_zero] at hn3
      cases hn3
      rcases hx with hx | hx
      · k_steps
        exact ret _ _ (by k_asm) (by walk_at "sk news")
      · k_steps
        exact ret _ _ (by k_asm) (by walk_at "sk news")
  case done =>
    intro u h tk hRn F3 N3
    exfalso
    omega
end
section
variable {w : World} {dp un : Nat} {gd : Option (List Code)} {cn : Str} {cs : Scope} {L a : Addr} {ccd : Value} {cl : List (Str × Addr)} {outer : List Env} {h₀ : Heap} {m : Str → Option Value} {s : Shared} {Q E : Value → Shared → Prop} {news n0 : List (Addr × Obj)}
theorem lks_nil {n : Nat} : List.replicate n Value.none = lks n [] := by
  unfold lks
  rw [List.eq_replicate_of_mem (l := (List.range n).map fun j => nxt j []) (a := Value.none) (by intro b hb; obtain ⟨j, _, rfl⟩ := List.mem_map.mp hb; rfl)]
  simp
theorem sl_mk {P : Params} {led : List (Addr × Obj)} {sa sd o R ha hd hl : Addr} {most ep : Nat} {i : Bool} {t1 t2 t3 t4 t5 u1 u2 : Tok} {n : Nat} {q1 q2 q3 q4 q5 : Tok} {q6 : Nat} (h1 : (sa, instObj 345 sd) ∈ led)
    (h2 : (sd, dictOf [⟨PyData.keyHash P (Str.ofString "order"), .str (Str.ofString "order") t1, .ref o⟩, ⟨PyData.keyHash P (Str.ofString "heights"), .str (Str.ofString "heights") t2, .ref R⟩, ⟨PyData.keyHash P (Str.ofString "head"), .str (Str.ofString "head") t3, .ref ha⟩,
      ⟨PyData.keyHash P (Str.ofString "height"), .str (Str.ofString "height") t4, .int 1 u1⟩, ⟨PyData.keyHash P (Str.ofString "added"), .str (Str.ofString "added") t5, .int 0 u2⟩] n) ∈ led)
    (h3 : (ha, instObj 275 hd) ∈ led)
    (h4 : (hd, dictOf [⟨PyData.keyHash P (Str.ofString "key"), .str (Str.ofString "key") q1, .bytes #[] q4⟩, ⟨PyData.keyHash P (Str.ofString "value"), .str (Str.ofString "value") q2, .bytes #[] q5⟩, ⟨PyData.keyHash P (Str.ofString "links"), .str (Str.ofString "links") q3, .ref hl⟩] q6) ∈ led)
    (h5 : (hl, listOf (List.replicate most Value.none).toArray ep) ∈ led) (ho : OrdAt P led i o) (hm1 : 1 ≤ most) (hm2 : most ≤ 4) : SlIn P led ⟨sa, sd, o, R, ha, hd, hl, most, i⟩ [] where
  inst := h1
  dict := ⟨t1, t2, t3, t4, t5, u1, u2, n, h2⟩
  ord := ho
  head := ⟨h3, ⟨q1, q2, q3, q4, q5, q6, h4⟩, ep, by rw [← lks_nil]; exact h5⟩
  chain := trivial
  nodup := by simp
  sorted := .nil
  keys := fun _ h => nomatch h
  hts := fun _ h => nomatch h
  few := Nat.zero_le _
  mostLo := hm1
  mostHi := hm2
theorem make_spec {o R : Addr} {i : Bool} {er most : Nat} {tm : Tok} {hv : List Value} {hn : List Int} (C : Cx w dp un cs outer h₀ s.heap L m news 8) (hR : (R, listOf hv.toArray er) ∈ news)
    (hI : IntsAre hv hn) (hsz : hv.length ≤ 8) (hne : 1 ≤ hv.length) (good : ∀ y ∈ hn, 1 ≤ y ∧ y ≤ (most : Int)) (hm1 : 1 ≤ most) (hm2 : most ≤ 4) (ho : OrdAt w.params news i o)
    (ret : ∀ S news2 h' tk', S.o = o → S.hs = R → S.most = most → S.i = i → SlIn w.params (news2 ++ news) S [] → Fr h₀ L h' m → News h₀ L h' (news2 ++ news) → Q (.ref S.sa) { s with heap := h', toks := tk' }) :
    wpAny (model PySem.Challenge.rw_no0405_01.row.prog w) (ktrTop dp un gd cn cs L a ccd cl outer) (call (.ref 345) [.ref o, .int (most : Nat) tm, .ref R]) Q E s := by
  obtain ⟨⟨A₀, base, B'⟩, F, X, N, ⟨p, loose, mean, mg, mb, Tp⟩, hk, hdp, hun⟩ := C
  have hln := hI.length
  k_steps
  unfold Stp
  rename_i g1 L1 h1 FG1 F1 N1 B1 X1 T1 tk1
  refine for_L1 (h₀ := g1) rfl rfl rfl ?_
  k_steps
  refine ⟨R, hv, er, _, _, fun _ => True, rfl, by k_asm, N1, by k_mem, trivial, ?turn, ?done⟩
  case turn =>
    intro i v h tk I oI hv3 hRi hI3 F3 N3
    change Fr g1 L1 _ _ at F3
    change News g1 L1 _ _ at N3
    (try k_fold)
    obtain ⟨n3, t3, rfl, hn3⟩ := IntsAre.at hI i v hv3
    obtain ⟨b1, b2⟩ := good n3 (List.mem_of_getElem? hn3)
    k_steps
    exact ⟨_, _, _, rfl, by k_asm, by k_asm, fun z hz => by simp [hz], trivial⟩
  case done =>
    intro u h tk hRn F3 N3
    change Fr g1 L1 _ _ at F3
    change News g1 L1 _ _ at N3
    k_steps
    refine' ret ⟨_, _, o, R, _, _, _, most, i⟩ [_, _, _, _, _, _] _ _ ?e1 ?e2 ?e3 ?e4 ?sl ?F ?N
    case N => k_asm
    case F => k_asm
    case e1 => rfl
    case e2 => rfl
    case e3 => rfl
    case e4 => rfl
    case sl =>
      refine' sl_mk ?a ?b ?c ?d ?e ?f hm1 hm2
      case a => k_mem
      case b => k_mem
      case c => k_mem
      case d => k_mem
      case e => k_mem
      case f => exact ho.mono fun p hp => List.mem_append_right _ hp
end
/-! the links while a tower is put in -/
def lksI (i h : Nat) (R R' : List Tw) : List Value := (List.range h).map fun j => if j < i then nxt j R' else nxt j R
def lksN (i h : Nat) (B : List Tw) : List Value := (List.range h).map fun j => if j < i then nxt j B else .none
theorem lksI_zero {h : Nat} {R R' : List Tw} : lksI 0 h R R' = lks h R := by unfold lksI lks; simp
theorem lksN_zero {h : Nat} {B : List Tw} : lksN 0 h B = List.replicate h .none := by
  rw [lks_nil]
  unfold lksN lks
  exact List.map_congr_left fun j _ => by simp [nxt]
theorem nxt_none {j : Nat} {t : Tw} (ht : t.h ≤ j) : ∀ A : List Tw, ∀ {B : List Tw}, nxt j (A ++ t :: B) = nxt j (A ++ B)
  | [], B => by show (if j < t.h then _ else _) = _; rw [if_neg (by omega)]; rfl
  | u :: A, B => by
    show (if j < u.h then Value.ref u.a else nxt j (A ++ t :: B)) = (if j < u.h then Value.ref u.a else nxt j (A ++ B))
    rw [nxt_none ht A]
theorem nxt_here {j : Nat} {t : Tw} (ht : j < t.h) : ∀ {A : List Tw} {B : List Tw}, (∀ u ∈ A, u.h ≤ j) → nxt j (A ++ t :: B) = .ref t.a
  | [], B, _ => by show (if j < t.h then _ else _) = _; rw [if_pos ht]
  | u :: A, B, h => by
    show (if j < u.h then Value.ref u.a else nxt j (A ++ t :: B)) = _
    rw [if_neg (by have := h u (.head _); omega)]
    exact nxt_here ht fun v hv => h v (.tail _ hv)
theorem nxt_past {j : Nat} : ∀ {A : List Tw} {B : List Tw}, (∀ u ∈ A, u.h ≤ j) → nxt j (A ++ B) = nxt j B
  | [], _, _ => rfl
  | u :: A, B, h => by
    show (if j < u.h then Value.ref u.a else nxt j (A ++ B)) = _
    rw [if_neg (by have := h u (.head _); omega)]
    exact nxt_past fun v hv => h v (.tail _ hv)
theorem nxt_fore {j : Nat} {v : Tw} (hv : j < v.h) : ∀ {A : List Tw} {B B' : List Tw}, v ∈ A → nxt j (A ++ B) = nxt j (A ++ B')
  | u :: A, B, B', h => by
    show (if j < u.h then Value.ref u.a else nxt j (A ++ B)) = (if j < u.h then Value.ref u.a else nxt j (A ++ B'))
    by_cases hu : j < u.h
    · rw [if_pos hu, if_pos hu]
    · rw [if_neg hu, if_neg hu]
      rcases List.mem_cons.mp h with rfl | h
      · exact absurd hv hu
      · exact nxt_fore hv h
theorem lksI_all {h : Nat} {t : Tw} {A B : List Tw} : lksI t.h h (A ++ B) (A ++ t :: B) = lks h (A ++ t :: B) := by
  unfold lksI lks
  refine List.map_congr_left fun j _ => ?_
  by_cases hj : j < t.h
  · rw [if_pos hj]
  · rw [if_neg hj, nxt_none (by omega)]
theorem lksN_all {h : Nat} {B : List Tw} : lksN h h B = lks h B := by
  unfold lksN lks
  exact List.map_congr_left fun j hj => by rw [if_pos (List.mem_range.mp hj)]
theorem lksI_same {i h : Nat} {R R' : List Tw} (e : i < h → nxt i R = nxt i R') : lksI (i + 1) h R R' = lksI i h R R' := by
  unfold lksI
  refine List.map_congr_left fun j hj => ?_
  have hj := List.mem_range.mp hj
  by_cases h1 : j < i
  · rw [if_pos h1, if_pos (by omega)]
  · by_cases h2 : j = i
    · subst h2
      rw [if_pos (by omega), if_neg h1, e hj]
    · rw [if_neg h1, if_neg (by omega)]
theorem lksI_len {i h : Nat} {R R' : List Tw} : (lksI i h R R').length = h := by unfold lksI; simp
theorem lksN_len {i h : Nat} {B : List Tw} : (lksN i h B).length = h := by unfold lksN; simp
theorem lksI_at {i h : Nat} {R R' : List Tw} (hi : i < h) : (lksI i h R R')[i]? = some (nxt i R) := by unfold lksI; simp [hi]
theorem lksI_set {i h : Nat} {R R' : List Tw} {x : Value} (hx : nxt i R' = x) : (lksI i h R R').set i x = lksI (i + 1) h R R' := by
  subst hx
  refine List.ext_getElem? fun j => ?_
  by_cases hj : j < h
  · by_cases e : i = j
    · subst e
      rw [List.getElem?_set_self (by rw [lksI_len]; exact hj)]
      unfold lksI
      simp [hj]
    · rw [List.getElem?_set_ne e]
      unfold lksI
      simp only [List.getElem?_map, List.getElem?_range hj, Option.map_some]
      by_cases h1 : j < i
      · rw [if_pos h1, if_pos (by omega)]
      · rw [if_neg h1, if_neg (by omega)]
  · rw [List.getElem?_eq_none (by rw [List.length_set, lksI_len]; omega), List.getElem?_eq_none (by rw [lksI_len]; omega)]
theorem lksN_set {i h : Nat} {B : List Tw} : (lksN i h B).set i (nxt i B) = lksN (i + 1) h B := by
  refine List.ext_getElem? fun j => ?_
  by_cases hj : j < h
  · by_cases e : i = j
    · subst e
      rw [List.getElem?_set_self (by rw [lksN_len]; exact hj)]
      unfold lksN
      simp [hj]
    · rw [List.getElem?_set_ne e]
      unfold lksN
      simp only [List.getElem?_map, List.getElem?_range hj, Option.map_some]
      by_cases h1 : j < i
      · rw [if_pos h1, if_pos (by omega)]
      · rw [if_neg h1, if_neg (by omega)]
  · rw [List.getElem?_eq_none (by rw [List.length_set, lksN_len]; omega), List.getElem?_eq_none (by rw [lksN_len]; omega)]
/-! the list while a tower is put in -/
theorem keep_upd {g h : Heap} {L l : Addr} {led : List (Addr × Obj)} {vs : List Value} {ep : Nat} {o : Obj} {p : Addr × Obj} (N : News g L h led) (hl : (l, listOf vs.toArray ep) ∈ led) (hp : p ∈ led) (hk : p.2.cls ≠ .type "list") : p ∈ updL led l o := by
  refine updL_ne hp fun e => hk ?_
  have z := news_one N hl (show (l, p.2) ∈ led by rw [← e]; exact hp)
  rw [← z]
theorem dict_ne {es : List DictEntry} {n : Nat} : (dictOf es n).cls ≠ .type "list" := fun z => absurd (Value.type.inj z) (by decide)
theorem OrdAt.upd {P : Params} {g h : Heap} {L l : Addr} {led : List (Addr × Obj)} {vs : List Value} {ep : Nat} {o : Obj} {i : Bool} {b : Addr} (N : News g L h led) (hl : (l, listOf vs.toArray ep) ∈ led) (H : OrdAt P led i b) : OrdAt P (updL led l o) i b := by
  cases i with
  | false =>
    obtain ⟨d, h1, h2⟩ := H
    exact ⟨d, keep_upd N hl h1 (by intro z; cases z), keep_upd N hl h2 dict_ne⟩
  | true =>
    obtain ⟨d, u, du, t, n, h1, h2, h3, h4⟩ := H
    exact ⟨d, u, du, t, n, keep_upd N hl h1 (by intro z; cases z), keep_upd N hl h2 dict_ne, keep_upd N hl h3 (by intro z; cases z), keep_upd N hl h4 dict_ne⟩
theorem NodeIn.upd {P : Params} {g h : Heap} {L l a d l' : Addr} {led : List (Addr × Obj)} {vs : List Value} {ep : Nat} {o : Obj} {kbs vbs : List UInt8} {links : List Value} (N : News g L h led) (hl : (l, listOf vs.toArray ep) ∈ led) (hne : l' ≠ l) (H : NodeIn P led a d l' kbs vbs links) : NodeIn P (updL led l o) a d l' kbs vbs links := by
  obtain ⟨h1, ⟨t1, t2, t3, u1, u2, n, h2⟩, ep2, h3⟩ := H
  exact ⟨keep_upd N hl h1 (by intro z; cases z), ⟨t1, t2, t3, u1, u2, n, keep_upd N hl h2 dict_ne⟩, ep2, updL_ne h3 hne⟩
theorem NodeIn.setL {P : Params} {g h : Heap} {L l a d : Addr} {led : List (Addr × Obj)} {ep : Nat} {kbs vbs : List UInt8} {links links' : List Value} (N : News g L h led) (H : NodeIn P led a d l kbs vbs links) : NodeIn P (updL led l (listOf links'.toArray ep)) a d l kbs vbs links' := by
  obtain ⟨h1, ⟨t1, t2, t3, u1, u2, n, h2⟩, ep2, h3⟩ := H
  exact ⟨keep_upd N h3 h1 (by intro z; cases z), ⟨t1, t2, t3, u1, u2, n, keep_upd N h3 h2 dict_ne⟩, ep, updL_self h3⟩
theorem Chain.upd {P : Params} {g h : Heap} {L l : Addr} {led : List (Addr × Obj)} {vs : List Value} {ep : Nat} {o : Obj} (N : News g L h led) (hl : (l, listOf vs.toArray ep) ∈ led) : ∀ {T : List Tw}, (∀ u ∈ T, u.l ≠ l) → Chain P led T → Chain P (updL led l o) T
  | [], _, _ => trivial
  | u :: T, hn, ⟨h1, h2⟩ => ⟨h1.upd N hl (hn u (.head _)), Chain.upd N hl (fun v hv => hn v (.tail _ hv)) h2⟩
def SlDict (P : Params) (led : List (Addr × Obj)) (S : Sl) (hg ad : Nat) : Prop :=
  ∃ t1 t2 t3 t4 t5 u1 u2 n, (S.sd, dictOf [⟨PyData.keyHash P (Str.ofString "order"), .str (Str.ofString "order") t1, .ref S.o⟩, ⟨PyData.keyHash P (Str.ofString "heights"), .str (Str.ofString "heights") t2, .ref S.hs⟩, ⟨PyData.keyHash P (Str.ofString "head"), .str (Str.ofString "head") t3, .ref S.ha⟩,
    ⟨PyData.keyHash P (Str.ofString "height"), .str (Str.ofString "height") t4, .int hg u1⟩, ⟨PyData.keyHash P (Str.ofString "added"), .str (Str.ofString "added") t5, .int ad u2⟩] n) ∈ led
/-- levels below i are done; the new tower's own links are done below k -/
structure Mid (P : Params) (led : List (Addr × Obj)) (S : Sl) (A B : List Tw) (t : Tw) (i k : Nat) : Prop where
  inst : (S.sa, instObj 345 S.sd) ∈ led
  dict : SlDict P led S (tall (A ++ B)) (A ++ B).length
  ord : OrdAt P led S.i S.o
  head : NodeIn P led S.ha S.hd S.hl [] [] (lksI i S.most (A ++ B) (A ++ t :: B))
  fore : ∀ A1 u A2, A = A1 ++ u :: A2 → NodeIn P led u.a u.d u.l (kb u.k) [u.v] (lksI i u.h (A2 ++ B) (A2 ++ t :: B))
  new : NodeIn P led t.a t.d t.l (kb t.k) [t.v] (lksN k t.h B)
  back : Chain P led B
  nodup : (S.hl :: t.l :: (A ++ B).map (·.l)).Nodup
theorem Mid.ne1 {P : Params} {led : List (Addr × Obj)} {S : Sl} {A B : List Tw} {t : Tw} {i k : Nat} (M : Mid P led S A B t i k) : S.hl ≠ t.l ∧ (∀ u ∈ A ++ B, u.l ≠ S.hl) ∧ (∀ u ∈ A ++ B, u.l ≠ t.l) := by
  have nd := M.nodup
  simp only [List.nodup_cons, List.mem_cons, List.mem_map, not_or, not_exists, not_and] at nd
  exact ⟨nd.1.1, fun u hu => nd.1.2 u hu, fun u hu => nd.2.1 u hu⟩
theorem Mid.ne2 {P : Params} {led : List (Addr × Obj)} {S : Sl} {A B : List Tw} {t : Tw} {i k : Nat} (M : Mid P led S A B t i k) {T1 T2 : List Tw} {u : Tw} (e : A ++ B = T1 ++ u :: T2) : ∀ v ∈ T1 ++ T2, v.l ≠ u.l := by
  have nd := M.nodup
  rw [e] at nd
  have nd2 := (List.nodup_cons.mp (List.nodup_cons.mp nd).2).2
  rw [List.map_append, List.map_cons] at nd2
  have := (List.perm_middle.nodup_iff).mp nd2
  rw [List.nodup_cons, ← List.map_append] at this
  intro v hv z
  exact this.1 (by rw [← z]; exact List.mem_map_of_mem hv)
theorem Mid.own {P : Params} {g h : Heap} {L : Addr} {led : List (Addr × Obj)} {S : Sl} {A B : List Tw} {t : Tw} {i : Nat} {ep : Nat} (N : News g L h led) (M : Mid P led S A B t i i) :
    Mid P (updL led t.l (listOf ((lksN i t.h B).set i (nxt i B)).toArray ep)) S A B t i (i + 1) := by
  obtain ⟨n1, n2, n3⟩ := M.ne1
  obtain ⟨_, _, ep0, hl⟩ := M.new
  refine ⟨keep_upd N hl M.inst (by intro z; cases z), ?_, M.ord.upd N hl, M.head.upd N hl n1, fun A1 u A2 e => (M.fore A1 u A2 e).upd N hl (n3 u (by rw [e]; simp)), ?_, Chain.upd N hl (fun u hu => n3 u (List.mem_append_right _ hu)) M.back, M.nodup⟩
  · obtain ⟨t1, t2, t3, t4, t5, u1, u2, n, hd⟩ := M.dict
    exact ⟨t1, t2, t3, t4, t5, u1, u2, n, keep_upd N hl hd dict_ne⟩
  · rw [lksN_set]
    exact M.new.setL N
theorem last_cases (j : Nat) : ∀ A : List Tw, (∀ u ∈ A, u.h ≤ j) ∨ ∃ A1 u A2, A = A1 ++ u :: A2 ∧ j < u.h ∧ ∀ v ∈ A2, v.h ≤ j
  | [] => .inl fun _ h => nomatch h
  | t :: r => by
    rcases last_cases j r with h | ⟨A1, u, A2, rfl, h1, h2⟩
    · by_cases ht : j < t.h
      · exact .inr ⟨[], t, r, rfl, ht, h⟩
      · exact .inl fun u hu => by
          rcases List.mem_cons.mp hu with rfl | hu
          · omega
          · exact h u hu
    · exact .inr ⟨t :: A1, u, A2, rfl, h1, h2⟩
theorem Mid.cur {P : Params} {g h : Heap} {L : Addr} {led : List (Addr × Obj)} {S : Sl} {A B : List Tw} {t : Tw} {i k : Nat} (N : News g L h led) (M : Mid P led S A B t i k) (hi : i < t.h) (ht : t.h ≤ S.most) (hts : ∀ u ∈ A, u.h ≤ S.most) :
    ∃ d l hh kbs vbs R R', NodeIn P led (curA S (A.filter fun u => decide (i < u.h))) d l kbs vbs (lksI i hh R R') ∧ i < hh ∧ hh ≤ S.most ∧ nxt i R = nxt i B ∧ l ≠ t.l ∧ (l = S.hl ∨ ∃ u ∈ A, l = u.l) ∧ ∀ ep, Mid P (updL led l (listOf ((lksI i hh R R').set i (.ref t.a)).toArray ep)) S A B t (i + 1) k := by
  obtain ⟨n1, n2, n3⟩ := M.ne1
  rcases last_cases i A with hall | ⟨A1, u, A2, rfl, hu, hA2⟩
  · have e0 : A.filter (fun u => decide (i < u.h)) = [] := List.filter_eq_nil_iff.mpr fun u hu => by have := hall u hu; simp; omega
    rw [e0]
    obtain ⟨_, _, ep0, hl⟩ := M.head
    refine ⟨S.hd, S.hl, S.most, [], [], A ++ B, A ++ t :: B, M.head, by omega, Nat.le_refl _, nxt_past hall, n1, .inl rfl, fun ep => ?_⟩
    refine ⟨keep_upd N hl M.inst (by intro z; cases z), ?_, M.ord.upd N hl, ?_, fun A1 u A2 e => ?_, M.new.upd N hl n1.symm, Chain.upd N hl (fun u hu => n2 u (List.mem_append_right _ hu)) M.back, M.nodup⟩
    · obtain ⟨t1, t2, t3, t4, t5, u1, u2, n, hd⟩ := M.dict
      exact ⟨t1, t2, t3, t4, t5, u1, u2, n, keep_upd N hl hd dict_ne⟩
    · rw [lksI_set (nxt_here hi hall)]
      exact M.head.setL N
    · have hu : u ∈ A := by rw [e]; simp
      rw [lksI_same fun hlt => absurd (hall u hu) (by omega)]
      exact (M.fore A1 u A2 e).upd N hl (n2 u (List.mem_append_left _ hu))
  · have e0 : curA S ((A1 ++ u :: A2).filter fun u => decide (i < u.h)) = u.a := by
      have e1 : A2.filter (fun u => decide (i < u.h)) = [] := List.filter_eq_nil_iff.mpr fun v hv => by have := hA2 v hv; simp; omega
      rw [List.filter_append, List.filter_cons, if_pos (by simpa using hu), e1]
      exact cur_snoc.1
    rw [e0]
    have hnode := M.fore A1 u A2 rfl
    obtain ⟨_, _, ep0, hl⟩ := id hnode
    have hother := M.ne2 (T1 := A1) (T2 := A2 ++ B) (u := u) (by simp)
    refine ⟨u.d, u.l, u.h, kb u.k, [u.v], A2 ++ B, A2 ++ t :: B, hnode, hu, hts u (by simp), nxt_past hA2, n3 u (by simp), .inr ⟨u, by simp, rfl⟩, fun ep => ?_⟩
    refine ⟨keep_upd N hl M.inst (by intro z; cases z), ?_, M.ord.upd N hl, ?_, fun A1' w A2' e => ?_, M.new.upd N hl (n3 u (by simp)).symm, Chain.upd N hl (fun v hv => hother v (by simp [hv])) M.back, M.nodup⟩
    · obtain ⟨t1, t2, t3, t4, t5, u1, u2, n, hd⟩ := M.dict
      exact ⟨t1, t2, t3, t4, t5, u1, u2, n, keep_upd N hl hd dict_ne⟩
    · rw [lksI_same fun _ => nxt_fore hu (by simp)]
      exact M.head.upd N hl (n2 u (by simp)).symm
    · have set1 : NodeIn P (updL led u.l (listOf ((lksI i u.h (A2 ++ B) (A2 ++ t :: B)).set i (.ref t.a)).toArray ep)) u.a u.d u.l (kb u.k) [u.v] (lksI (i + 1) u.h (A2 ++ B) (A2 ++ t :: B)) := by
        rw [lksI_set (nxt_here hi hA2)]
        exact hnode.setL N
      rcases List.append_eq_append_iff.mp e with ⟨a', h1, h2⟩ | ⟨c', h1, h2⟩
      · cases a' with
        | nil =>
          rw [List.nil_append] at h2
          cases h2
          exact set1
        | cons x a'' =>
          rw [List.cons_append] at h2
          injection h2 with q1 q2
          have hw : w ∈ A2 := by rw [q2]; simp
          rw [lksI_same fun hlt => absurd (hA2 w hw) (by omega)]
          exact (M.fore A1' w A2' e).upd N hl (hother w (by simp [hw]))
      · cases c' with
        | nil =>
          rw [List.nil_append] at h2
          cases h2
          exact set1
        | cons x c'' =>
          rw [List.cons_append] at h2
          injection h2 with q1 q2
          have hw : w ∈ A1 := by rw [h1, q1]; simp
          rw [lksI_same fun _ => nxt_fore hu (by rw [q2]; simp)]
          exact (M.fore A1' w A2' e).upd N hl (hother w (by simp [hw]))
theorem Chain.of {P : Params} {led : List (Addr × Obj)} {B : List Tw} : ∀ {A : List Tw}, (∀ A1 u A2, A = A1 ++ u :: A2 → NodeIn P led u.a u.d u.l (kb u.k) [u.v] (lks u.h (A2 ++ B))) → Chain P led B → Chain P led (A ++ B)
  | [], _, h => h
  | u :: A, h1, h2 => ⟨h1 [] u A rfl, Chain.of (fun A1 v A2 e => h1 (u :: A1) v A2 (by rw [e]; rfl)) h2⟩
theorem Mid.start {P : Params} {led led' : List (Addr × Obj)} {S : Sl} {A B : List Tw} {t : Tw} (SI : SlIn P led S (A ++ B)) (hs : ∀ p ∈ led, p ∈ led') (hn : NodeIn P led' t.a t.d t.l (kb t.k) [t.v] (List.replicate t.h Value.none)) (hl : ∀ p ∈ led, p.1 ≠ t.l) : Mid P led' S A B t 0 0 := by
  have SI' := SI.mono hs
  refine ⟨SI'.inst, SI'.dict, SI'.ord, by rw [lksI_zero]; exact SI'.head, fun A1 u A2 e => ?_, by rw [lksN_zero]; exact hn, ?_, ?_⟩
  · rw [lksI_zero]
    have := SI'.chain
    rw [e, List.append_assoc, List.cons_append] at this
    exact Chain.at this
  · have : ∀ A : List Tw, Chain P led' (A ++ B) → Chain P led' B := fun A => by
      induction A with
      | nil => exact id
      | cons x A ih => exact fun h => ih h.2
    exact this A SI'.chain
  · have nd := SI.nodup
    rw [List.nodup_cons] at nd
    obtain ⟨_, _, ep, hh⟩ := SI.head
    refine List.nodup_cons.mpr ⟨?_, List.nodup_cons.mpr ⟨?_, nd.2⟩⟩
    · rw [List.mem_cons, not_or]
      exact ⟨hl _ hh, nd.1⟩
    · intro hm
      obtain ⟨u, hu, e⟩ := List.mem_map.mp hm
      obtain ⟨X, Y, hXY⟩ := List.append_of_mem hu
      have hc := SI.chain
      rw [hXY] at hc
      obtain ⟨_, _, ep2, h2⟩ := Chain.at hc
      exact hl _ h2 e
theorem tall_app : ∀ {A B : List Tw} {t : Tw}, tall (A ++ t :: B) = max t.h (tall (A ++ B))
  | [], B, t => rfl
  | u :: A, B, t => by
    show max u.h (tall (A ++ t :: B)) = max t.h (max u.h (tall (A ++ B)))
    rw [tall_app]
    omega
/-- a dict of five entries -/
def Five (o : Obj) : Prop := ∃ es n, o = dictOf es n ∧ es.length = 5
theorem five_inst {C d : Addr} : ¬ Five (instObj C d) := by
  rintro ⟨es, n, e, _⟩
  simp [instObj, dictOf] at e
theorem five_list {vs : List Value} {n : Nat} : ¬ Five (listOf vs.toArray n) := by
  rintro ⟨es, k, e, _⟩
  simp [PySem.W.listOf, dictOf] at e
theorem five_dict {es : List DictEntry} {n : Nat} (h : es.length ≠ 5) : ¬ Five (dictOf es n) := by
  rintro ⟨es', k, e, h5⟩
  simp only [dictOf, Obj.mk.injEq, Data.dict.injEq] at e
  have e2 : es = es' := by simpa using e.2.2.1.1
  rw [e2] at h
  exact h h5
theorem OrdAt.part {P : Params} {led led' : List (Addr × Obj)} {i : Bool} {b : Addr} (hs : ∀ p ∈ led, ¬ Five p.2 → p ∈ led') (H : OrdAt P led i b) : OrdAt P led' i b := by
  cases i with
  | false =>
    obtain ⟨d, h1, h2⟩ := H
    exact ⟨d, hs _ h1 five_inst, hs _ h2 (five_dict (by decide))⟩
  | true =>
    obtain ⟨d, u, du, t, n, h1, h2, h3, h4⟩ := H
    exact ⟨d, u, du, t, n, hs _ h1 five_inst, hs _ h2 (five_dict (by simp)), hs _ h3 five_inst, hs _ h4 (five_dict (by decide))⟩
theorem NodeIn.part {P : Params} {led led' : List (Addr × Obj)} {a d l : Addr} {kbs vbs : List UInt8} {links : List Value} (hs : ∀ p ∈ led, ¬ Five p.2 → p ∈ led') (H : NodeIn P led a d l kbs vbs links) : NodeIn P led' a d l kbs vbs links := by
  obtain ⟨h1, ⟨t1, t2, t3, u1, u2, n, h2⟩, ep, h3⟩ := H
  exact ⟨hs _ h1 five_inst, ⟨t1, t2, t3, u1, u2, n, hs _ h2 (five_dict (by simp))⟩, ep, hs _ h3 five_list⟩
theorem Chain.part {P : Params} {led led' : List (Addr × Obj)} (hs : ∀ p ∈ led, ¬ Five p.2 → p ∈ led') : ∀ {T : List Tw}, Chain P led T → Chain P led' T
  | [], _ => trivial
  | _ :: _, ⟨h, r⟩ => ⟨h.part hs, Chain.part hs r⟩
/-- the dict is put ahead of the rest -/
theorem led_fork {g h : Heap} {L D : Addr} {c : List (Addr × Obj)} {o : Obj} (N : News g L h c) (hm : (D, o) ∈ c) : ∃ c', News g L h ((D, o) :: c') ∧ (∀ p ∈ c', p.1 ≠ D) ∧ (∀ p ∈ c, p.1 ≠ D → p ∈ c') ∧ ∀ p ∈ c', p ∈ c := by
  refine ⟨c.filter fun p => decide (p.1 ≠ D), fun p hp => ?_, fun p hp => ?_, fun p hp hd => ?_, fun p hp => ?_⟩
  · rcases List.mem_cons.mp hp with rfl | hp
    · exact N _ hm
    · exact N _ (List.mem_filter.mp hp).1
  · simpa using (List.mem_filter.mp hp).2
  · exact List.mem_filter.mpr ⟨hp, by simpa using hd⟩
  · exact (List.mem_filter.mp hp).1
theorem five_ne {g h : Heap} {L D : Addr} {c : List (Addr × Obj)} {es : List DictEntry} {n : Nat} {p : Addr × Obj} (N : News g L h c) (hm : (D, dictOf es n) ∈ c) (h5 : es.length = 5) (hp : p ∈ c) (hf : ¬ Five p.2) : p.1 ≠ D := fun e => by
  refine hf ?_
  have z := news_one N hm (show (D, p.2) ∈ c by rw [← e]; exact hp)
  exact ⟨es, n, z.symm, h5⟩
/-- after the last level, with the dict brought up to date -/
theorem Mid.done {P : Params} {led led' : List (Addr × Obj)} {S : Sl} {A B : List Tw} {t : Tw} {led0 : List (Addr × Obj)} (M : Mid P led S A B t t.h t.h) (hs : ∀ p ∈ led, ¬ Five p.2 → p ∈ led') (SI : SlIn P led0 S (A ++ B)) (hA : ∀ u ∈ A, rk S.i u.k < rk S.i t.k) (hB : ∀ u ∈ B, ¬ rk S.i u.k < rk S.i t.k) (hne : ∀ u ∈ A ++ B, u.k ≠ t.k)
    (hk : t.k < 48) (h1 : 1 ≤ t.h) (h2 : t.h ≤ S.most) (hfew : (A ++ B).length ≤ 6) (hd : SlDict P led' S (tall (A ++ t :: B)) (A ++ t :: B).length) : SlIn P led' S (A ++ t :: B) where
  inst := hs _ M.inst five_inst
  dict := hd
  ord := M.ord.part hs
  head := by have := M.head.part hs; rw [lksI_all] at this; exact this
  chain := Chain.of (fun A1 u A2 e => by have := (M.fore A1 u A2 e).part hs; rw [lksI_all] at this; exact this) ⟨by have := M.new.part hs; rw [lksN_all] at this; exact this, Chain.part hs M.back⟩
  nodup := by
    have nd := M.nodup
    rw [List.map_append] at nd ⊢
    rw [List.map_cons]
    have p1 : (S.hl :: (A.map (·.l) ++ t.l :: B.map (·.l))).Perm (S.hl :: t.l :: (A.map (·.l) ++ B.map (·.l))) := List.Perm.cons _ List.perm_middle
    exact p1.nodup_iff.mpr nd
  sorted := by
    have so := SI.sorted
    rw [List.pairwise_append] at so ⊢
    have hB2 : ∀ u ∈ B, rk S.i t.k < rk S.i u.k := fun u hu => by
      have a := hB u hu
      rcases Nat.lt_or_ge (rk S.i t.k) (rk S.i u.k) with h | h
      · exact h
      · exact absurd (rk_inj (i := S.i) (SI.keys u (List.mem_append_right _ hu)) hk (by omega)) (hne u (List.mem_append_right _ hu))
    refine ⟨so.1, List.pairwise_cons.mpr ⟨hB2, so.2.1⟩, fun u hu v hv => ?_⟩
    rcases List.mem_cons.mp hv with rfl | hv
    · exact hA u hu
    · exact so.2.2 u hu v hv
  keys := fun u hu => by
    rcases List.mem_append.mp hu with hu | hu
    · exact SI.keys u (List.mem_append_left _ hu)
    · rcases List.mem_cons.mp hu with rfl | hu
      · exact hk
      · exact SI.keys u (List.mem_append_right _ hu)
  hts := fun u hu => by
    rcases List.mem_append.mp hu with hu | hu
    · exact SI.hts u (List.mem_append_left _ hu)
    · rcases List.mem_cons.mp hu with rfl | hu
      · exact ⟨h1, h2⟩
      · exact SI.hts u (List.mem_append_right _ hu)
  few := by rw [List.length_append] at hfew ⊢; rw [List.length_cons]; omega
  mostLo := SI.mostLo
  mostHi := SI.mostHi
theorem Mid.mono {P : Params} {led led' : List (Addr × Obj)} {S : Sl} {A B : List Tw} {t : Tw} {i k : Nat} (M : Mid P led S A B t i k) (hs : ∀ p ∈ led, p ∈ led') : Mid P led' S A B t i k :=
  { M with
    inst := hs _ M.inst
    dict := (let ⟨t1, t2, t3, t4, t5, u1, u2, n, q⟩ := M.dict; ⟨t1, t2, t3, t4, t5, u1, u2, n, hs _ q⟩)
    ord := M.ord.mono hs
    head := M.head.mono hs
    fore := fun A1 u A2 e => (M.fore A1 u A2 e).mono hs
    new := M.new.mono hs
    back := M.back.mono hs }
theorem Mid.of_new {P : Params} {g h : Heap} {L : Addr} {news : List (Addr × Obj)} {S : Sl} {A B : List Tw} {x d nl l0 tl : Addr} {k hg ep n : Nat} {v : UInt8} {o0 o5 : Obj} {t1 t2 t3 u1 u2 : Tok}
    (_N : News g L h ((nl, listOf (List.replicate hg Value.none).toArray ep) :: (l0, o0) :: (x, instObj 275 d) :: (d, dictOf [⟨PyData.keyHash P (Str.ofString "key"), .str (Str.ofString "key") t1, .bytes (kb k).toArray u1⟩, ⟨PyData.keyHash P (Str.ofString "value"), .str (Str.ofString "value") t2, .bytes [v].toArray u2⟩, ⟨PyData.keyHash P (Str.ofString "links"), .str (Str.ofString "links") t3, .ref nl⟩] n) :: (tl, o5) :: news))
    (SI : SlIn P news S (A ++ B)) (hnl : ∀ p ∈ news, p.1 < nl) : Mid P ((nl, listOf (List.replicate hg Value.none).toArray ep) :: (l0, o0) :: (x, instObj 275 d) :: (d, dictOf [⟨PyData.keyHash P (Str.ofString "key"), .str (Str.ofString "key") t1, .bytes (kb k).toArray u1⟩, ⟨PyData.keyHash P (Str.ofString "value"), .str (Str.ofString "value") t2, .bytes [v].toArray u2⟩, ⟨PyData.keyHash P (Str.ofString "links"), .str (Str.ofString "links") t3, .ref nl⟩] n) :: (tl, o5) :: news) S A B ⟨x, d, nl, k, v, hg⟩ 0 0 :=
  Mid.start SI (fun _ hp => .tail _ (.tail _ (.tail _ (.tail _ (.tail _ hp))))) ⟨.tail _ (.tail _ (.head _)), ⟨t1, t2, t3, u1, u2, n, .tail _ (.tail _ (.tail _ (.head _)))⟩, ep, .head _⟩ (fun p hp => Nat.ne_of_lt (hnl p hp))
theorem updL_app {c own : List (Addr × Obj)} {D : Addr} {o : Obj} : ∀ p ∈ updL c D o, p ∈ updL (c ++ own) D o := fun p hp => by
  unfold updL at hp ⊢
  rw [List.map_append]
  exact List.mem_append_left _ hp
theorem updL_mono {c c' : List (Addr × Obj)} {D : Addr} {o : Obj} (h : ∀ p ∈ c, p ∈ c') : ∀ p ∈ updL c D o, p ∈ updL c' D o := fun p hp => by
  obtain ⟨q, hq, rfl⟩ := List.mem_map.mp hp
  exact List.mem_map_of_mem (h q hq)
theorem updL_fst {c : List (Addr × Obj)} {D : Addr} {o : Obj} : (updL c D o).map (·.1) = c.map (·.1) := by
  unfold updL
  rw [List.map_map]
  refine List.map_congr_left fun p _ => ?_
  show (if p.1 = D then (D, o) else p).1 = p.1
  split
  · rename_i e; exact e.symm
  · rfl
section
variable {h1 h2 h3 h4 h5 hsh : Int} {a1 a2 a3 a4 a5 tk : Tok} {v1 v2 v3 v4 v5 v : Value} {n : Nat}
theorem put_height : (putL (Str.ofString "height") hsh (.str (Str.ofString "height") tk) v [⟨h1, .str (Str.ofString "order") a1, v1⟩, ⟨h2, .str (Str.ofString "heights") a2, v2⟩, ⟨h3, .str (Str.ofString "head") a3, v3⟩, ⟨h4, .str (Str.ofString "height") a4, v4⟩, ⟨h5, .str (Str.ofString "added") a5, v5⟩],
    putN (Str.ofString "height") [⟨h1, .str (Str.ofString "order") a1, v1⟩, ⟨h2, .str (Str.ofString "heights") a2, v2⟩, ⟨h3, .str (Str.ofString "head") a3, v3⟩, ⟨h4, .str (Str.ofString "height") a4, v4⟩, ⟨h5, .str (Str.ofString "added") a5, v5⟩] n)
    = ([⟨h1, .str (Str.ofString "order") a1, v1⟩, ⟨h2, .str (Str.ofString "heights") a2, v2⟩, ⟨h3, .str (Str.ofString "head") a3, v3⟩, ⟨h4, .str (Str.ofString "height") a4, v⟩, ⟨h5, .str (Str.ofString "added") a5, v5⟩], n) := by kernel_rfl
theorem put_added : (putL (Str.ofString "added") hsh (.str (Str.ofString "added") tk) v [⟨h1, .str (Str.ofString "order") a1, v1⟩, ⟨h2, .str (Str.ofString "heights") a2, v2⟩, ⟨h3, .str (Str.ofString "head") a3, v3⟩, ⟨h4, .str (Str.ofString "height") a4, v4⟩, ⟨h5, .str (Str.ofString "added") a5, v5⟩],
    putN (Str.ofString "added") [⟨h1, .str (Str.ofString "order") a1, v1⟩, ⟨h2, .str (Str.ofString "heights") a2, v2⟩, ⟨h3, .str (Str.ofString "head") a3, v3⟩, ⟨h4, .str (Str.ofString "height") a4, v4⟩, ⟨h5, .str (Str.ofString "added") a5, v5⟩] n)
    = ([⟨h1, .str (Str.ofString "order") a1, v1⟩, ⟨h2, .str (Str.ofString "heights") a2, v2⟩, ⟨h3, .str (Str.ofString "head") a3, v3⟩, ⟨h4, .str (Str.ofString "height") a4, v4⟩, ⟨h5, .str (Str.ofString "added") a5, v⟩], n) := by kernel_rfl
end
theorem SlDict.mk {P : Params} {led : List (Addr × Obj)} {S : Sl} {hg ad : Nat} {x y : Int} {t1 t2 t3 t4 t5 u1 u2 : Tok} {n : Nat} (hx : x = ((hg : Nat) : Int)) (hy : y = ((ad : Nat) : Int))
    (hm : (S.sd, dictOf [⟨PyData.keyHash P (Str.ofString "order"), .str (Str.ofString "order") t1, .ref S.o⟩, ⟨PyData.keyHash P (Str.ofString "heights"), .str (Str.ofString "heights") t2, .ref S.hs⟩, ⟨PyData.keyHash P (Str.ofString "head"), .str (Str.ofString "head") t3, .ref S.ha⟩,
      ⟨PyData.keyHash P (Str.ofString "height"), .str (Str.ofString "height") t4, .int x u1⟩, ⟨PyData.keyHash P (Str.ofString "added"), .str (Str.ofString "added") t5, .int y u2⟩] n) ∈ led) : SlDict P led S hg ad := by
  subst hx hy
  exact ⟨t1, t2, t3, t4, t5, u1, u2, n, hm⟩
local macro_rules | `(tactic| k_all) => `(tactic| assumption)
local macro_rules | `(tactic| k_put) => `(tactic| first | exact put_height | exact put_added)
/-! what stands off the skip list -/
def IsL (o : Obj) : Prop := ∃ vs n, o = listOf vs n
theorem isL_tup {vs : List Value} {n : Nat} : ¬ IsL (tupOf vs n) := by
  rintro ⟨_, _, e⟩
  exact absurd (Value.type.inj (congrArg Obj.cls e)) (by decide)
theorem isL_cell {o : Obj} {v : Option Value} (h : o.data = .cell v) : ¬ IsL o := by
  rintro ⟨_, _, rfl⟩
  cases h
theorem isL_cls {o : Obj} (h : o.cls ≠ .type "list") : ¬ IsL o := by
  rintro ⟨_, _, rfl⟩
  exact h rfl
theorem five_tup {vs : List Value} {n : Nat} : ¬ Five (tupOf vs n) := by
  rintro ⟨_, _, e, _⟩
  exact absurd (Value.type.inj (congrArg Obj.cls e)) (by decide)
theorem five_cell {o : Obj} {v : Option Value} (h : o.data = .cell v) : ¬ Five o := by
  rintro ⟨_, _, rfl, _⟩
  cases h
theorem five_cls {o : Obj} (h : o.cls ≠ .type "dict") : ¬ Five o := by
  rintro ⟨_, _, rfl, _⟩
  exact h rfl
theorem hl_off {P : Params} {g h : Heap} {L D : Addr} {news : List (Addr × Obj)} {S : Sl} {T : List Tw} {o : Obj} (N : News g L h news) (SI : SlIn P news S T) (hm : (D, o) ∈ news)
    (hno : ∀ (h : Nat) (B : List Tw) ep, 1 ≤ h → (∀ u ∈ B, u ∈ T) → (h = S.most → B = T ∨ ∃ u, u ∈ T) → o ≠ listOf (lks h B).toArray ep) : D ≠ S.hl ∧ ∀ u ∈ T, D ≠ u.l := by
  refine ⟨fun e => ?_, fun u hu e => ?_⟩
  · obtain ⟨_, _, ep, h3⟩ := SI.head
    rw [e] at hm
    exact hno _ _ ep SI.mostLo (fun _ h => h) (fun _ => .inl rfl) (news_one N hm h3)
  · obtain ⟨A, B, rfl⟩ := List.append_of_mem hu
    obtain ⟨_, _, ep, h3⟩ := Chain.at SI.chain
    rw [e] at hm
    exact hno _ _ ep (SI.hts u hu).1 (fun v hv => by simp [hv]) (fun _ => .inr ⟨u, hu⟩) (news_one N hm h3)
theorem notL_off {P : Params} {g h : Heap} {L D : Addr} {news : List (Addr × Obj)} {S : Sl} {T : List Tw} {o : Obj} (N : News g L h news) (SI : SlIn P news S T) (hm : (D, o) ∈ news) (hno : ¬ IsL o) : D ≠ S.hl ∧ ∀ u ∈ T, D ≠ u.l :=
  hl_off N SI hm fun _ _ ep _ _ _ e => hno ⟨_, ep, e⟩
theorem sd_off {P : Params} {g h : Heap} {L : Addr} {news : List (Addr × Obj)} {S : Sl} {T : List Tw} {p : Addr × Obj} (N : News g L h news) (SI : SlIn P news S T) (hm : p ∈ news) (hno : ¬ Five p.2) : p.1 ≠ S.sd := by
  obtain ⟨t1, t2, t3, t4, t5, u1, u2, n, hd⟩ := SI.dict
  exact five_ne N hd rfl hm hno
theorem listOf_inj {vs ws : List Value} {n k : Nat} (e : listOf vs.toArray n = listOf ws.toArray k) : vs = ws := by
  have e2 : Data.seq vs.toArray n = Data.seq ws.toArray k := congrArg Obj.data e
  injection e2 with e3 e4
  exact Array.toList_inj.mpr e3 |> fun z => by simpa using z
theorem nxt_not_int {j : Nat} {B : List Tw} {n : Int} {t : Tok} : nxt j B ≠ .int n t := by
  rcases nxt_cases j B with ⟨e, _⟩ | ⟨_, _, _, _, _, _, e⟩ <;> (rw [e]; intro z; cases z)
theorem ints_off {P : Params} {g h : Heap} {L D : Addr} {news : List (Addr × Obj)} {S : Sl} {T : List Tw} {vs : List Value} {ns : List Int} {n : Nat} (N : News g L h news) (SI : SlIn P news S T) (hm : (D, listOf vs.toArray n) ∈ news) (hI : IntsAre vs ns) (h1 : 1 ≤ vs.length) : D ≠ S.hl ∧ ∀ u ∈ T, D ≠ u.l := by
  refine hl_off N SI hm fun h B ep hh _ _ e => ?_
  have e2 := listOf_inj e
  have e3 : vs[0]? = some (nxt 0 B) := by rw [e2]; exact lks_at (by omega)
  obtain ⟨k, t, e4, _⟩ := IntsAre.at hI 0 _ e3
  exact nxt_not_int e4
theorem rows_off {P : Params} {g h : Heap} {L D : Addr} {news : List (Addr × Obj)} {S : Sl} {T : List Tw} {rv : List Value} {n : Nat} (N : News g L h news) (SI : SlIn P news S T) (hm : (D, listOf rv.toArray n) ∈ news) (hr : RowsAre news rv T) : D ≠ S.hl ∧ ∀ u ∈ T, D ≠ u.l := by
  refine hl_off N SI hm fun h B ep hh hB hT e => ?_
  have e2 := listOf_inj e
  have e3 : rv[0]? = some (nxt 0 B) := by rw [e2]; exact lks_at (by omega)
  obtain ⟨t, ht, a, t1, t2, t3, k, e4, hm4⟩ := RowsAre.at hr e3
  rcases nxt_cases 0 B with ⟨e5, _⟩ | ⟨B1, v, B2, e5, _, _, e6⟩
  · rw [e5] at e4; cases e4
  · rw [e6] at e4
    have e7 : v.a = a := by injection e4
    have hv : v ∈ T := hB v (by rw [e5]; simp)
    obtain ⟨X, Y, hXY⟩ := List.append_of_mem hv
    have hc := SI.chain
    rw [hXY] at hc
    obtain ⟨h1, _⟩ := Chain.at hc
    rw [e7] at h1
    have z := congrArg Obj.cls (news_one N hm4 h1)
    cases z
/-- neither an iterator of a range nor a cell -/
def Pl (o : Obj) : Prop := o.cls ≠ .type "range_iterator" ∧ ∀ v, o.data ≠ .cell v
theorem pl_inst {C d : Addr} : Pl (instObj C d) := ⟨(by intro z; cases z), (by intro v z; cases z)⟩
theorem pl_dict {es : List DictEntry} {n : Nat} : Pl (dictOf es n) := ⟨fun z => absurd (Value.type.inj z) (by decide), by intro v z; cases z⟩
theorem pl_list {vs : Array Value} {n : Nat} : Pl (listOf vs n) := ⟨fun z => absurd (Value.type.inj z) (by decide), by intro v z; cases z⟩
theorem pl_tup {vs : List Value} {n : Nat} : Pl (tupOf vs n) := ⟨fun z => absurd (Value.type.inj z) (by decide), by intro v z; cases z⟩
theorem OrdAt.pl {P : Params} {led led' : List (Addr × Obj)} {i : Bool} {b : Addr} (hs : ∀ p ∈ led, Pl p.2 → p ∈ led') (H : OrdAt P led i b) : OrdAt P led' i b := by
  cases i with
  | false =>
    obtain ⟨d, h1, h2⟩ := H
    exact ⟨d, hs _ h1 pl_inst, hs _ h2 pl_dict⟩
  | true =>
    obtain ⟨d, u, du, t, n, h1, h2, h3, h4⟩ := H
    exact ⟨d, u, du, t, n, hs _ h1 pl_inst, hs _ h2 pl_dict, hs _ h3 pl_inst, hs _ h4 pl_dict⟩
theorem NodeIn.pl {P : Params} {led led' : List (Addr × Obj)} {a d l : Addr} {kbs vbs : List UInt8} {links : List Value} (hs : ∀ p ∈ led, Pl p.2 → p ∈ led') (H : NodeIn P led a d l kbs vbs links) : NodeIn P led' a d l kbs vbs links := by
  obtain ⟨h1, ⟨t1, t2, t3, u1, u2, n, h2⟩, ep, h3⟩ := H
  exact ⟨hs _ h1 pl_inst, ⟨t1, t2, t3, u1, u2, n, hs _ h2 pl_dict⟩, ep, hs _ h3 pl_list⟩
theorem Chain.pl {P : Params} {led led' : List (Addr × Obj)} (hs : ∀ p ∈ led, Pl p.2 → p ∈ led') : ∀ {T : List Tw}, Chain P led T → Chain P led' T
  | [], _ => trivial
  | _ :: _, ⟨h, r⟩ => ⟨h.pl hs, Chain.pl hs r⟩
theorem SlIn.pl {P : Params} {news news' : List (Addr × Obj)} {S : Sl} {T : List Tw} (h : SlIn P news S T) (hs : ∀ p ∈ news, Pl p.2 → p ∈ news') : SlIn P news' S T :=
  { h with inst := hs _ h.inst pl_inst, dict := (let ⟨t1, t2, t3, t4, t5, u1, u2, n, q⟩ := h.dict; ⟨t1, t2, t3, t4, t5, u1, u2, n, hs _ q pl_dict⟩), ord := h.ord.pl hs, head := h.head.pl hs, chain := h.chain.pl hs }
theorem RowsAre.part {news news' : List (Addr × Obj)} (hs : ∀ p ∈ news, ∀ vs n, p.2 = tupOf vs n → p ∈ news') : ∀ {vs : List Value} {ts : List Tw}, RowsAre news vs ts → RowsAre news' vs ts
  | [], [], _ => trivial
  | _ :: _, _ :: _, ⟨⟨a, t1, t2, t3, n, e, hm⟩, r⟩ => ⟨⟨a, t1, t2, t3, n, e, hs _ hm _ _ rfl⟩, RowsAre.part hs r⟩
  | [], _ :: _, h => h.elim
  | _ :: _, [], h => h.elim
/-- the draws -/
theorem dr_pos {ns : List Int} {i : Int} (h : ∀ n ∈ ns, 0 ≤ n) (hi : 0 ≤ i) (_h1 : 0 < ns.length) : 0 ≤ dr ns i := by
  unfold dr
  have h1 : 0 ≤ ns.getD (Int.fmod i ns.length).toNat 0 := by
    rw [List.getD_eq_getElem?_getD]
    cases e : ns[(Int.fmod i ns.length).toNat]? with
    | none => exact Int.le_refl _
    | some x => exact h x (List.mem_of_getElem? e)
  have h2 : 0 ≤ Int.fdiv i ns.length := by
    rw [Int.fdiv_eq_ediv_of_nonneg _ (by omega)]
    exact Int.ediv_nonneg hi (by omega)
  omega
theorem kmod {x : Int} (h : 0 ≤ x) : (x % 48).toNat < 48 := by omega
theorem any_keys {zs : List Value} {T : List Tw} {k : Nat} (hz : Pairs (fun v t => ∃ u, v = .bytes (kb t.k).toArray u) zs T) (hk : k < 48) (hT : ∀ t ∈ T, t.k < 48) : zs.any (isB (kb k)) = decide (∃ t ∈ T, t.k = k) := by
  induction hz with
  | nil => simp
  | cons h1 _ ih =>
    obtain ⟨u, rfl⟩ := h1
    rename_i t vs ts _
    rw [List.any_cons, ih fun t ht => hT t (.tail _ ht)]
    have e : isB (kb k) (.bytes (kb t.k).toArray u) = decide (t.k = k) := by
      show ((kb t.k).toArray.toList == kb k) = _
      rw [List.toList_toArray]
      by_cases h : t.k = k
      · simp [h]
      · have : kb t.k ≠ kb k := fun z => h (kb_injF _ (hT t (.head _)) _ hk z)
        simp [h, this]
    rw [e]
    by_cases h : t.k = k <;> simp [h]
theorem pairs_bytes {zs : List Value} {T : List Tw} (hz : Pairs (fun v t => ∃ u, v = .bytes (kb t.k).toArray u) zs T) : ∀ v ∈ zs, ∃ b u, v = .bytes b u := by
  induction hz with
  | nil => intro v hv; cases hv
  | cons h1 _ ih =>
    intro v hv
    rcases List.mem_cons.mp hv with rfl | hv
    · obtain ⟨u, rfl⟩ := h1
      exact ⟨_, u, rfl⟩
    · exact ih v hv
theorem Pairs.len {R : Value → Tw → Prop} {zs : List Value} {T : List Tw} (h : Pairs R zs T) : zs.length = T.length := by
  induction h with
  | nil => rfl
  | cons _ _ ih => rw [List.length_cons, List.length_cons, ih]
theorem rows_put {news : List (Addr × Obj)} {rv : List Value} {A B : List Tw} {t : Tw} {v : Value} {n : Nat} (hr : RowsAre news rv (A ++ B)) (hv : RowIs news v t) (hn : n = A.length) : RowsAre news (rv.take n ++ [v] ++ rv.drop n) (A ++ t :: B) := by
  subst hn
  have h1 := hr.take A.length
  have h2 := hr.drop A.length
  rw [List.take_left] at h1
  rw [List.drop_left] at h2
  have h3 : RowsAre news (rv.take A.length ++ [v]) (A ++ [t]) := h1.append ⟨hv, trivial⟩
  have h4 := h3.append h2
  rw [List.append_assoc A] at h4
  exact h4
/-! a for over a range: the iterator stands in the ledger, the ledger is one's own -/
section
variable {prog : Program} {w : World} {A : Around} {E : Value → Shared → Prop} {Q : Flow → Shared → Prop} {s : Shared} {env : Env} {h₀ : Heap} {L : Addr} {σ : Type}
def FREnd (h₀ : Heap) (L : Addr) (s : Shared) (I : Addr) (oI : Obj) (x : Str) (P : σ → Prop) (Led : σ → List (Addr × Obj)) (ps : σ → List (Str × Value)) (stored : List Str) (m₀ : Str → Option Value) (s₂ : Shared) : Prop :=
  ∃ h' tk m' news' c', s₂ = { s with heap := h', toks := tk } ∧ Fr h₀ L h' m' ∧ News h₀ L h' news' ∧ (I, oI) ∈ news' ∧ (∀ p ∈ Led c', p ∈ news') ∧ (∀ p ∈ Led c', p.1 ≠ I) ∧ (∀ p ∈ ps c', m' p.1 = some p.2) ∧ (∀ z, z ≠ x → (∀ p ∈ ps c', z ≠ p.1) → stored.contains z = false → m' z = m₀ z) ∧ P c'
def FRPost (h₀ : Heap) (L : Addr) (s : Shared) (I : Addr) (oI : Obj) (x : Str) (P : σ → Prop) (Led : σ → List (Addr × Obj)) (ps : σ → List (Str × Value)) (stored : List Str) (m₀ : Str → Option Value) (Q : Flow → Shared → Prop) (f : Flow) (s₂ : Shared) : Prop :=
  match f with
  | .ret v => Q (.ret v) s₂
  | .brk => Q .next s₂
  | _ => FREnd h₀ L s I oI x P Led ps stored m₀ s₂
theorem FREnd.intro {x : Str} {I : Addr} {oI : Obj} {P : σ → Prop} {Led : σ → List (Addr × Obj)} {ps : σ → List (Str × Value)} {stored : List Str} {m₀ m' : Str → Option Value} {h' : Heap} {tk : Nat} {news' : List (Addr × Obj)} (c' : σ)
    (F : Fr h₀ L h' m') (N : News h₀ L h' news') (hi : (I, oI) ∈ news') (hl : ∀ p ∈ Led c', p ∈ news') (hf : ∀ p ∈ Led c', p.1 ≠ I) (hp : ∀ p ∈ ps c', m' p.1 = some p.2) (hr : ∀ z, z ≠ x → (∀ p ∈ ps c', z ≠ p.1) → stored.contains z = false → m' z = m₀ z) (h : P c') :
    FREnd h₀ L s I oI x P Led ps stored m₀ { s with heap := h', toks := tk } := ⟨h', tk, m', news', c', rfl, F, N, hi, hl, hf, hp, hr, h⟩
theorem for_R {x : Str} {body : List Stmt} {r : Addr} {a₀ b₀ : Int} {t₀ u₀ v₀ : Tok} {m₀ : Str → Option Value} {news : List (Addr × Obj)} (n : Nat) (P : Nat → σ → Prop) (Led : σ → List (Addr × Obj)) (ps : σ → List (Str × Value)) (stored : List Str) (c₀ : σ)
    (hh : A.handled = none) (hr : IsRange s.heap r a₀ b₀ 1 t₀ u₀ v₀) (ha : 0 ≤ a₀) (hb : b₀ ≤ 1000) (hn : b₀ - a₀ = (n : Int))
    (F : Fr h₀ env.locals s.heap m₀) (N : News h₀ env.locals s.heap news) (hl : ∀ p ∈ Led c₀, p ∈ news) (hp : ∀ p ∈ ps c₀, m₀ p.1 = some p.2) (h0 : P 0 c₀)
    (turn : ∀ i c (u : Str → Option Value) h tk t I oI, i < n → P i c → oI.cls = .type "range_iterator" → (∀ v, oI.data ≠ .cell v) → (∀ p ∈ Led c, p.1 ≠ I) → Fr h₀ env.locals h (fun y => if y = x then some (.int (a₀ + (i : Int)) t) else kstB (fun z => if stored.contains z then u z else m₀ z) (ps c) y) → News h₀ env.locals h ((I, oI) :: Led c) →
      wpAny (model prog w) A (execs body env) (FRPost h₀ env.locals s I oI x (P (i + 1)) Led ps stored m₀ Q) E { s with heap := h, toks := tk })
    (done : ∀ c (u : Str → Option Value) h tk, P n c → Fr h₀ env.locals h (fun y => if y = x then u y else kstB (fun z => if stored.contains z then u z else m₀ z) (ps c) y) → News h₀ env.locals h (Led c) → Q .next { s with heap := h, toks := tk }) :
    wpAny (model prog w) A (pyIter (.ref r)) (fun it s₂ => LoopAtV prog w A h₀ env x body Q E it s₂) E s := by
  have hsz : Builtin.Range.rangeSize a₀ b₀ 1 = (n : Int) := by
    unfold Builtin.Range.rangeSize
    simp only [show (1 : Int) > 0 by decide, if_true]
    (repeat' split) <;> first | omega | (simp at *; omega)
  have hsmall : Builtin.Range.small a₀ b₀ 1 = true := small_one (by omega) (by omega) (by omega) (by omega)
  refine wpAny_pyIter_range hr hsmall ?_
  have W : Walks prog w A s.heap.objs.size [s.heap.objs.size] [s.heap.objs.size] n (fun i v => i < n ∧ ∃ t, v = .int (a₀ + i * 1) t)
      (fun i h => IsRangeIter h s.heap.objs.size (a₀ + (i : Nat) * 1) ((n : Int) - (i : Nat)) 1) := (Walks.range hh _ a₀ 1 n).bound
  have hLI : env.locals ∉ [s.heap.objs.size] := fun hm => absurd F.ns.lt (List.mem_singleton.mp hm ▸ Nat.lt_irrefl _)
  have hI0 : h₀.get? s.heap.objs.size = none := next_is_new F
  have hI0' : ∀ b ∈ [s.heap.objs.size], h₀.get? b = none := fun b hb => by rw [List.mem_singleton.mp hb]; exact hI0
  have hnI : ∀ p ∈ Led c₀, p.1 ∉ [s.heap.objs.size] := fun p q hI => absurd (Heap.lt_size (N p (hl p q)).1) ((List.mem_singleton.mp hI) ▸ Nat.lt_irrefl _)
  have same : ∀ {m₁ : Str → Option Value} {c : σ}, (∀ p ∈ ps c, m₁ p.1 = some p.2) → (∀ z, z ≠ x → (∀ p ∈ ps c, z ≠ p.1) → stored.contains z = false → m₁ z = m₀ z) → ∀ z, z ≠ x → kstB (fun z => if stored.contains z then m₁ z else m₀ z) (ps c) z = m₁ z := by
    intro m₁ c h1 h2 z hz
    refine kstB_eq h1 fun hq => ?_
    cases h9 : stored.contains z with
    | true => simp
    | false => simp only [Bool.false_eq_true, if_false]; exact (h2 z hz hq h9).symm
  refine ⟨s.heap.objs.size, [s.heap.objs.size], [s.heap.objs.size], n, _, _, m₀, Led c₀, (fun i m nx => ∃ c, nx = Led c ∧ (∀ p ∈ ps c, m p.1 = some p.2) ∧ (∀ z, z ≠ x → (∀ p ∈ ps c, z ≠ p.1) → stored.contains z = false → m z = m₀ z) ∧ P i c), rfl, W, hLI, hI0', hnI, (by show IsRangeIter _ _ _ _ _; rw [hsz]; simpa using Heap.get?_push_size _ rfl), F.push _, (fun p q => ⟨Heap.get?_push_of_some _ (N p (hl p q)).1, (N p (hl p q)).2⟩), ⟨c₀, rfl, hp, fun _ _ _ _ => rfl, h0⟩, ?_, ?_⟩
  · rintro i v m₁ nx s₁ own ⟨h, tk, rfl⟩ hi ⟨_, t, rfl⟩ ⟨c, rfl, h1, h2, hc⟩ hoff hown hown2 hmem hst F₁ N₁
    rw [Int.mul_one] at F₁
    obtain ⟨oI, hoI, hk1, hk2⟩ : ∃ oI, h.get? s.heap.objs.size = some oI ∧ oI.cls = .type "range_iterator" ∧ ∀ v, oI.data ≠ .cell v := ⟨_, hst, rfl, by intro v z; cases z⟩
    have hI := hmem _ (List.mem_singleton.mpr rfl) hI0 _ hoI
    have F₂ : Fr h₀ env.locals h (fun y => if y = x then some (.int (a₀ + (i : Int)) t) else kstB (fun z => if stored.contains z then m₁ z else m₀ z) (ps c) y) := by
      have e2 : (fun y => if y = x then some (Value.int (a₀ + (i : Int)) t) else kstB (fun z => if stored.contains z then m₁ z else m₀ z) (ps c) y) = fun y => if y = x then some (Value.int (a₀ + (i : Int)) t) else m₁ y := by
        funext y
        by_cases hy : y = x
        · simp [hy]
        · rw [if_neg hy, if_neg hy, same h1 h2 y hy]
      rw [e2]
      exact F₁
    have N₂ : News h₀ env.locals h ((s.heap.objs.size, oI) :: Led c) := fun p hp => by
      rcases List.mem_cons.mp hp with rfl | hp
      · exact N₁ _ (List.mem_append_left _ hI)
      · exact N₁ p (List.mem_append_right _ hp)
    refine wpAny_mono (turn i c m₁ h tk t _ _ hi hc hk1 hk2 (fun p hp z => hoff p hp (List.mem_singleton.mpr z)) F₂ N₂) (fun f s₂ q => ?_) fun _ _ x => x
    have fin : FREnd h₀ env.locals s s.heap.objs.size oI x (P (i + 1)) Led ps stored m₀ s₂ → LoopStepU h₀ env.locals [s.heap.objs.size] own (fun m nx => ∃ c, nx = Led c ∧ (∀ p ∈ ps c, m p.1 = some p.2) ∧ (∀ z, z ≠ x → (∀ p ∈ ps c, z ≠ p.1) → stored.contains z = false → m z = m₀ z) ∧ P (i + 1) c) { s with heap := h, toks := tk } .next s₂ := by
      rintro ⟨h', tk', m', news', c', rfl, F', N', hi', hl', hf', hp', hr', hc'⟩
      refine ⟨rfl, h', tk', m', Led c', rfl, F', fun p hp => ?_, fun p hp z => hf' p hp (List.mem_singleton.mp z), c', rfl, hp', hr', hc'⟩
      rcases List.mem_append.mp hp with hp | hp
      · have e1 := List.mem_singleton.mp (hown p hp)
        have e2 := hown2 p hp
        rw [e1] at e2
        have e3 := Option.some.inj (e2.symm.trans hoI)
        have e4 : p = (s.heap.objs.size, oI) := Prod.ext e1 e3
        rw [e4]
        exact N' _ hi'
      · exact N' p (hl' p hp)
    cases f with
    | ret v => exact q
    | brk => exact q
    | next => exact fin q
    | cont => exact fin q
  · rintro h tk m₁ nx F₁ N₁ _ ⟨c, rfl, h1, h2, hc⟩
    refine done c m₁ h tk hc ?_ N₁
    have e : (fun y => if y = x then m₁ y else kstB (fun z => if stored.contains z then m₁ z else m₀ z) (ps c) y) = m₁ := by
      funext z
      by_cases hz : z = x
      · rw [if_pos hz]
      · rw [if_neg hz, same h1 h2 z hz]
    rw [e]; exact F₁
end
local macro_rules | `(tactic| walk_at "FRPost") => `(tactic| dsimp only [FRPost])
abbrev insP (P : Params) (S : Sl) (A B : List Tw) (t : Tw) (tl : Addr) (news : List (Addr × Obj)) (i : Nat) (c : List (Addr × Obj)) : Prop :=
  Mid P c S A B t i i ∧ (tl, listOf (trailV S A).toArray 0) ∈ c ∧ ∀ p ∈ news, p.1 ≠ S.hl → (∀ u ∈ A ++ B, p.1 ≠ u.l) → p ∈ c
theorem ins_end {P : Params} {g h' : Heap} {L : Addr} {s : Shared} {tk : Nat} {own c news : List (Addr × Obj)} {S : Sl} {A B : List Tw} {t : Tw} {tl nl cL : Addr} {o1 o2 : Obj} {i : Nat} {x : Str} {m₀ m' : Str → Option Value}
    (M : Mid P (updL (updL c nl o1) cL o2) S A B t (i + 1) (i + 1)) (htr : (tl, listOf (trailV S A).toArray 0) ∈ c) (h1 : tl ≠ nl) (h2 : tl ≠ cL)
    (hkeep : ∀ p ∈ news, p.1 ≠ S.hl → (∀ u ∈ A ++ B, p.1 ≠ u.l) → p ∈ c) (hnl : ∀ p ∈ news, p.1 ≠ nl) (hcl : cL = S.hl ∨ ∃ u ∈ A, cL = u.l)
    (hoff : OwnOff own (c.map (·.1))) (mnl : nl ∈ c.map (·.1)) (mcl : cL ∈ c.map (·.1))
    (F : Fr g L h' m') (N : News g L h' (updL (updL (c ++ own) nl o1) cL o2)) (hr : ∀ z, z ≠ x → m' z = m₀ z) :
    FEnd g L s own x (insP P S A B t tl news (i + 1)) (fun c => c) (fun _ => []) [] m₀ { s with heap := h', toks := tk } := by
  refine FEnd.intro (updL (updL c nl o1) cL o2) F N (updL_mono updL_app) (fun p hp => ?_) ?_ (fun _ h => nomatch h) (fun z hz _ _ => hr z hz) ⟨M, updL_ne (updL_ne htr h1) h2, fun p hp q1 q2 => ?_⟩
  · exact updL_ne (updL_ne (List.mem_append_right _ hp) (hoff.ne mnl p hp)) (hoff.ne mcl p hp)
  · rw [updL_fst, updL_fst]; exact hoff
  · refine updL_ne (updL_ne (hkeep p hp q1 q2) (hnl p hp)) ?_
    rcases hcl with rfl | ⟨u, hu, rfl⟩
    · exact q1
    · exact q2 u (List.mem_append_left _ hu)
section
variable {w : World} {dp un : Nat} {gd : Option (List Code)} {cn : Str} {cs : Scope} {L a : Addr} {ccd : Value} {cl : List (Str × Addr)} {outer : List Env} {h₀ : Heap} {m : Str → Option Value} {s : Shared} {Q E : Value → Shared → Prop} {news n0 : List (Addr × Obj)}
theorem insert_new {S : Sl} {T A B : List Tw} {k eh : Nat} {v : UInt8} {tk tv : Tok} {hv : List Value} {hn : List Int} (C : Cx w dp un cs outer h₀ s.heap L m news 10) (SI : SlIn w.params n0 S T) (hs : ∀ p ∈ n0, p ∈ news) (hT : T = A ++ B)
    (hA : ∀ u ∈ A, rk S.i u.k < rk S.i k) (hB : ∀ u ∈ B, ¬ rk S.i u.k < rk S.i k) (hne : ∀ u ∈ T, u.k ≠ k) (hk48 : k < 48) (hfew : T.length ≤ 6) (hH : (S.hs, listOf hv.toArray eh) ∈ news) (hI : IntsAre hv hn) (hz1 : 1 ≤ hv.length) (hz2 : hv.length ≤ 8)
    (hgood : ∀ y ∈ hn, 1 ≤ y ∧ y ≤ (S.most : Int))
    (ret : ∀ t led' h' tk', t.k = k → t.v = v → hn[T.length % hv.length]? = some ((t.h : Nat) : Int) → SlIn w.params led' S (A ++ t :: B) → Fr h₀ L h' m → News h₀ L h' led' → (∀ p ∈ news, p.1 ≠ S.sd → p.1 ≠ S.hl → (∀ u ∈ T, p.1 ≠ u.l) → p ∈ led') → (∀ p ∈ news, p.1 < t.l) → Q .none { s with heap := h', toks := tk' }) :
    wpAny (model PySem.Challenge.rw_no0405_01.row.prog w) (ktrTop dp un gd cn cs L a ccd cl outer) (call (.ref 314) [.ref S.sa, .bytes (kb k).toArray tk, .bytes [v].toArray tv]) Q E s := by
  obtain ⟨⟨A₀, base, B'⟩, F, X, N, ⟨p, loose, mean, mg, mb, Tp⟩, hk, hdp, hun⟩ := C
  have SI := SI.mono hs
  have hinst := SI.inst
  obtain ⟨t1, t2, t3, t4, t5, u1, u2, n, hdict⟩ := SI.dict
  have hm1 := SI.mostLo
  have hm2 := SI.mostHi
  have hcp := curH_pos SI hT
  obtain ⟨d, l, kbs, vbs, hh1, ⟨q1, q2, q3, q4, q5, q6, hh2⟩, ep, hh3⟩ := SI.cur hT
  have hlk : (lks (curH S A) B)[((0 : Int)).toNat]? = some (nxt 0 B) := lks_at hcp
  have htr : (trailV S A)[((0 : Int)).toNat]? = some (.ref (curA S A)) := by
    rw [← lastV_zero SI hT]
    unfold trailV
    simp [show 0 < S.most by omega]
  have hln := hI.length
  have hmod : T.length % hv.length < hv.length := Nat.mod_lt _ (by omega)
  obtain ⟨hx, hxe⟩ : ∃ x, hv[T.length % hv.length]? = some x := ⟨_, List.getElem?_eq_getElem hmod⟩
  obtain ⟨hg, hgt, rfl, hge⟩ := IntsAre.at hI _ _ hxe
  obtain ⟨hg1, hg2⟩ := hgood hg (List.mem_of_getElem? hge)
  have hfm : Int.fmod (T.length : Int) (hv.length : Int) = ((T.length % hv.length : Nat) : Int) := by
    rw [Int.fmod_eq_emod_of_nonneg _ (by omega)]
    rfl
  have hf0 : 0 ≤ Int.fmod (T.length : Int) (hv.length : Int) := by rw [hfm]; omega
  have hf1 : Int.fmod (T.length : Int) (hv.length : Int) < 8 := by rw [hfm]; omega
  have hfx : hv[(Int.fmod (T.length : Int) (hv.length : Int)).toNat]? = some (.int hg hgt) := by rw [hfm, Int.toNat_natCast]; exact hxe
  obtain ⟨hgn, rfl⟩ : ∃ z : Nat, hg = (z : Int) := ⟨hg.toNat, by omega⟩
  clear hI
  have hcase : nxt 0 B = .none ∨ ∃ b X, B = b :: X ∧ nxt 0 B = .ref b.a := by
    cases B with
    | nil => exact .inl rfl
    | cons b X =>
      refine .inr ⟨b, X, rfl, ?_⟩
      show (if 0 < b.h then Value.ref b.a else nxt 0 X) = _
      have hb1 := (SI.hts b (by rw [hT]; simp)).1
      rw [if_pos (by omega)]
  obtain ⟨av, hav⟩ : ∃ av, nxt 0 B = av := ⟨_, rfl⟩
  rw [hav] at hlk hcase
  have mk : Mk := trivial
  refine wpAny_call ?_
  k_dflt walk_at "sk enter"
  k_steps
  rename_i tl _ _ ltl _ _ F1 N1
  unfold Stp
  refine join_same s F1 N1 ?first ?second
  case first =>
    clear ret
    k_fold
    rcases hcase with rfl | ⟨b, X2, hbX, rfl⟩
    · k_steps
      exact SameI.intro (by k_asm) (by k_asm)
    · have hbT : b ∈ T := by rw [hT, hbX]; simp
      have hch := SI.chain
      rw [hT, hbX] at hch
      obtain ⟨b1, ⟨c1, c2, c3, c4, c5, c6, b2⟩, ep2, b3⟩ := Chain.at (A := A) (t := b) (B := X2) hch
      have hbk := SI.keys b hbT
      have hc : cmpK S.i b.k k ≠ 0 := fun e => hne b hbT ((cmp_zero hbk hk48).mp e)
      have hord := SI.ord
      cases hi : S.i with
      | false =>
        rw [hi] at hc hord
        simp only [cmpK, OrdAt, Bool.false_eq_true, if_false] at hc hord
        obtain ⟨od, ho1, ho2⟩ := hord
        k_steps
        exact SameI.intro (by k_asm) (by k_asm)
      | true =>
        rw [hi] at hc hord
        simp only [cmpK, OrdAt, if_true] at hc hord
        obtain ⟨od, ou, odu, ot, on, ho1, ho2, ho3, ho4⟩ := hord
        k_steps
        exact SameI.intro (by k_asm) (by k_asm)
  case second =>
    intro h9 tk9 F9 N9
    clear F1 N1 hcase
    dsimp only
    k_steps
    rename_i x d _ ld ldx _ _ _ _ _ _ _ _ _ l0 _ ll0 nl _ lnl _ _ _ _ _ _ _ _ _ _ _ t3 u3 v3 hr F2 N2 hk2
    have hnl : ∀ p ∈ news, p.1 < nl := ktn_ltOf lnl.2.2.2.2
    have hM0 := Mid.of_new (k := k) (v := v) (hg := hgn) N2 (hT ▸ SI) hnl
    unfold Stp
    with_unfolding_all
      refine' for_S (σ := List (Addr × Obj)) hgn (insP w.params S A B ⟨x, d, nl, k, v, hgn⟩ tl news) (fun c => c) (fun _ => []) []
          _ rfl hr (by omega) (by omega) (by omega) F2 N2 (fun _ h => h) (fun _ h => nomatch h) ⟨hM0, .tail _ (.tail _ (.tail _ (.tail _ (.head _)))), fun p hp _ _ => .tail _ (.tail _ (.tail _ (.tail _ (.tail _ hp))))⟩ ?turn ?done
    case turn =>
      rintro i c u h tk own t9 hi ⟨hM, htr9, hkeep⟩ hoff F3 N3
      rw [Int.zero_add] at F3
      dsimp only [kstB] at F3
      (try k_fold)
      have htr1 : (tl, listOf (trailV S A).toArray 0) ∈ c ++ own := List.mem_append_left _ htr9
      have N3c : News _ _ h c := fun p hp => N3 p (List.mem_append_left _ hp)
      have hAm : ∀ u ∈ A, u.h ≤ S.most := fun u hu => (SI.hts u (by rw [hT]; exact List.mem_append_left _ hu)).2
      obtain ⟨cd, cL, ch, ckb, cvb, CR, CR', ⟨ci1, ⟨y1, y2, y3, y4, y5, y6, ci2⟩, cep, ci3⟩, clt, cle, cnx, cne, cwhere, cstep⟩ := hM.cur N3c hi (by dsimp only; omega) hAm
      obtain ⟨ni1, ⟨z1, z2, z3, z4, z5, z6, ni2⟩, nep, ni3⟩ := hM.new
      dsimp only at ni1 ni2 ni3
      have ci1' := List.mem_append_left own ci1
      have ci2' := List.mem_append_left own ci2
      have ci3' := List.mem_append_left own ci3
      have ni1' := List.mem_append_left own ni1
      have ni2' := List.mem_append_left own ni2
      have ni3' := List.mem_append_left own ni3
      have hx1 : (trailV S A)[((i : Nat) : Int).toNat]? = some (.ref (curA S (A.filter fun u => decide (i < u.h)))) := by
        unfold trailV lastV
        simp [show i < S.most by omega]
      have hx2 : (lksI i ch CR CR')[((i : Nat) : Int).toNat]? = some (nxt i CR) := lksI_at clt
      have hz3 : (lksI i ch CR CR').length = ch := lksI_len
      have hz4 : (lksN i hgn B).length = hgn := lksN_len
      have M2 := hM.own N3c (ep := nep)
      have e2 : (lksN i hgn B).set i (nxt i B) = (lksN i hgn B).set ((i : Nat) : Int).toNat (nxt i CR) := by rw [cnx]; rfl
      dsimp only at M2
      rw [e2] at M2
      clear N3c
      k_steps
      rename_i N4
      have N4c : News _ _ _ (updL c nl (listOf ((lksN i hgn B).set ((i : Nat) : Int).toNat (nxt i CR)).toArray nep)) := fun p hp => N4 p (updL_app p hp)
      obtain ⟨cd2, cL2, ch2, ckb2, cvb2, DR, DR', ⟨di1, ⟨y1', y2', y3', y4', y5', y6', di2⟩, dep, di3⟩, dlt, dle, dnx, dne, dwhere, dstep⟩ := M2.cur N4c hi (by dsimp only; omega) hAm
      have di1' := updL_app (own := own) _ di1
      have di2' := updL_app (own := own) _ di2
      have di3' := updL_app (own := own) _ di3
      have htl9 : tl ≠ nl := by show @Ne Nat _ _; omega
      have htr2 := updL_ne (o := listOf ((lksN i hgn B).set ((i : Nat) : Int).toNat (nxt i CR)).toArray nep) htr1 htl9
      clear N4c
      have hz5 : (lksI i ch2 DR DR').length = ch2 := lksI_len
      k_steps
      have hcn : ∀ b : Addr, (b = S.hl ∨ ∃ u ∈ A, b = u.l) → b < tl := by
        rintro b (rfl | ⟨u, hu, rfl⟩)
        · obtain ⟨_, _, ep9, h9⟩ := SI.head
          exact ltl _ h9
        · obtain ⟨X9, Y9, hXY⟩ := List.append_of_mem (show u ∈ T by rw [hT]; exact List.mem_append_left _ hu)
          have hch9 := SI.chain
          rw [hXY] at hch9
          obtain ⟨_, _, ep9, h9⟩ := Chain.at hch9
          exact ltl _ h9
      exact ins_end (dstep dep) htr9 htl9 (Nat.ne_of_gt (hcn _ dwhere)) hkeep (fun p hp => Nat.ne_of_lt (hnl p hp)) dwhere hoff (List.mem_map_of_mem ni3) (by have := List.mem_map_of_mem (f := (·.1)) di3; rw [updL_fst] at this; exact this) (by k_asm) (by k_asm) (fun z hz => by simp [hz])
    case done =>
      rintro c u h tk ⟨hM, htr9, hkeep⟩ F3 N3
      dsimp only [kstB] at F3
      obtain ⟨s1, s2, s3, s4, s5, s6, s7, s8, hd9⟩ := hM.dict
      obtain ⟨c', N4, hc1, hc2, hc3⟩ := led_fork N3 hd9
      have hq9 : ∀ p ∈ c, ¬ Five p.2 → p ∈ c' := fun p hp hf => hc2 p hp (five_ne N3 hd9 rfl hp hf)
      have hi9 : (S.sa, instObj 345 S.sd) ∈ c' := hq9 _ hM.inst five_inst
      have htall : tall (A ++ ⟨x, d, nl, k, v, hgn⟩ :: B) = max hgn (tall (A ++ B)) := tall_app
      have htl9 := tall_le SI.mostLo fun t ht => (SI.hts t ht).2
      rw [hT] at htl9
      have hfew9 : (A ++ B).length ≤ 6 := by rw [← hT]; exact hfew
      clear N3
      have fin : ∀ (led' : List (Addr × Obj)) h' tk', (∀ p ∈ c', p ∈ led') → SlDict w.params led' S (tall (A ++ ⟨x, d, nl, k, v, hgn⟩ :: B)) (A ++ ⟨x, d, nl, k, v, hgn⟩ :: B).length → Fr h₀ L h' m → News h₀ L h' led' → Q .none { s with heap := h', toks := tk' } := fun led' h' tk' e1 e2 e3 e4 =>
        ret ⟨x, d, nl, k, v, hgn⟩ led' h' tk' rfl rfl hge (hM.done (fun p hp hf => e1 p (hq9 p hp hf)) (hT ▸ SI) hA hB (hT ▸ hne) hk48 (by dsimp only; omega) (by dsimp only; omega) hfew9 e2) e3 e4 (fun p hp q1 q2 q3 => e1 p (hc2 p (hkeep p hp q2 (hT ▸ q3)) q1)) hnl
      clear hkeep hq9 ret
      by_cases hgt9 : tall (A ++ B) < hgn
      · k_steps
        (rename News h₀ L _ _ => N9); (rename Fr h₀ L _ m => F9)
        refine fin _ _ _ (fun p hp => .tail _ hp) (SlDict.mk (n := s8) ?_ ?_ (List.Mem.head _)) F9 N9
        · rw [htall]; omega
        · rw [List.length_append, List.length_append, List.length_cons]; omega
      · k_steps
        (rename News h₀ L _ _ => N9); (rename Fr h₀ L _ m => F9)
        refine fin _ _ _ (fun p hp => .tail _ hp) (SlDict.mk (n := s8) ?_ ?_ (List.Mem.head _)) F9 N9
        · rw [htall]; omega
        · rw [List.length_append, List.length_append, List.length_cons]; omega
end
section
variable {w : World} {dp un : Nat} {gd : Option (List Code)} {cn : Str} {cs : Scope} {L a : Addr} {ccd : Value} {cl : List (Str × Addr)} {outer : List Env} {h₀ : Heap} {m : Str → Option Value} {s : Shared} {Q E : Value → Shared → Prop} {news n0 : List (Addr × Obj)}
theorem finds_spec {S : Sl} {T : List Tw} {R : Addr} {rv : List Value} {er k : Nat} {tm tk : Tok} (C : Cx w dp un cs outer h₀ s.heap L m news 10) (SI : SlIn w.params n0 S T) (hs : ∀ p ∈ n0, p ∈ news) (hR : (R, listOf rv.toArray er) ∈ news) (hrows : RowsAre news rv T) (hk48 : k < 48)
    (ret : ∀ news' h' tk', Fr h₀ L h' m → News h₀ L h' (news' ++ news) → Q (.bool true) { s with heap := h', toks := tk' }) :
    wpAny (model PySem.Challenge.rw_no0405_01.row.prog w) (ktrTop dp un gd cn cs L a ccd cl outer) (call (.ref 408) [.ref S.sa, .ref S.ha, .ref R, .int (S.most : Nat) tm, .bytes (kb k).toArray tk, .bool S.i]) Q E s := by
  obtain ⟨⟨A₀, base, B'⟩, F, X, N, ⟨p, loose, mean, mg, mb, Tp⟩, hk, hdp, hun⟩ := C
  have SI := SI.mono hs
  have hinst := SI.inst
  obtain ⟨t1, t2, t3, t4, t5, u1, u2, n, hdict⟩ := SI.dict
  have hm1 := SI.mostLo
  have hm2 := SI.mostHi
  have hfew := SI.few
  have hrl := hrows.length
  obtain ⟨TA, TB, hT, hA, hB⟩ := sl_split S.i k SI.sorted
  have hTl : T.length = TA.length + TB.length := by rw [hT, List.length_append]
  have hin1 : ∀ t, TB.head? = some t → t ∈ T := fun t ht => by rw [hT]; exact List.mem_append.mpr (.inr (List.mem_of_mem_head? ht))
  have hin2 : ∀ t, TA.getLast? = some t → t ∈ T := fun t ht => by rw [hT]; exact List.mem_append.mpr (.inl (List.mem_of_getLast? ht))
  have hv1 : nxt 0 TB = ov TB.head? := nxt_ov fun t ht => (SI.hts t (by rw [hT]; exact List.mem_append.mpr (.inr ht))).1
  have hv2 : foundV S TA = ov TA.getLast? := found_ov
  refine wpAny_call ?_
  k_dflt walk_at "sk enterC"
  rename_i g1 L1 h1 tk1 FG1 F1 B1 X1 T1 l1 o1 o2 o3 d1 d2 d3 N1
  k_steps
  walk_at "sk compT"
  k_steps
  walk_at "sk srcT"
  refine rows_filter (ts := T) (fun t => decide (rk S.i t.k < rk S.i k)) (hrows.mono ?_) (.inr ⟨_, by k_mem, rfl, _, rfl⟩) ?cond ?el _ _ _ ?kk ?fin
  · walk_at "sk sub2"
  case cond =>
    intro v5 w5 hw5 hrow5 I5 oI5 C5 oC5 D5 ys5 m5 h5 tk5 E5 Q5 hC5 hx5 F5 N5 fin5
    obtain ⟨a5, p5, q5, r5, n5, rfl, hm5⟩ := hrow5
    have hk5 := SI.keys w5 hw5
    dsimp only
    k_steps
    unfold Stp
    refine rank_lt (by k_asm) (by k_mem) (by k_mem) hk5 hk48 (by walk_at "cx units") ?_
    k_steps
    exact fin5 _ _ _ rfl (by k_asm) (by walk_at "sk news")
  case el =>
    intro v5 w5 hw5 hrow5 I5 oI5 C5 oC5 D5 ys5 m5 h5 tk5 E5 Q5 hC5 hx5 F5 N5 fin5
    dsimp only
    k_steps
    exact fin5 _ _ _ rfl (by k_asm) (by k_asm)
  case kk => rw [Nat.zero_add, List.size_toArray]
  case fin =>
    intro zs hz D5 h5 tk5 F5 N5 off5
    rw [List.drop_zero, hT, filter_split hA hB] at hz
    rw [List.nil_append] at N5
    have hzl := hz.length
    have hs1 : RowsAre news ((rv.drop ((zs.length : Nat) : Int).toNat).take ((((zs.length : Nat) : Int) + 1).toNat - ((zs.length : Nat) : Int).toNat)) TB.head?.toList := by
      have q := (hrows.drop TA.length).take 1
      rw [hT, List.drop_left, take_head] at q
      rw [show ((zs.length : Nat) : Int).toNat = TA.length by omega, show (((zs.length : Nat) : Int) + 1).toNat - TA.length = 1 by omega]
      exact q
    have hs2 : RowsAre news ((rv.take ((zs.length : Nat) : Int).toNat).drop ((rv.take ((zs.length : Nat) : Int).toNat).length - 1)) TA.getLast?.toList := by
      have q := (hrows.take TA.length)
      rw [hT, List.take_left] at q
      have q2 := q.drop (TA.length - 1)
      rw [drop_last] at q2
      rw [show ((zs.length : Nat) : Int).toNat = TA.length by omega, q.length]
      exact q2
    have hs3 : RowsAre news (rv.take ((zs.length : Nat) : Int).toNat) TA := by
      have q := (hrows.take TA.length)
      rw [hT, List.take_left] at q
      rw [show ((zs.length : Nat) : Int).toNat = TA.length by omega]
      exact q
    have htl : (trailV S TA).length = S.most := by unfold trailV; simp
    k_steps
    unfold Stp
    rename RowsAre _ _ (Option.toList _) => r9
    refine rows_ne (by k_asm) (by k_mem) (by k_mem) (r9.mono ?_) (hs1.mono ?_) (by walk_at "cx units") ?_
    · walk_at "sk sub2"
    · walk_at "sk sub2"
    clear r9
    k_steps
    unfold Stp
    rename RowsAre _ _ (Option.toList _) => r9
    refine rows_ne (by k_asm) (by k_mem) (by k_mem) (r9.mono ?_) (hs2.mono ?_) (by walk_at "cx units") ?_
    · walk_at "sk sub2"
    · walk_at "sk sub2"
    clear r9
    k_steps
    refine for_C (h₀ := g1) (c := L1 + 1 + 1 + 1) rfl rfl rfl rfl ?_
    k_steps
    rename_i tl _ _ ltl _ _ _ _ _ _ t3 u3 v3 hr F2 N2 hk2
    have htl1 : L1 + 1 + 1 + 1 < tl := ktn_ltOf ltl.2.2.2 (L1 + 1 + 1 + 1, o1) (by k_mem)
    refine LoopC.intro (oc := o1) (news := (tl, listOf (trailV S TA).toArray 0) :: news) S.most [Str.ofString "tall"] hr (by omega) (by omega) (by omega) F2 N2 ?hsub d1 (List.forall_mem_cons.mpr ⟨Nat.ne_of_gt htl1, fun p hp => Nat.ne_of_lt (Nat.lt_of_lt_of_le (l1 p hp) (by omega))⟩) ?turn ?done
    case hsub =>
      intro p9 h9
      rcases List.mem_cons.mp h9 with rfl | h9
      · k_mem
      · rcases List.mem_cons.mp h9 with rfl | h9
        · k_mem
        · simp only [List.mem_cons, List.mem_append, h9, or_true]
    case turn =>
      intro i u h tk o t I oI hi hd hI F3 N3
      rw [Int.zero_add] at hd
      change Fr g1 L1 _ _ at F3
      change News g1 L1 _ _ at N3
      (try k_fold)
      repeat (rename _ ∧ _ => x9; clear x9)
      have hlk : (trailV S TA)[((i : Nat) : Int).toNat]? = some (lastV S i TA) := by unfold trailV; simp [hi]
      k_steps
      walk_at "sk compAT"
      k_steps
      walk_at "sk srcT"
      refine rows_filter (ts := TA) (fun t => decide (i < t.h)) (hs3.mono ?_) (.inr ⟨_, by k_mem, rfl, _, rfl⟩) ?cond ?el _ _ _ ?kk ?fin
      · walk_at "sk sub2"
      case cond =>
        intro v5 w5 hw5 hrow5 I5 oI5 C5 oC5 D5 ys5 m5 h5 tk5 E5 Q5 hC5 hx5 F5 N5 fin5
        obtain ⟨a5, p5, q5, r5, n5, rfl, hm5⟩ := hrow5
        dsimp only
        k_steps
        exact fin5 _ _ _ (by simp only [Int.ofNat_lt]) (by k_asm) (by k_asm)
      case el =>
        intro v5 w5 hw5 hrow5 I5 oI5 C5 oC5 D5 ys5 m5 h5 tk5 E5 Q5 hC5 hx5 F5 N5 fin5
        dsimp only
        k_steps
        exact fin5 _ _ _ rfl (by k_asm) (by k_asm)
      case kk => rw [Nat.zero_add, List.size_toArray]
      case fin =>
        intro ys hy D5 h5 tk5 F5 N5 off5
        rw [List.drop_zero] at hy
        rw [List.nil_append] at N5
        have hyl := hy.length
        have hyTA : (TA.filter fun t => decide (i < t.h)).length ≤ TA.length := List.length_filter_le _ _
        rcases List.eq_nil_or_concat (TA.filter fun t => decide (i < t.h)) with hTL | ⟨TL, tt, hTL⟩
        · rw [hTL] at hyl
          have e0 : lastV S i TA = .ref S.ha := by unfold lastV; rw [hTL]; rfl
          rw [e0] at hlk
          rw [List.length_nil] at hyl
          k_steps
          unfold Stp
          refine wpAny_isNot_ref_self ?_
          k_steps
          exact FCEnd.intro (by k_asm) N5 (by k_mem) (by k_mem) hd (by walk_at "sk sub2") (by intro z9 h9; have h8 : z9 ≠ Str.ofString "tall" := (by simpa using h9); simp [h8])
        · rw [List.concat_eq_append] at hTL
          rw [hTL, List.length_append, List.length_singleton] at hyl hyTA
          have e0 : lastV S i TA = .ref tt.a := by unfold lastV; rw [hTL, cur_snoc.1]
          rw [e0] at hlk
          have htt : tt ∈ T := by
            rw [hT]
            exact List.mem_append.mpr (.inl (List.mem_filter.mp (show tt ∈ TA.filter fun t => decide (i < t.h) by rw [hTL]; simp)).1)
          have hne := ha_ne N SI htt
          have hv3 : Value.ref tt.a = ov (some tt) := rfl
          have hin3 : ∀ t, some tt = some t → t ∈ T := fun t e => by cases e; exact htt
          have hs4 := hy.drop (ys.length - 1)
          rw [hTL, show (TL ++ [tt]).drop (ys.length - 1) = [tt] by rw [hyl, Nat.add_sub_cancel, List.drop_left]] at hs4
          obtain ⟨TX, TY, hXY⟩ := List.append_of_mem htt
          have hch := SI.chain
          rw [hXY] at hch
          have hta : (tt.a, instObj 275 tt.d) ∈ news := (Chain.at hch).1
          have hha : (S.ha, instObj 275 S.hd) ∈ news := SI.head.1
          k_steps
          unfold Stp
          refine wpAny_is_ref_other hne (N5 _ (show (tt.a, instObj 275 tt.d) ∈ _ by k_mem)).1 (N5 _ (show (S.ha, instObj 275 S.hd) ∈ _ by k_mem)).1 (by intro z; cases z) ?_
          k_steps
          unfold Stp
          rename RowsAre _ _ (Option.toList _) => r9
          refine rows_ne (by k_asm) (by k_mem) (by k_mem) (r9.mono ?_) (hs4.mono ?_) (by walk_at "cx units") ?_
          · walk_at "sk sub2"
          · walk_at "sk sub2"
          k_steps
          exact FCEnd.intro (by k_asm) (by k_asm) (by k_mem) (by k_mem) hd (by walk_at "sk sub2") (by intro z9 h9; have h8 : z9 ≠ Str.ofString "tall" := (by simpa using h9); simp [h8])
    case done =>
      intro u h tk o v' hd F3 N3
      change Fr g1 L1 _ _ at F3
      change News g1 L1 _ _ at N3
      k_steps
      exact ret [_, _] _ _ (by k_asm) (by k_asm)
end
local macro_rules | `(tactic| walk_at "call ref") => `(tactic| (k_here; (with_reducible show wpAny _ _ (call (Value.ref 408) _) _ _ _); k_dflt (refine' finds_spec ?C (by assumption) ?hs ?hR (by assumption) ?hk ?_; (case C => walk_at "cx"); (case hs => walk_at "sk sub2"); (case hR => k_mem); (case hk => walk_at "kfit")); walk_at "sk ret"))
theorem all2_ints {vs zs : List Value} (h : All2 (fun _ y => ∃ n t, y = Value.int n t ∧ 0 ≤ n) vs zs) : ∃ ns, IntsAre zs ns ∧ ∀ n ∈ ns, 0 ≤ n := by
  induction h with
  | nil => exact ⟨[], .nil, fun _ h => nomatch h⟩
  | cons h1 _ ih =>
    obtain ⟨n, t, rfl, hn⟩ := h1
    obtain ⟨ns, h2, h3⟩ := ih
    exact ⟨n :: ns, .cons _ _ h2, fun k hk => by
      rcases List.mem_cons.mp hk with rfl | hk
      · exact hn
      · exact h3 k hk⟩
theorem All2.len {R : Value → Value → Prop} {vs zs : List Value} (h : All2 R vs zs) : zs.length = vs.length := by
  induction h with
  | nil => rfl
  | cons _ _ ih => rw [List.length_cons, List.length_cons, ih]
theorem if_twice {x : Str} {a b : Option Value} {m : Str → Option Value} : (fun y => if y = x then a else if y = x then b else m y) = fun y => if y = x then a else m y := by
  funext y
  by_cases h : y = x <;> simp [h]
/-- behind the choice of nums -/
def NumsI (s : Shared) (b : Heap) (L : Addr) (cells : List (Addr × Obj)) (f : Flow) (s' : Shared) : Prop :=
  f = Flow.next ∧ ∃ (l : Addr) (vs : List Value) (ns : List Int) (ep : Nat) (h : Heap) (tk : Nat) (m₀ : Str → Option Value), s' = { s with heap := h, toks := tk } ∧ Fr b L h (fun y => if y = Str.ofString "nums" then some (Value.ref l) else m₀ y) ∧ News b L h ((l, listOf vs.toArray ep) :: cells) ∧
    LCg.Off1 l cells ∧ IntsAre vs ns ∧ (∀ n ∈ ns, 0 ≤ n) ∧ 1 ≤ vs.length ∧ vs.length ≤ 10
theorem NumsI.intro {s : Shared} {b h : Heap} {L l : Addr} {cells news : List (Addr × Obj)} {vs : List Value} {ns : List Int} {ep tk : Nat} {m₀ : Str → Option Value} (F : Fr b L h (fun y => if y = Str.ofString "nums" then some (Value.ref l) else m₀ y)) (N : News b L h news)
    (hs : ∀ p ∈ (l, listOf vs.toArray ep) :: cells, p ∈ news) (ho : LCg.Off1 l cells) (hI : IntsAre vs ns) (hp : ∀ n ∈ ns, 0 ≤ n) (h1 : 1 ≤ vs.length) (h2 : vs.length ≤ 10) : NumsI s b L cells Flow.next { s with heap := h, toks := tk } :=
  ⟨rfl, l, vs, ns, ep, h, tk, m₀, rfl, F, fun p hp => N p (hs p hp), ho, hI, hp, h1, h2⟩
theorem tok_int {o : Obj} {a b : Int} {t : Tok} (h : o.data = .cell (some (.int a t))) (e : a = b) : ∃ u, o.data = .cell (some (.int b u)) := ⟨t, by rw [h, e]⟩
theorem most_of (x : Int) : ∃ mn : Nat, 1 + Int.fmod x 4 = (mn : Int) ∧ 1 ≤ mn ∧ mn ≤ 4 := by
  have a1 := Int.fmod_nonneg_of_pos x (show (0 : Int) < 4 by decide)
  have a2 := Int.fmod_lt_of_pos x (show (0 : Int) < 4 by decide)
  exact ⟨(1 + Int.fmod x 4).toNat, by omega, by omega, by omega⟩
theorem few_of (x : Int) : ∃ hn : Nat, 1 + Int.fmod x 3 = (hn : Int) ∧ 1 ≤ hn ∧ hn ≤ 3 := by
  have a1 := Int.fmod_nonneg_of_pos x (show (0 : Int) < 3 by decide)
  have a2 := Int.fmod_lt_of_pos x (show (0 : Int) < 3 by decide)
  exact ⟨(1 + Int.fmod x 3).toNat, by omega, by omega, by omega⟩
theorem more_pos {x : Int} (h : 0 ≤ x) : 0 ≤ Int.fdiv x 24 := by
  rw [Int.fdiv_eq_ediv_of_nonneg _ (by decide)]
  exact Int.ediv_nonneg h (by decide)
theorem heights_ints {zs : List Value} {n most : Nat} (hl : zs.length = n) (h : ∀ j : Nat, j < n → ∃ y, zs[j]? = some y ∧ ∃ k t, y = Value.int k t ∧ 1 ≤ k ∧ k ≤ (most : Int)) : ∃ hs, IntsAre zs hs ∧ ∀ k ∈ hs, 1 ≤ k ∧ k ≤ (most : Int) := by
  induction zs generalizing n with
  | nil => exact ⟨[], .nil, fun _ h => nomatch h⟩
  | cons z zs ih =>
    cases n with
    | zero => cases hl
    | succ n =>
      obtain ⟨y, e, k, t, rfl, h1⟩ := h 0 (by omega)
      rw [List.getElem?_cons_zero] at e
      obtain rfl := Option.some.inj e
      obtain ⟨hs, h2, h3⟩ := ih (n := n) (by simpa using hl) fun j hj => by
        have := h (j + 1) (by omega)
        simpa using this
      exact ⟨k :: hs, .cons _ _ h2, fun c hc => by
        rcases List.mem_cons.mp hc with rfl | hc
        · exact h1
        · exact h3 c hc⟩
theorem range_len {n : Nat} (h : n ≤ 1000) : Builtin.Range.small 0 (n : Int) 1 = true ∧ Builtin.Range.rangeSize 0 (n : Int) 1 = ((n : Nat) : Int) := by
  refine ⟨small_one (by omega) (by omega) (by omega) (by omega), ?_⟩
  unfold Builtin.Range.rangeSize
  simp only [show (1 : Int) > 0 by decide, if_true]
  (repeat' split) <;> first | omega | (simp at *; omega)
theorem height_of {x : Int} {mn : Nat} (h : 1 ≤ mn) : 1 ≤ 1 + Int.fmod x (mn : Int) ∧ 1 + Int.fmod x (mn : Int) ≤ (mn : Int) := by
  have a1 := Int.fmod_nonneg_of_pos x (show (0 : Int) < (mn : Int) by omega)
  have a2 := Int.fmod_lt_of_pos x (show (0 : Int) < (mn : Int) by omega)
  omega
/-- behind the choice of the order -/
def OrdI (P : Params) (s : Shared) (b : Heap) (L : Addr) (led : List (Addr × Obj)) (i : Bool) (m₁ : Str → Option Value) (f : Flow) (s' : Shared) : Prop :=
  f = Flow.next ∧ ∃ (o : Addr) (led' : List (Addr × Obj)) (h : Heap) (tk : Nat), s' = { s with heap := h, toks := tk } ∧ Fr b L h (fun y => if y = Str.ofString "order" then some (Value.ref o) else m₁ y) ∧ News b L h led' ∧ (∀ p ∈ led, p ∈ led') ∧ OrdAt P led' i o
theorem OrdI.intro {P : Params} {s : Shared} {b h : Heap} {L o : Addr} {led led' : List (Addr × Obj)} {i : Bool} {m₁ : Str → Option Value} {tk : Nat} (F : Fr b L h (fun y => if y = Str.ofString "order" then some (Value.ref o) else m₁ y)) (N : News b L h led')
    (hs : ∀ p ∈ led, p ∈ led') (ho : OrdAt P led' i o) : OrdI P s b L led i m₁ Flow.next { s with heap := h, toks := tk } := ⟨rfl, o, led', h, tk, rfl, F, N, hs, ho⟩
theorem ints_snoc {vs : List Value} {ns : List Int} {x : Int} {t : Tok} (h : IntsAre vs ns) : IntsAre (vs ++ [.int x t]) (ns ++ [x]) := by
  induction h with
  | nil => exact .cons _ _ .nil
  | cons n u _ ih => exact .cons _ _ ih
theorem led_hide {b h : Heap} {L : Addr} {news : List (Addr × Obj)} (N : News b L h news) : ∃ led, News b L h led ∧ ∀ p ∈ news, p ∈ led := ⟨news, N, fun _ h => h⟩
theorem low_of (re : Int) : -100 < 0 - Int.fmod re 2 ∧ 0 - Int.fmod re 2 < 1 := by
  have a1 := Int.fmod_nonneg_of_pos re (show (0 : Int) < 2 by decide)
  have a2 := Int.fmod_lt_of_pos re (show (0 : Int) < 2 by decide)
  omega
theorem nil_lt {i : Bool} {k : Nat} : ∀ u ∈ ([] : List Tw), rk i u.k < rk i k := fun _ h => nomatch h
theorem nil_ge {i : Bool} {k : Nat} : ∀ u ∈ ([] : List Tw), ¬ rk i u.k < rk i k := fun _ h => nomatch h
theorem trail_nil {S : Sl} (h : 1 ≤ S.most) : (trailV S [])[((0 : Int)).toNat]? = some (.ref S.ha) := by
  unfold trailV
  have : 0 < S.most := h
  simp [this]
  rfl
local macro_rules | `(tactic| walk_at "call ref") => `(tactic| (k_here; (with_reducible show wpAny _ _ (call (Value.ref 363) _) _ _ _); k_dflt (refine' draw_spec ?C ?hl ?hi ?h1 ?h2 ?h3 ?_; (case C => walk_at "cx"); (case hl => k_mem); (case hi => assumption); (case h1 | h2 | h3 => omega)); walk_at "sk ret"))
local macro_rules | `(tactic| walk_at "call ref") => `(tactic| (k_here; (first | (with_reducible show wpAny _ _ (call (Value.ref 384) _) _ _ _) | (with_reducible show wpAny _ _ (call (Value.ref 345) _) _ _ _) | (with_reducible show wpAny _ _ (call (Value.ref 314) _) _ _ _)); refine Stp.mk ?_))
local macro_rules | `(tactic| walk_at "sk rows") => `(tactic| first | assumption | (refine' RowsAre.mono ?hs9 (by assumption); (case hs9 => walk_at "sk sub2")) | fail "sk rows")
local macro_rules | `(tactic| walk_at "call ref") => `(tactic| (k_here; (with_reducible show wpAny _ _ (call (Value.ref 408) _) _ _ _); k_dflt (refine' finds_spec ?C (by assumption) ?hs ?hR ?hr ?hk ?_; (case C => walk_at "cx"); (case hs => walk_at "sk sub2"); (case hR => k_mem); (case hr => walk_at "sk rows"); (case hk => walk_at "kfit")); walk_at "sk ret"))
local macro_rules | `(tactic| walk_at "call ref") => `(tactic| (k_here; (with_reducible show wpAny _ _ (call (Value.ref 396) _) _ _ _); k_dflt (refine' stands_spec ?C (by assumption) ?hs ?hR ?hr ?_; (case C => walk_at "cx"); (case hs => walk_at "sk sub2"); (case hR => k_mem); (case hr => walk_at "sk rows")); walk_at "sk ret"))
local macro_rules | `(tactic| walk_at "binaryOp Add ref ref") => `(tactic| (k_here; k_dflt (refine' cat_L ?F ?N ?m ?p ?y ?z ?_; (case F | N => k_asm); (case m | p => k_mem); (case y | z => walk_at "sk size")); intro D' h' F' N' l1; (try dsimp only); (try k_lt l1); (try k_sweep)))
local macro_rules | `(tactic| walk_at "call ref") => `(tactic| (k_here; (with_reducible show wpAny _ _ (call (Value.ref 321) _) _ _ _); k_dflt (refine' first_spec (T := []) ?C (by assumption) ?hs ?_; (case C => walk_at "cx"); (case hs => walk_at "sk sub2")); intro h' tk' F' N'; (try dsimp only); dsimp only [nxt]; (try k_sweep)))
local macro_rules | `(tactic| walk_at "call ref") => `(tactic| (k_here; (with_reducible show wpAny _ _ (call (Value.ref 342) _) _ _ _); k_dflt (refine' last_spec (T := []) ?C (by assumption) ?hs ?_; (case C => walk_at "cx"); (case hs => walk_at "sk sub2")); intro h' tk' F' N'; (try dsimp only); dsimp only [foundV, List.getLast?]; (try k_sweep)))
local macro_rules | `(tactic| walk_at "subscriptTail Subscript Slice ref ref") => `(tactic| (k_here; k_dflt (refine kba_turn (value' := PySem.Expr.Name (PySem.Str.ofString "a") ⟨0, 0, 0, 0⟩) (fun _ => rfl) ?_)))
/-! the law's own text -/
def lawBody : List Stmt := match PySem.Challenge.pw_no0405_01.main.body.getLast? with
  | some (.FunctionDef _ _ body _ _ _ _ _ _ _) => body
  | _ => []
def lawScope : Scope := match PySem.Challenge.pw_no0405_01.main.body.getLast? with
  | some (.FunctionDef _ _ _ _ _ _ scope _ _ _) => scope
  | _ => { kind := .function, names := [], isGenerator := false, isCoroutine := false }
def lawLoop : List Stmt := match lawBody.drop 16 with
  | .For _ _ body _ _ :: _ => body
  | _ => []
def lawTail : List Stmt := lawBody.drop 17
structure LwS where
  T : List Tw
  R : Addr
  rv : List Value
  er : Nat
  om : Obj
  led : List (Addr × Obj)
abbrev lwLed (M : Addr) (c : LwS) : List (Addr × Obj) := (M, c.om) :: c.led
abbrev lwPs (c : LwS) : List (Str × Value) := [(Str.ofString "rows", .ref c.R)]
abbrev lwSt : List Str := [Str.ofString "key", Str.ofString "value", Str.ofString "taken", Str.ofString "told", Str.ofString "n"]
structure LwP (P : Params) (S : Sl) (M : Addr) (fx : List (Addr × Obj)) (i : Nat) (c : LwS) : Prop where
  few : c.T.length ≤ i
  sl : SlIn P c.led S c.T
  rows : (c.R, listOf c.rv.toArray c.er) ∈ c.led
  are : RowsAre c.led c.rv c.T
  om : ∃ v, c.om.data = .cell v
  off : ∀ p ∈ c.led, p.1 ≠ M
  fix : ∀ p ∈ fx, p ∈ c.led
abbrev lwMap (S : Sl) (R0 l : Addr) (su : Int) (ts : Tok) (m₀ : Str → Option Value) : Str → Option Value :=
  fun y => if y = Str.ofString "rows" then some (Value.ref R0) else if y = Str.ofString "head" then some (Value.ref S.ha) else if y = Str.ofString "towers" then some (Value.ref S.sa) else if y = Str.ofString "order" then some (Value.ref S.o) else
    if y = Str.ofString "heights" then some (Value.ref S.hs) else if y = Str.ofString "setup" then some (Value.int su ts) else if y = Str.ofString "nums" then some (Value.ref l) else m₀ y
theorem dup_split {i : Bool} {k : Nat} {T : List Tw} (so : T.Pairwise fun t u => rk i t.k < rk i u.k) (h : ∃ t ∈ T, t.k = k) : ∃ A b X, T = A ++ b :: X ∧ (∀ u ∈ A, rk i u.k < rk i k) ∧ (∀ u ∈ b :: X, ¬ rk i u.k < rk i k) ∧ b.k = k := by
  obtain ⟨A, B, rfl, hA, hB⟩ := sl_split i k so
  obtain ⟨t, ht, rfl⟩ := h
  rcases List.mem_append.mp ht with hm | hm
  · exact absurd (hA t hm) (Nat.lt_irrefl _)
  · cases B with
    | nil => cases hm
    | cons b X =>
      refine ⟨A, b, X, rfl, hA, hB, ?_⟩
      rcases List.mem_cons.mp hm with e | hm
      · rw [e]
      · have s2 := (List.pairwise_append.mp so).2.1
        exact absurd ((List.pairwise_cons.mp s2).1 t hm) (hB b (.head _))
theorem news_sub {b h : Heap} {L : Addr} {led news : List (Addr × Obj)} (N : News b L h news) (hs : ∀ p ∈ led, p ∈ news) : News b L h led := fun p hp => N p (hs p hp)
theorem adr_off {P : Params} {led : List (Addr × Obj)} {S : Sl} {T : List Tw} {D : Addr} (SI : SlIn P led S T) (h : ∀ p ∈ led, p.1 ≠ D) : D ≠ S.sd ∧ D ≠ S.hl ∧ ∀ u ∈ T, D ≠ u.l := by
  obtain ⟨t1, t2, t3, t4, t5, u1, u2, n, hd⟩ := SI.dict
  obtain ⟨_, _, ep, h3⟩ := SI.head
  refine ⟨fun e => h _ hd e.symm, fun e => h _ h3 e.symm, fun u hu e => ?_⟩
  obtain ⟨A, B, rfl⟩ := List.append_of_mem hu
  obtain ⟨_, _, ep2, h4⟩ := Chain.at SI.chain
  exact h _ h4 e.symm
/-- what an insert keeps of a ledger -/
theorem ins_keeps {P : Params} {b h : Heap} {L M I R : Addr} {led cl led' : List (Addr × Obj)} {S : Sl} {T : List Tw} {om oT : Obj} {rv : List Value} {er : Nat} {fx : List (Addr × Obj)} (N : News b L h led) (SI : SlIn P led S T) (hm : ∀ p ∈ (I, oT) :: (M, om) :: led, p ∈ cl)
    (keep : ∀ p ∈ cl, p.1 ≠ S.sd → p.1 ≠ S.hl → (∀ u ∈ T, p.1 ≠ u.l) → p ∈ led') (hI : ∀ p ∈ led, p.1 ≠ I) (hM : ∀ p ∈ led, p.1 ≠ M) (hR : (R, listOf rv.toArray er) ∈ led) (hare : RowsAre led rv T)
    (hfx : ∀ p ∈ fx, p ∈ led ∧ p.1 ≠ S.sd ∧ p.1 ≠ S.hl ∧ ∀ u ∈ T, p.1 ≠ u.l) : (I, oT) ∈ led' ∧ (M, om) ∈ led' ∧ (R, listOf rv.toArray er) ∈ led' ∧ RowsAre led' rv T ∧ ∀ p ∈ fx, p ∈ led' := by
  obtain ⟨i1, i2, i3⟩ := adr_off SI hI
  obtain ⟨m1, m2, m3⟩ := adr_off SI hM
  obtain ⟨r2, r3⟩ := rows_off N SI hR hare
  refine ⟨keep _ (hm _ (.head _)) i1 i2 i3, keep _ (hm _ (.tail _ (.head _))) m1 m2 m3, keep _ (hm _ (.tail _ (.tail _ hR))) (sd_off N SI hR five_list) r2 r3, hare.part fun p hp vs n e => ?_, fun p hp => ?_⟩
  · have e1 : ¬ IsL p.2 := by rw [e]; exact isL_tup
    have e2 : ¬ Five p.2 := by rw [e]; exact five_tup
    obtain ⟨k2, k3⟩ := notL_off N SI hp e1
    exact keep _ (hm _ (.tail _ (.tail _ hp))) (sd_off N SI hp e2) k2 k3
  · obtain ⟨q0, q1, q2, q3⟩ := hfx p hp
    exact keep _ (hm _ (.tail _ (.tail _ q0))) q1 q2 q3
/-- the mark's cell put ahead of the rest, behind an insert -/
theorem ins_fork {P : Params} {b h : Heap} {L M I R : Addr} {led' : List (Addr × Obj)} {S : Sl} {T T' : List Tw} {om oT : Obj} {omv : Option Value} {rv : List Value} {er : Nat} {fx : List (Addr × Obj)} (N : News b L h led') (hM : (M, om) ∈ led') (hom : om.data = .cell omv) (SI : SlIn P led' S T')
    (hI : (I, oT) ∈ led') (hIM : I ≠ M) (hR : (R, listOf rv.toArray er) ∈ led') (hare : RowsAre led' rv T) (hfx : ∀ p ∈ fx, p ∈ led') (hfM : ∀ p ∈ fx, p.1 ≠ M) :
    ∃ c, News b L h ((M, om) :: c) ∧ (∀ p ∈ c, p.1 ≠ M) ∧ SlIn P c S T' ∧ (I, oT) ∈ c ∧ (R, listOf rv.toArray er) ∈ c ∧ RowsAre c rv T ∧ ∀ p ∈ fx, p ∈ c := by
  obtain ⟨c, N2, o2, s2, _⟩ := led_fork N hM
  have pl : ∀ p ∈ led', Pl p.2 → p ∈ c := fun p hp hpl => s2 p hp fun e => by
    have z := news_one N hM (show (M, p.2) ∈ led' by rw [← e]; exact hp)
    exact hpl.2 _ (by rw [← z]; exact hom)
  exact ⟨c, N2, o2, SI.pl pl, s2 _ hI hIM, pl _ hR pl_list, hare.part fun p hp vs n e => pl p hp (by rw [e]; exact pl_tup), fun p hp => s2 p (hfx p hp) (hfM p hp)⟩
/-- the end of a turn -/
theorem law_next {P : Params} {h₀ h' : Heap} {L M I R' : Addr} {s : Shared} {tk i : Nat} {news : List (Addr × Obj)} {S : Sl} {T' : List Tw} {om' oT : Obj} {omv : Option Value} {rv' : List Value} {er' : Nat} {fx : List (Addr × Obj)} {x : Str} {m₀ m' : Str → Option Value}
    (F : Fr h₀ L h' m') (N : News h₀ L h' news) (hI : (I, oT) ∈ news) (hT1 : oT.cls = .type "range_iterator") (hM : (M, om') ∈ news) (hom : om'.data = .cell omv) (hIM : I ≠ M) (SI : SlIn P news S T') (hR : (R', listOf rv'.toArray er') ∈ news) (hare : RowsAre news rv' T')
    (hfx : ∀ p ∈ fx, p ∈ news) (hfM : ∀ p ∈ fx, p.1 ≠ M) (hfI : ∀ p ∈ fx, p.1 ≠ I) (few : T'.length ≤ i) (hrow : m' (Str.ofString "rows") = some (.ref R')) (hr : ∀ z, z ≠ x → (∀ p ∈ lwPs ⟨T', R', rv', er', om', []⟩, z ≠ p.1) → lwSt.contains z = false → m' z = m₀ z) :
    FREnd h₀ L s I oT x (LwP P S M fx i) (lwLed M) lwPs lwSt m₀ { s with heap := h', toks := tk } := by
  have sub : ∀ p ∈ news.filter (fun p => decide (p.1 ≠ I) && decide (p.1 ≠ M)), p ∈ news ∧ p.1 ≠ I ∧ p.1 ≠ M := fun p hp => by
    have := List.mem_filter.mp hp
    simpa using this
  have sup : ∀ p ∈ news, p.1 ≠ I → p.1 ≠ M → p ∈ news.filter (fun p => decide (p.1 ≠ I) && decide (p.1 ≠ M)) := fun p hp h1 h2 => List.mem_filter.mpr ⟨hp, by simp [h1, h2]⟩
  have pl : ∀ p ∈ news, Pl p.2 → p ∈ news.filter (fun p => decide (p.1 ≠ I) && decide (p.1 ≠ M)) := fun p hp hpl => by
    refine sup p hp (fun e => ?_) fun e => ?_
    · have z := news_one N hI (show (I, p.2) ∈ news by rw [← e]; exact hp)
      exact hpl.1 (by rw [← z]; exact hT1)
    · have z := news_one N hM (show (M, p.2) ∈ news by rw [← e]; exact hp)
      exact hpl.2 _ (by rw [← z]; exact hom)
  refine FREnd.intro ⟨T', R', rv', er', om', news.filter (fun p => decide (p.1 ≠ I) && decide (p.1 ≠ M))⟩ F N hI (fun p hp => ?_) (fun p hp => ?_) (fun p hp => ?_) hr ⟨few, SI.pl pl, pl _ hR pl_list, hare.part fun p hp vs n e => pl p hp (by rw [e]; exact pl_tup), ⟨omv, hom⟩, fun p hp => (sub p hp).2.2, fun p hp => sup p (hfx p hp) (hfI p hp) (hfM p hp)⟩
  · rcases List.mem_cons.mp hp with rfl | hp
    · exact hM
    · exact (sub p hp).1
  · rcases List.mem_cons.mp hp with rfl | hp
    · exact hIM.symm
    · exact (sub p hp).2.1
  · rcases List.mem_cons.mp hp with rfl | hp
    · exact hrow
    · cases hp
theorem ints_get {vs : List Value} {ns : List Int} (h : IntsAre vs ns) : ∀ {i : Nat} {x : Int}, ns[i]? = some x → ∃ t, vs[i]? = some (.int x t) := by
  induction h with
  | nil => intro i x e; simp at e
  | cons n t _ ih =>
    intro i x e
    cases i with
    | zero =>
      rw [List.getElem?_cons_zero] at e
      obtain rfl := Option.some.inj e
      exact ⟨t, rfl⟩
    | succ i =>
      rw [List.getElem?_cons_succ] at e ⊢
      exact ih e
local macro_rules | `(tactic| walk_at "exec Try") => `(tactic| (k_here; refine wpAny_Try_except ?_))
local macro_rules | `(tactic| walk_at "sk off") => `(tactic| assumption)
/-! an exception of the text's own, caught in a frame that has cells -/
section
variable {prog : Program} {w : World} {A₀ : Around} {E : Value → Shared → Prop} {s' : Shared} {g h : Heap} {L fa e t C : Addr} {m : Str → Option Value} {nm : Str} {sc : Scope} {cd : Value} {cl : List (Str × Addr)} {vs : List Value} {x : Str} {np pos : Pos} {st : Stmt} {suite : List Stmt} {rest : List ExceptHandler}
  {Q : Flow → Shared → Prop} {news : List (Addr × Obj)} {K : Frag} {bases : List Value} {newId : String} {p : Program} {loose : List Str} {mg mb : Str → Option Value}
theorem catch_X (B : Below A₀ g [] g) (F : Fr g L h m) (hup : h.UpToSlots s'.heap) (R : RaisedK g [envX nm sc L fa cd cl] e (.ref C) t vs news s'.heap) (X : K.In g) (T : TopRead p loose mg mb g)
    (hx : nsIn K mainGlobals x = some (some (.ref C))) (hc : excIn K C bases newId = true) (hb : bases.contains (.type "BaseException") = true)
    (next : ∀ h₂, Fr g L h₂ m → News g L h₂ news → wpAny (model prog w) ((A₀.deeper (envX nm sc L fa cd cl)).mark (some (.ref e))) (execs (st :: suite) (envX nm sc L fa cd cl)) Q E { s' with heap := h₂ })
    (hk : sc.kind = .function := by rfl) (hg : (envX nm sc L fa cd cl).kindOf x = some .globalImplicit := by rfl) (hd : (x == ("__debug__" : Str)) = false := by decide)
    (hE : PassesOwnAt (model prog w) ((A₀.deeper (envX nm sc L fa cd cl)).mark (some (.ref e))) (A₀.deeper (envX nm sc L fa cd cl)) (envX nm sc L fa cd cl) E := by passes_own) :
    wpAny (model prog w) (A₀.deeper (envX nm sc L fa cd cl)) (noteFrame (.ref e) (envX nm sc L fa cd cl))
      (fun _ s₂ => wpAny (model prog w) (A₀.deeper (envX nm sc L fa cd cl)) (setFlight (.ref e) none) (fun _ s₃ =>
        wpAny (model prog w) (A₀.deeper (envX nm sc L fa cd cl)) (handleBy (.ref e) (envX nm sc L fa cd cl) (.ExceptHandler (some (.Name x np)) none (st :: suite) pos :: rest)) Q E s₃) E s₂) E s' := by
  obtain ⟨⟨G, hG, hnews, hfly, _⟩, _⟩ := R
  have hGL : G.get? L = none := by
    obtain ⟨_, ⟨b, _, hb1, hb2, _⟩, _⟩ := hfly.2.2.1
    rw [Option.some.inj hb1]
    exact hb2
  refine wpAny_looks_onW (Around.frames_deeper B.stack) rfl hfly fun g1 f1 u1 => wpAny_landsW f1 fun g2 f2 u2 => ?_
  have b2 := flyingW_base hG f2
  have F2 := F.of_stays b2.1 (hup.trans (u1.trans u2))
  obtain ⟨oe, hoe, hoc⟩ := b2.there
  obtain ⟨_, _, _, _, _, _, _, _, _, _, _, _, _, _, _, _, _, hcls, _, _, tail⟩ := ((own_of_in X T hx hc).keeps F2.keep).obj
  refine wpAny_handleBy_cons (codeAny_handlers_test (nameX_K F2 X T hx ?_ hk hg hd)) (by intro q; cases q)
  refine wpAny_excMatches_sub_self hcls hoe hoc (tail.hasType hb) (codeAny_handlers_suite (lands_againW f2 fun g3 f3 u3 => ?_))
  have b3 := flyingW_base hG f3
  refine wpAny_passesOwnAt hE (next g3 (F.of_stays b3.1 ((hup.trans (u1.trans u2)).trans u3)) fun q hq => ⟨f3.1 _ _ (hnews q hq).1, fun z => ?_, (hnews q hq).2⟩)
  have := (hnews q hq).1
  rw [z, hGL] at this
  cases this
end
local macro_rules | `(tactic| walk_at "noteFrame ref") => `(tactic| (k_here; (rename RaisedK _ _ _ _ _ _ _ _ => rkX); k_dflt (refine' catch_X (bases := [.type "Exception", .type "BaseException", .type "object"]) (newId := "Exception.__new__") ?K ?F ?U ?R ?X ?T ?ex ?q ?hb ?_; (case K | F | U => assumption); (case R => exact rkX); (case X | T => k_asm); (case ex => k_is); (case q => k_exc); (case hb => rfl); k_whole); intro h' F' N'; (try k_sweep)))
section
variable {w : World} {fa L l R0 : Addr} {cdv : Value} {h₀ h : Heap} {s : Shared} {tk : Nat} {S : Sl} {oI oM oR : Obj} {tM tS : Tok} {vs hzs : List Value} {ns : List Int} {ep eh : Nat} {su : Int} {m₀ u : Str → Option Value} {Q : Flow → Shared → Prop} {R1 R2 : Value → Shared → Prop}
theorem law_tail {c : LwS} (K0 : Below callerA h₀ [] h₀) (X : (Sk.K w.params).In h₀) (TT : ∃ p loose mean mg mb, Top p loose mean mg mb h₀)
    (dI : oI.data = .cell (some (.bool S.i))) (dM : oM.data = .cell (some (.int (S.most : Nat) tM))) (hI : IntsAre vs ns) (hp : ∀ n ∈ ns, 0 ≤ n) (h1 : 1 ≤ vs.length) (h2 : vs.length ≤ 10)
    (H : LwP w.params S (L + 1 + 1 + 1 + 1) [(L + 1, oI), (L + 1 + 1, oM), (L + 1 + 1 + 1, oR), (l, listOf vs.toArray ep), (S.hs, listOf hzs.toArray eh)] 7 c)
    (F : Fr h₀ L h (fun y => if y = Str.ofString "i" then u y else kstB (fun z => if lwSt.contains z then u z else lwMap S R0 l su tS m₀ z) (lwPs c) y))
    (N : News h₀ L h (lwLed (L + 1 + 1 + 1 + 1) c))
    (hQ : ∀ h' tk' m', Fr h₀ L h' m' → Q (.ret (.bool true)) { s with heap := h', toks := tk' }) :
    wpAny (model PySem.Challenge.rw_no0405_01.row.prog w) (callerA.deeper (envOfC (Str.ofString "law") lawScope L fa cdv)) (execs lawTail (envOfC (Str.ofString "law") lawScope L fa cdv)) Q
      (fun e s' => wpAny (model PySem.Challenge.rw_no0405_01.row.prog w) (callerA.deeper (envOfC (Str.ofString "law") lawScope L fa cdv)) (leaving (envOfC (Str.ofString "law") lawScope L fa cdv) e) (fun _ s'' => R1 e s'') (fun e' s'' => R2 e' s'') s')
      { s with heap := h, toks := tk } := by
  obtain ⟨p, loose, mean, mg, mb, Tp⟩ := TT
  obtain ⟨T, R, rv, er, om, led⟩ := c
  obtain ⟨few, SI, hrows, hare, ⟨omv, dmk⟩, hled, hfix⟩ := H
  dsimp only [lwLed, lwPs, lwSt, lwMap, kstB] at few SI hrows hare dmk hled hfix F N ⊢
  conv in (occs := *) lawScope => all_goals whnf
  conv in lawTail => whnf
  (try k_fold)
  replace N : News h₀ L h led := fun p hp => N p (.tail _ hp)
  have hf1 := hfix _ (.head _)
  have hf2 := hfix _ (.tail _ (.head _))
  have hf4 := hfix _ (.tail _ (.tail _ (.tail _ (.head _))))
  clear hfix hled
  have hln := hI.length
  have hrl := hare.length
  have hv1 : nxt 0 T = ov T.head? := nxt_ov fun t ht => (SI.hts t ht).1
  have hv2 : foundV S T = ov T.getLast? := found_ov
  have hin1 : ∀ t, T.head? = some t → t ∈ T := fun t ht => List.mem_of_mem_head? ht
  have hin2 : ∀ t, T.getLast? = some t → t ∈ T := fun t ht => List.mem_of_getLast? ht
  have hinst := SI.inst
  obtain ⟨w1, w2, w3, w4, w5, w6, w7, w8, hdict⟩ := SI.dict
  k_steps
  rename_i t3 u3 v3 hr F2 N2 hk2
  unfold Stp
  with_unfolding_all
    refine' for_S (σ := Unit) 2 (fun _ _ => True) (fun _ => led) (fun _ => []) [] () rfl hr (by omega) (by omega) (by omega) F2 N2 (fun _ h => h) (fun _ h => nomatch h) trivial ?turn ?done
  case turn =>
    rintro i c u9 h9 tk9 own t9 hi _ hoff F3 N3
    dsimp only [kstB] at F3
    (try k_fold)
    have hdr := dr_pos (i := 8 + (i : Int)) hp (by omega) (by omega)
    have hk48 := kmod hdr
    have hg1 := List.mem_append_left own hf1
    have hg2 := List.mem_append_left own hf2
    have hg4 := List.mem_append_left own hf4
    have hgR := List.mem_append_left own hrows
    have hgi := List.mem_append_left own hinst
    have hgd := List.mem_append_left own hdict
    k_steps
    (rename News h₀ _ _ _ => N5c); (rename Fr h₀ _ _ _ => F5c)
    exact FEnd.intro () F5c N5c (fun p hp => List.mem_append_right _ (List.mem_append_left _ hp)) (fun p hp => List.mem_append_right _ (List.mem_append_right _ hp)) hoff (fun _ h => nomatch h) (by walk_at "sk same2") trivial
  case done =>
    rintro c u9 h9 tk9 _ F3 N3
    dsimp only [kstB] at F3
    have hs1 : RowsAre led (rv.take (1 : Int).toNat) T.head?.toList := by
      have q := hare.take 1
      rw [take_head] at q
      exact q
    have hs2 : RowsAre led (rv.drop (rv.length - 1)) T.getLast?.toList := by
      have q := hare.drop (T.length - 1)
      rw [drop_last] at q
      rw [hrl]
      exact q
    have hfew := SI.few
    k_steps
    unfold Stp
    rename RowsAre _ _ (Option.toList _) => r9
    refine rows_eq (by k_asm) (by k_mem) (by k_mem) (r9.mono ?_) (hs1.mono ?_) (by walk_at "cx units") ?_
    · walk_at "sk sub2"
    · walk_at "sk sub2"
    clear r9
    k_steps
    unfold Stp
    rename RowsAre _ _ (Option.toList _) => r9
    refine rows_eq (by k_asm) (by k_mem) (by k_mem) (r9.mono ?_) (hs2.mono ?_) (by walk_at "cx units") ?_
    · walk_at "sk sub2"
    · walk_at "sk sub2"
    clear r9
    k_steps
    (rename Fr h₀ _ _ _ => F5c)
    exact hQ _ _ _ F5c
end
section
variable {w : World} {fa L l R0 : Addr} {cdv : Value} {h₀ h : Heap} {s : Shared} {tk : Nat} {S : Sl} {oI oM oR : Obj} {tM tS t : Tok} {vs hzs : List Value} {ns hh : List Int} {ep eh : Nat} {su : Int} {m₀ u : Str → Option Value} {Q : Flow → Shared → Prop} {R1 R2 : Value → Shared → Prop}
theorem law_turn {i : Nat} {c : LwS} {I : Addr} {oT : Obj} (K0 : Below callerA h₀ [] h₀) (X : (Sk.K w.params).In h₀) (TT : ∃ p loose mean mg mb, Top p loose mean mg mb h₀)
    (dI : oI.data = .cell (some (.bool S.i))) (dM : oM.data = .cell (some (.int (S.most : Nat) tM))) (dR : ∃ v, oR.data = .cell v) (hI : IntsAre vs ns) (hp : ∀ n ∈ ns, 0 ≤ n) (h1 : 1 ≤ vs.length) (h2 : vs.length ≤ 10)
    (hhI : IntsAre hzs hh) (hh1 : 1 ≤ hzs.length) (hh2 : hzs.length ≤ 3) (hhg : ∀ y ∈ hh, 1 ≤ y ∧ y ≤ (S.most : Int))
    (hi : i < 7) (H : LwP w.params S (L + 1 + 1 + 1 + 1) [(L + 1, oI), (L + 1 + 1, oM), (L + 1 + 1 + 1, oR), (l, listOf vs.toArray ep), (S.hs, listOf hzs.toArray eh)] i c)
    (hT1 : oT.cls = .type "range_iterator") (hT2 : ∀ v, oT.data ≠ .cell v) (hoff : ∀ p ∈ lwLed (L + 1 + 1 + 1 + 1) c, p.1 ≠ I)
    (F : Fr h₀ L h (fun y => if y = Str.ofString "i" then some (.int (1 + (i : Int)) t) else kstB (fun z => if lwSt.contains z then u z else lwMap S R0 l su tS m₀ z) (lwPs c) y))
    (N : News h₀ L h ((I, oT) :: lwLed (L + 1 + 1 + 1 + 1) c)) :
    wpAny (model PySem.Challenge.rw_no0405_01.row.prog w) (callerA.deeper (envOfC (Str.ofString "law") lawScope L fa cdv)) (execs lawLoop (envOfC (Str.ofString "law") lawScope L fa cdv))
      (FRPost h₀ L s I oT (Str.ofString "i") (LwP w.params S (L + 1 + 1 + 1 + 1) [(L + 1, oI), (L + 1 + 1, oM), (L + 1 + 1 + 1, oR), (l, listOf vs.toArray ep), (S.hs, listOf hzs.toArray eh)] (i + 1)) (lwLed (L + 1 + 1 + 1 + 1)) lwPs lwSt (lwMap S R0 l su tS m₀) Q)
      (fun e s' => wpAny (model PySem.Challenge.rw_no0405_01.row.prog w) (callerA.deeper (envOfC (Str.ofString "law") lawScope L fa cdv)) (leaving (envOfC (Str.ofString "law") lawScope L fa cdv) e) (fun _ s'' => R1 e s'') (fun e' s'' => R2 e' s'') s')
      { s with heap := h, toks := tk } := by
  obtain ⟨p, loose, mean, mg, mb, Tp⟩ := TT
  obtain ⟨T, R, rv, er, om, led⟩ := c
  obtain ⟨few, SI, hrows, hare, ⟨omv, dmk⟩, hled, hfix⟩ := H
  dsimp only [lwLed, lwPs, lwSt, lwMap, kstB] at few SI hrows hare dmk hled hfix hoff F N ⊢
  conv in (occs := *) lawScope => all_goals whnf
  conv in lawLoop => whnf
  k_fold
  have hf1 := hfix _ (.head _)
  have hf2 := hfix _ (.tail _ (.head _))
  have hf3 := hfix _ (.tail _ (.tail _ (.head _)))
  have hf4 := hfix _ (.tail _ (.tail _ (.tail _ (.head _))))
  have hf5 := hfix _ (.tail _ (.tail _ (.tail _ (.tail _ (.head _)))))
  have hfx0 := hfix
  clear hfix
  have N0 : News h₀ L h led := fun p hp => N p (.tail _ (.tail _ hp))
  have hoffI : ∀ p ∈ led, p.1 ≠ I := fun p hp => hoff p (.tail _ hp)
  have hIM : I ≠ L + 1 + 1 + 1 + 1 := fun e => hoff _ (.head _) e.symm
  have oN := ints_off N0 SI hf4 hI h1
  have oH := ints_off N0 SI hf5 hhI hh1
  have sN := sd_off N0 SI hf4 five_list
  have sH := sd_off N0 SI hf5 five_list
  have N0f : True → News h₀ L h led := fun _ => N0
  clear N0
  have hln := hI.length
  have hrl := hare.length
  have hdr := dr_pos (i := 1 + (i : Int)) hp (by omega) (by omega)
  have hk48 := kmod hdr
  k_steps
  generalize hkk : (dr ns (1 + (i : Int)) % 48).toNat = k at *
  walk_at "sk compU"
  k_steps
  walk_at "sk srcU"
  refine rows_map (ts := T) (fun v t => ∃ u, v = .bytes (kb t.k).toArray u) (hare.mono ?_) (.inr ⟨_, by k_mem, rfl, _, rfl⟩) ?el _ _ _ ?kk ?fin
  · walk_at "sk sub2"
  case el =>
    intro v5 w5 hw5 hrow5 I5 oI5 C5 oC5 D5 ys5 m5 h5 tk5 E5 Q5 hC5 hx5 F5 N5 fin5
    obtain ⟨a5, p5, q5, r5, n5, rfl, hm5⟩ := hrow5
    dsimp only
    k_steps
    exact fin5 _ _ _ ⟨_, rfl⟩ (by k_asm) (by k_asm)
  case kk => rw [Nat.zero_add, List.size_toArray]
  case fin =>
    intro zs hz D5 h5 tk5 F5 N5 off5
    rw [List.drop_zero] at hz
    rw [List.nil_append] at N5
    dsimp only
    k_steps
    unfold Stp
    refine keys_in N5 (by k_mem) (pairs_bytes hz) ?_
    rw [any_keys hz hk48 SI.keys]
    clear off5 hz
    by_cases hdup : ∃ t ∈ T, t.k = k
    · rw [decide_eq_true hdup]
      obtain ⟨A, b, B, hT, hA, hB, hbk⟩ := dup_split SI.sorted hdup
      have hinst := SI.inst
      obtain ⟨w1, w2, w3, w4, w5, w6, w7, w8, hdict⟩ := SI.dict
      have hcp := curH_pos SI hT
      obtain ⟨d, l0, kbs, vbs, hh1, ⟨q1, q2, q3, q4, q5, q6, hh2⟩, ep0, hh3⟩ := SI.cur hT
      have hbT : b ∈ T := by rw [hT]; simp
      have hb1 := (SI.hts b hbT).1
      have hn0 : nxt 0 (b :: B) = .ref b.a := by
        show (if 0 < b.h then Value.ref b.a else nxt 0 B) = _
        rw [if_pos (by omega)]
      have hlk : (lks (curH S A) (b :: B))[((0 : Int)).toNat]? = some (nxt 0 (b :: B)) := lks_at hcp
      rw [hn0] at hlk
      have hm1 := SI.mostLo
      have htr : (trailV S A)[((0 : Int)).toNat]? = some (.ref (curA S A)) := by
        rw [← lastV_zero SI hT]
        unfold trailV
        simp [show 0 < S.most by omega]
      have hch := SI.chain
      rw [hT] at hch
      obtain ⟨b1, ⟨c1, c2, c3, c4, c5, c6, b2⟩, ep2, b3⟩ := Chain.at (A := A) (t := b) (B := B) hch
      have hbk' := SI.keys b hbT
      have hc : cmpK S.i b.k k = 0 := (cmp_zero hbk' hk48).mpr hbk
      k_steps
      unfold Stp
      refine wpAny_call ?_
      k_dflt (walk_at "sk enter")
      have mk : Mk := trivial
      k_steps
      unfold Stp
      (rename News _ _ _ _ => N8); (rename Fr _ _ _ _ => F8)
      walk1
      refine join_test true s F8 N8 ?first ?second
      case first =>
        k_fold
        have hord := SI.ord
        cases hSi : S.i with
        | false =>
          rw [hSi] at hc hord
          simp only [cmpK, OrdAt, Bool.false_eq_true, if_false] at hc hord
          obtain ⟨od, ho1, ho2⟩ := hord
          k_steps
          exact TestI.intro rfl (by k_asm) (by k_asm)
        | true =>
          rw [hSi] at hc hord
          simp only [cmpK, OrdAt, if_true] at hc hord
          obtain ⟨od, ou, odu, ot, on, ho1, ho2, ho3, ho4⟩ := hord
          k_steps
          exact TestI.intro rfl (by k_asm) (by k_asm)
      case second =>
        intro h9 tk9 F9 N9
        clear F8 N8
        k_steps
        (rename News h₀ _ _ _ => N10); (rename Fr h₀ _ _ _ => F10)
        have N11 : News h₀ L _ ((I, oT) :: (L + 1 + 1 + 1 + 1, om) :: led) := news_sub N10 (by walk_at "sk sub2")
        exact FREnd.intro ⟨T, R, rv, er, om, led⟩ F10 N11 (.head _) (fun p hp => .tail _ hp) hoff (by walk_at "sk pairs") (by walk_at "sk same2") ⟨Nat.le_succ_of_le few, SI, hrows, hare, ⟨omv, dmk⟩, hled, hfx0⟩
    · rw [decide_eq_false hdup]
      obtain ⟨A, B, hT, hA, hB⟩ := sl_split S.i k SI.sorted
      have hinst := SI.inst
      obtain ⟨w1, w2, w3, w4, w5, w6, w7, w8, hdict⟩ := SI.dict
      k_steps
      unfold Stp
      (rename News h₀ _ _ _ => N5c)
      obtain ⟨cl, N5d, hcl⟩ := led_hide N5c
      have sub6 : ∀ p ∈ (I, oT) :: (L + 1 + 1 + 1 + 1, om) :: led, p ∈ cl := by
        intro p hp
        refine hcl p ?_
        revert p
        walk_at "sk sub2"
      clear hcl N5c
      have sub7 : ∀ p ∈ led, p ∈ cl := fun p hp => sub6 p (.tail _ (.tail _ hp))
      k_dflt (refine' insert_new (k := k) ?C SI sub7 hT hA hB ?hne hk48 ?hfew ?hH hhI hh1 ?z2 hhg ?_)
      case C => walk_at "cx"
      case hne => exact fun u hu e => hdup ⟨u, hu, e⟩
      case hfew => omega
      case hH => exact sub7 _ hf5
      case z2 => omega
      intro t5 led' h6 tk6 ht1 ht2 ht3 SI6 F6 N6 keep6 lt6
      obtain ⟨rev, dR⟩ := dR
      have hfx1 : ∀ p ∈ [(L + 1, oI), (L + 1 + 1, oM), (L + 1 + 1 + 1, oR), (l, listOf vs.toArray ep), (S.hs, listOf hzs.toArray eh)], p ∈ led ∧ p.1 ≠ S.sd ∧ p.1 ≠ S.hl ∧ ∀ u ∈ T, p.1 ≠ u.l := by
        intro p hp
        have hN := N0f trivial
        simp only [List.mem_cons, List.not_mem_nil, or_false] at hp
        rcases hp with rfl | rfl | rfl | rfl | rfl
        · exact ⟨hf1, sd_off hN SI hf1 (five_cell dI), notL_off hN SI hf1 (isL_cell dI)⟩
        · exact ⟨hf2, sd_off hN SI hf2 (five_cell dM), notL_off hN SI hf2 (isL_cell dM)⟩
        · exact ⟨hf3, sd_off hN SI hf3 (five_cell dR), notL_off hN SI hf3 (isL_cell dR)⟩
        · exact ⟨hf4, sN, oN⟩
        · exact ⟨hf5, sH, oH⟩
      obtain ⟨kI, kM, kR, kA, kF⟩ := ins_keeps (N0f trivial) SI sub6 keep6 hoffI hled hrows hare hfx1
      have hfM : ∀ p ∈ [(L + 1, oI), (L + 1 + 1, oM), (L + 1 + 1 + 1, oR), (l, listOf vs.toArray ep), (S.hs, listOf hzs.toArray eh)], p.1 ≠ L + 1 + 1 + 1 + 1 := fun p hp => hled p (hfx0 p hp)
      have hfI : ∀ p ∈ [(L + 1, oI), (L + 1 + 1, oM), (L + 1 + 1 + 1, oR), (l, listOf vs.toArray ep), (S.hs, listOf hzs.toArray eh)], p.1 ≠ I := fun p hp => hoffI p (hfx0 p hp)
      obtain ⟨c1, N7, o7, SI7, kI7, kR7, kA7, kF7⟩ := ins_fork N6 kM dmk SI6 kI hIM kR kA kF hfM
      clear hfx1 kI kM kR kA kF SI6 keep6 lt6 N6 N0f sub6 sub7 N5d hoffI hled hrows hare hf1 hf2 hf3 hf4 hf5 hinst hdict hfx0 hoff oN oH sN sH
      have hf1 := kF7 _ (.head _)
      have hf2 := kF7 _ (.tail _ (.head _))
      have hf3 := kF7 _ (.tail _ (.tail _ (.head _)))
      have hf4 := kF7 _ (.tail _ (.tail _ (.tail _ (.head _))))
      have hf5 := kF7 _ (.tail _ (.tail _ (.tail _ (.tail _ (.head _)))))
      have hkeys := SI.keys
      have hsort := SI.sorted
      have hTl : T.length = A.length + B.length := by rw [hT, List.length_append]
      clear SI
      have hth := (SI7.hts t5 (by simp)).2
      have hmost := SI7.mostHi
      obtain ⟨hgt, hxe⟩ := ints_get hhI ht3
      have hfm : Int.fmod (rv.length : Int) (hzs.length : Int) = ((T.length % hzs.length : Nat) : Int) := by
        rw [hrl, Int.fmod_eq_emod_of_nonneg _ (by omega)]
        rfl
      have hmod : T.length % hzs.length < hzs.length := Nat.mod_lt _ (by omega)
      have hfq0 : 0 ≤ Int.fmod (rv.length : Int) (hzs.length : Int) := by rw [hfm]; omega
      have hfq1 : Int.fmod (rv.length : Int) (hzs.length : Int) < 8 := by rw [hfm]; omega
      have hfx : hzs[(Int.fmod (rv.length : Int) (hzs.length : Int)).toNat]? = some (.int ((t5.h : Nat) : Int) hgt) := by rw [hfm, Int.toNat_natCast]; exact hxe
      k_steps
      walk_at "sk compT"
      k_steps
      walk_at "sk srcT"
      refine rows_filter (ts := T) (fun t => decide (rk S.i t.k < rk S.i k)) (kA7.mono ?_) (.inr ⟨_, by k_mem, rfl, _, rfl⟩) ?cond ?el _ _ _ ?kk ?fin
      · walk_at "sk sub2"
      case cond =>
        intro v5 w5 hw5 hrow5 I5 oI5 C5 oC5 D5 ys5 m5 h5 tk5 E5 Q5 hC5 hx5 F5 N5 fin5
        obtain ⟨a5, p5, q5, r5, n5, rfl, hm5⟩ := hrow5
        have hk5 := hkeys w5 hw5
        dsimp only
        k_steps
        unfold Stp
        refine rank_lt (by k_asm) (by k_mem) (by k_mem) hk5 hk48 (by walk_at "cx units") ?_
        k_steps
        exact fin5 _ _ _ rfl (by k_asm) (by walk_at "sk news")
      case el =>
        intro v5 w5 hw5 hrow5 I5 oI5 C5 oC5 D5 ys5 m5 h5 tk5 E5 Q5 hC5 hx5 F5 N5 fin5
        dsimp only
        k_steps
        exact fin5 _ _ _ rfl (by k_asm) (by k_asm)
      case kk => rw [Nat.zero_add, List.size_toArray]
      case fin =>
        intro zs hz D5 h5 tk5 F5 N5 off5
        rw [List.drop_zero, hT, filter_split hA hB] at hz
        rw [List.nil_append] at N5
        have hzl := hz.length
        clear hz off5
        have mk : Mk := trivial
        dsimp only
        k_steps
        rename_i _ _ D4 _ _ D3 _ _ ll _ _ D2 _ _ D1 _ _ D0 _ _ _ F8 N8
        unfold Stp
        obtain ⟨cur, N9, hcur⟩ := led_hide N8
        have up1 : ∀ p ∈ c1, p ∈ cur := by
          intro p hp
          refine hcur p ?_
          revert p
          walk_at "sk sub2"
        obtain ⟨om9, omv9, hM9, dM9⟩ : ∃ o v, (L + 1 + 1 + 1 + 1, o) ∈ cur ∧ o.data = Data.cell v := ⟨_, _, hcur _ (by k_mem), by assumption⟩
        have hD0 := hcur _ (List.Mem.head _)
        have hrow9 : RowIs cur (.ref D3) t5 := by
          refine' ⟨D3, _, _, _, _, rfl, hcur _ _⟩
          rotate_left 4
          rw [ht1, ht2]
          k_mem
        have hare9 := rows_put (news := cur) (n := ((zs.length : Nat) : Int).toNat) (RowsAre.mono up1 (by rw [← hT]; exact kA7)) hrow9 (by omega)
        have SI9 := SI7.mono up1
        have hI9 := up1 _ kI7
        have hfx9 := fun p hp => up1 p (kF7 p hp)
        have hg2 := up1 _ hf2
        clear hcur N8 SI7 kI7 kF7 kR7 kA7 hf1 hf2 hf3 hf4 hf5 up1 o7
        k_steps
        (rename News h₀ _ _ _ => N5c); (rename Fr h₀ _ _ _ => F5c)
        exact law_next (T' := A ++ t5 :: B) (R' := D0) F5c N5c (List.mem_append_right _ hI9) hT1 (List.mem_append_right _ hM9) dM9 hIM (SI9.mono fun p hp => List.mem_append_right _ hp) (List.mem_append_right _ hD0) (hare9.mono fun p hp => List.mem_append_right _ hp)
          (fun p hp => List.mem_append_right _ (hfx9 p hp)) hfM hfI (by rw [List.length_append, List.length_cons]; omega) (by exact rfl) (by walk_at "sk same2")
end
theorem law_start {P : Params} {b h : Heap} {L M R : Addr} {cur fx : List (Addr × Obj)} {S : Sl} {om : Obj} {omv : Option Value} {er : Nat} (N : News b L h cur) (hM : (M, om) ∈ cur) (hom : om.data = .cell omv) (SI : SlIn P cur S []) (hR : (R, listOf [].toArray er) ∈ cur)
    (hfx : ∀ p ∈ fx, p ∈ cur) (hfM : ∀ p ∈ fx, p.1 ≠ M) : ∃ led, (∀ p ∈ lwLed M ⟨[], R, [], er, om, led⟩, p ∈ cur) ∧ LwP P S M fx 0 ⟨[], R, [], er, om, led⟩ := by
  obtain ⟨c, N2, o2, s2, t2⟩ := led_fork N hM
  have pl : ∀ p ∈ cur, Pl p.2 → p ∈ c := fun p hp hpl => s2 p hp fun e => by
    have z := news_one N hM (show (M, p.2) ∈ cur by rw [← e]; exact hp)
    exact hpl.2 _ (by rw [← z]; exact hom)
  refine ⟨c, fun p hp => ?_, Nat.le_refl _, SI.pl pl, pl _ hR pl_list, trivial, ⟨omv, hom⟩, o2, fun p hp => s2 p (hfx p hp) (hfM p hp)⟩
  rcases List.mem_cons.mp hp with rfl | hp
  · exact hM
  · exact t2 p hp
theorem ne_hide {a b : Addr} (h : a ≠ b) : (show Nat from a) ≠ b := h
theorem law_holds : PySem.Challenge.rw_no0405_01.Holds := Sk.hd2 (by
  conv in (occs := *) lawRec => all_goals whnf
  conv in (occs := *) fp 37 => all_goals whnf
  conv in (occs := *) fb 37 => all_goals whnf
  conv in (occs := *) fs 37 => all_goals whnf
  k_fill
  intro w s₀ s₁ mg mb G Y fa o pm cd doc dV kV ho hd hcd hD hmg hg args vals as hpre hlay hrd hwl hlo
  have KX := kIn_of Y
  have X := (Ground.X G).1
  have V := (Ground.X G).2
  have GL := glob_more (Ground.glob G (by decide +kernel) (by decide +kernel)) V
  refine Ground.open G ?_
  intro T B D TE TW
  try (refine guard_noD D (by decide +kernel) ?_; clear D)
  obtain ⟨_, _, M⟩ := bmod_of_top T
  have TA := at_of_top T
  clear hmg
  wrow_args hpre hlay hrd hwl hlo
  (first | refine callC_kw (enter_call ?_) | refine enter_call ?_ | refine callC_kw (enter_callW ?_) | refine enter_callW ?_ | w_how)
  w_top on
  try refine codeAny_mono ?_ (fun _ _ g => GoodW.toG g)
  have K0 := below_caller (Top.heap T)
  w_call any ho hd hcd hD T F
  w_top off
  clear hd TA
  k_drop
  (all_goals try k_fold)
  rename Shared => s₁
  rename World => w
  rename Below _ _ _ _ => K0
  change Below callerA s₁.heap [] s₁.heap at K0
  k_steps
  walk_at "sk compAU"
  k_steps
  rename_i o4 o3 o2 o1 d4 d3 d2 d1 _ sl sv _ F1 N1 sI sC sL l1
  dsimp only [bindC] at d1 d2 d3 d4
  have hsl : sv.length ≤ 10 := by rw [sI.length, sC]; omega
  clear sC sL
  walk_at "sk srcU"
  refine rest_map (vs := sv) (fun _ y => ∃ n t, y = Value.int n t ∧ 0 ≤ n) (.inr ⟨_, by k_mem, rfl, _, rfl⟩) ?el _ _ _ ?kk ?fin
  case el =>
    intro v5 hv5 I5 oI5 C5 oC5 D5 ys5 m5 h5 tk5 E5 Q5 hC5 hx5 F5 N5 fin5
    obtain ⟨i5, hi5⟩ := List.mem_iff_getElem?.mp hv5
    obtain ⟨n5, t5, rfl, _⟩ := IntsAre.at sI i5 v5 hi5
    dsimp only
    k_steps
    exact fin5 _ _ _ ⟨_, _, rfl, Int.fmod_nonneg_of_pos _ (by decide)⟩ (by k_asm) (by k_asm)
  case kk => rw [Nat.zero_add, List.size_toArray]
  case fin =>
    intro zs hz D5 h5 tk5 F5 N5 off5
    rw [List.drop_zero] at hz
    rw [List.nil_append] at N5
    obtain ⟨ns, hns, hpos⟩ := all2_ints hz
    have hzl := hz.len
    clear sI hz
    have mk : Mk := trivial
    k_steps
    unfold Stp
    refine wpAny_mono (Q := NumsI s₁ s₁.heap s₁.heap.objs.size [(s₁.heap.objs.size + 1 + 1 + 1 + 1, o4), (s₁.heap.objs.size + 1 + 1 + 1, o3), (s₁.heap.objs.size + 1 + 1, o2), (s₁.heap.objs.size + 1, o1)]) ?first ?second (fun _ _ x => x)
    case first =>
      (try k_fold)
      by_cases hz0 : zs.length = 0
      · k_steps
        (rename News s₁.heap _ _ _ => N9); (rename Fr s₁.heap _ _ _ => F9)
        refine' NumsI.intro (vs := [.int 7 _]) (ep := 0) (ns := [7]) F9 N9 ?_ ?_ (.cons _ _ .nil) ?_ ?_ ?_
        · intro p hp
          rcases List.mem_cons.mp hp with rfl | hp
          · exact .head _
          · exact .tail _ (.tail _ (.tail _ hp))
        · dsimp only [LCg.Off1]
          refine ⟨?_, ?_, ?_, ?_, trivial⟩ <;> omega
        · decide
        · exact Nat.le_refl _
        · exact Nat.le_of_ble_eq_true rfl
      · k_steps
        refine NumsI.intro (vs := zs) (ep := zs.length) F5 N5 ?_ ?_ hns hpos (by omega) (by omega)
        · intro p hp
          rcases List.mem_cons.mp hp with rfl | hp
          · exact .head _
          · exact .tail _ (.tail _ hp)
        · dsimp only [LCg.Off1] at off5 ⊢
          refine ⟨?_, ?_, ?_, ?_, trivial⟩ <;> omega
    case second =>
      rintro f s2 ⟨rfl, l, vs, ns, ep, h, tk, m₀, rfl, F2, N2, hl2, hns2, hpos2, hlo2, hhi2⟩
      clear N5 F5 off5 hpos hns hzl hsl N1 F1
      dsimp only [LCg.Off1] at hl2
      have hln2 := hns2.length
      have hdr0 := dr_pos (i := 0) hpos2 (Int.le_refl _) (by omega)
      k_steps
      rename_i tS _ _ _ _ oI dI _ oM dM _ oR F3 N3 dR
      obtain ⟨mn, hmn, hmn1, hmn4⟩ := most_of ((dr ns 0).fdiv 2)
      obtain ⟨hc, hhc, hhc1, hhc3⟩ := few_of ((dr ns 0).fdiv 8)
      replace dM := tok_int dM hmn
      obtain ⟨tM, dM⟩ := dM
      have hre := more_pos hdr0
      generalize hre' : (dr ns 0).fdiv 24 = re at dR hre
      replace dR := tok_int dR rfl
      obtain ⟨tR, dR⟩ := dR
      generalize hb : ((dr ns 0).fmod 2 == 1) = b at dI
      walk_at "sk compAU"
      k_steps
      rename_i _ _ _ _ _ hr F4 N4 _
      rw [hhc] at hr
      obtain ⟨rl1, rl2⟩ := range_len (n := hc) (by omega)
      unfold Stp
      refine LCg.CompSrc.range (by rfl) F4 N4 hr rl1 rl2 (by rw [sizeLine_eq]; omega) ?_
      intro g9
      refine rest_range 0 (fun _ y => ∃ k t, y = Value.int k t ∧ 1 ≤ k ∧ k ≤ (mn : Int)) hc ?el _ _ _ ?kk ?ys ?ln ?fin
      case el =>
        intro i5 hi5 t5 I5 oI5 C5 oC5 D5 ys5 m5 h5 tk5 E5 Q5 hC5 hx5 F5 N5 fin5
        have h3 : i5 = 0 ∨ i5 = 1 ∨ i5 = 2 := by omega
        dsimp only
        rcases h3 with rfl | rfl | rfl
        · replace hx5 : m5 (Str.ofString "i") = some (.int 0 t5) := hx5
          k_steps
          exact fin5 _ _ _ ⟨_, _, rfl, height_of hmn1⟩ (by k_asm) (by k_asm)
        · replace hx5 : m5 (Str.ofString "i") = some (.int 1 t5) := hx5
          k_steps
          exact fin5 _ _ _ ⟨_, _, rfl, height_of hmn1⟩ (by k_asm) (by k_asm)
        · replace hx5 : m5 (Str.ofString "i") = some (.int 2 t5) := hx5
          k_steps
          exact fin5 _ _ _ ⟨_, _, rfl, height_of hmn1⟩ (by k_asm) (by k_asm)
      case kk => rw [Nat.zero_add]
      case ys => intro j hj; cases hj
      case ln => rfl
      case fin =>
        intro hzs hzl hz D5 h5 tk5 F5 N5 off5
        obtain ⟨hh, hhI, hhg⟩ := heights_ints hzl hz
        clear hz
        have mk : Mk := trivial
        dsimp only
        k_steps
        rename_i ox od _ lx1 lx2 _ F6 N6
        unfold Stp
        refine wpAny_mono (Q := OrdI w.params s₁ s₁.heap s₁.heap.objs.size [(D5, listOf hzs.toArray hzs.length), (l, listOf vs.toArray ep), (s₁.heap.objs.size + 1 + 1 + 1 + 1, o4), (s₁.heap.objs.size + 1 + 1 + 1, oR), (s₁.heap.objs.size + 1 + 1, oM), (s₁.heap.objs.size + 1, oI)] b
          (fun y => if y = Str.ofString "heights" then some (Value.ref D5) else if y = Str.ofString "setup" then some (Value.int (dr ns 0) tS) else if y = Str.ofString "nums" then some (Value.ref l) else m₀ y)) ?first ?second (fun _ _ x => x)
        case first =>
          (try k_fold)
          cases b with
          | false =>
            k_steps
            exact OrdI.intro F6 N6 (fun p hp => .tail _ (.tail _ hp)) ⟨_, .head _, .tail _ (.head _)⟩
          | true =>
            k_steps
            (rename News s₁.heap _ _ _ => N9); (rename Fr s₁.heap _ _ _ => F9)
            rw [if_twice] at F9
            exact OrdI.intro F9 N9 (fun p hp => .tail _ (.tail _ (.tail _ (.tail _ (.tail _ (.tail _ hp)))))) ⟨_, _, _, _, _, .tail _ (.tail _ (.head _)), .tail _ (.tail _ (.tail _ (.head _))), .head _, .tail _ (.head _)⟩
        case second =>
          rintro f s2 ⟨rfl, o, led, h, tk, rfl, F7, N7, hled, hord⟩
          clear N6 F6 lx1 lx2 off5 rl1 rl2 hr hhc hmn hb
          have hnumL := hled (l, listOf vs.toArray ep) (.tail _ (.head _))
          have hhL := hled (D5, listOf hzs.toArray hzs.length) (.head _)
          have hc4 := hled (s₁.heap.objs.size + 1 + 1 + 1 + 1, o4) (.tail _ (.tail _ (.head _)))
          have hc3 := hled (s₁.heap.objs.size + 1 + 1 + 1, oR) (.tail _ (.tail _ (.tail _ (.head _))))
          have hc2 := hled (s₁.heap.objs.size + 1 + 1, oM) (.tail _ (.tail _ (.tail _ (.tail _ (.head _)))))
          have hc1 := hled (s₁.heap.objs.size + 1, oI) (.tail _ (.tail _ (.tail _ (.tail _ (.tail _ (.head _))))))
          clear hled
          have hhl := hhI.length
          k_steps
          unfold Stp
          k_dflt (refine' refused_bad (HA := hh) (x := (mn : Int) + 1) (HB := []) ?C ⟨_, K0⟩ ?R ?m1 ?m2 ?I ?s hhg ?x ?x1 ?x2 ?_)
          case C => walk_at "cx"
          case R => k_mem
          case I => exact ints_snoc hhI
          case s => rw [List.length_append, List.length_singleton]; omega
          case m1 => omega
          case m2 => omega
          case x => exact .inr (by omega)
          case x1 => omega
          case x2 => omega
          intro h9 tk9 F9 N9
          dsimp only
          k_steps
          unfold Stp
          k_dflt (refine' refused_bad (HA := []) (x := 0) (HB := hh) ?C ⟨_, K0⟩ ?R ?m1 ?m2 ?I ?s (fun _ h => nomatch h) ?x ?x1 ?x2 ?_)
          case C => walk_at "cx"
          case R => k_mem
          case I => exact .cons _ _ hhI
          case s => rw [List.length_append, List.length_singleton]; omega
          case m1 => omega
          case m2 => omega
          case x => exact .inl (by omega)
          case x1 => omega
          case x2 => omega
          intro h9 tk9 F9 N9
          dsimp only
          k_steps
          unfold Stp
          k_dflt (refine' refused_none ?C ⟨_, K0⟩ ?R ?m1 ?_)
          case C => walk_at "cx"
          case R => k_mem
          case m1 => omega
          intro h9 tk9 F9 N9
          dsimp only
          k_steps
          unfold Stp
          k_dflt (refine' refused_low ?C ⟨_, K0⟩ (low_of re).1 (low_of re).2 ?_)
          case C => walk_at "cx"
          intro h9 tk9 F9 N9
          dsimp only
          k_steps
          unfold Stp
          k_dflt (refine' make_spec (i := b) ?C ?R hhI ?s ?s1 hhg hmn1 hmn4 ?o ?_)
          case C => walk_at "cx"
          case R => k_mem
          case s => omega
          case s1 => omega
          case o => exact hord.mono (by walk_at "sk sub2")
          intro S news2 h9 tk9 e1 e2 e3 e4 SI9 F9 N9
          subst e1 e2 e3 e4
          obtain ⟨led1, N10, hup⟩ := led_hide N9
          have SI := SI9.mono hup
          have up9 : ∀ p ∈ led, p ∈ led1 := fun p hp => hup p (by
            refine List.mem_append_right _ ?_
            repeat (first | exact hp | refine List.mem_cons_of_mem _ ?_))
          replace hnumL := up9 _ hnumL
          replace hhL := up9 _ hhL
          replace hc1 := up9 _ hc1
          replace hc2 := up9 _ hc2
          replace hc3 := up9 _ hc3
          replace hc4 := up9 _ hc4
          clear hup up9 N9 SI9 hord
          have hk0 := kmod hdr0
          have hT0 : ([] : List Tw) = [] ++ [] := rfl
          have hA0 := nil_lt (i := S.i) (k := (dr ns 0 % 48).toNat)
          have hB0 := nil_ge (i := S.i) (k := (dr ns 0 % 48).toNat)
          have htr0 := trail_nil hmn1
          have hll0 : (lks S.most []).length = S.most := lks_len
          have hrows0 : RowsAre led1 [] [] := trivial
          have hinst := SI.inst
          obtain ⟨w1, w2, w3, w4, w5, w6, w7, w8, hdict⟩ := SI.dict
          obtain ⟨hh1, ⟨w9, w10, w11, w12, w13, w14, hh2⟩, w15, hh3⟩ := SI.head
          k_steps
          rename_i lR _ _ _ _ _ _ _ _ _ _ _ _ _ _ _ _ _ t3 u3 v3 hr F2 N2 hk2
          unfold Stp
          obtain ⟨cur, N3, hcur⟩ := led_hide N2
          have up : ∀ p ∈ led1, p ∈ cur := by
            intro p hp
            refine hcur p ?_
            revert p
            walk_at "sk sub2"
          have hR3 := hcur _ (List.mem_append_right _ (List.Mem.head _))
          have F3 : Fr s₁.heap s₁.heap.objs.size _ (lwMap S lR l (dr ns 0) tS m₀) := F2
          have hnl : l ≠ s₁.heap.objs.size + 1 + 1 + 1 + 1 := fun e => hl2.1 e.symm
          have hhs : S.hs ≠ s₁.heap.objs.size + 1 + 1 + 1 + 1 := fun e => by
            have z := news_one N3 (up _ hhL) (show (S.hs, o4) ∈ cur by rw [e]; exact up _ hc4)
            rw [← z] at d4
            cases d4
          obtain ⟨led, hsub, hstart⟩ := law_start (fx := [(s₁.heap.objs.size + 1, oI), (s₁.heap.objs.size + 1 + 1, oM), (s₁.heap.objs.size + 1 + 1 + 1, oR), (l, listOf vs.toArray ep), (S.hs, listOf hzs.toArray hzs.length)]) N3 (up _ hc4) d4 (SI.mono up) hR3
            (fun p hp => by
              simp only [List.mem_cons, List.not_mem_nil, or_false] at hp
              rcases hp with rfl | rfl | rfl | rfl | rfl
              · exact up _ hc1
              · exact up _ hc2
              · exact up _ hc3
              · exact up _ hnumL
              · exact up _ hhL)
            (fun p hp => by
              simp only [List.mem_cons, List.not_mem_nil, or_false] at hp
              rcases hp with rfl | rfl | rfl | rfl | rfl
              · exact Nat.ne_of_lt (by omega)
              · exact Nat.ne_of_lt (by omega)
              · exact Nat.ne_of_lt (by omega)
              · exact hnl
              · exact hhs)
          with_unfolding_all
            refine' for_R (σ := LwS) 7 (LwP w.params S (s₁.heap.objs.size + 1 + 1 + 1 + 1) [(s₁.heap.objs.size + 1, oI), (s₁.heap.objs.size + 1 + 1, oM), (s₁.heap.objs.size + 1 + 1 + 1, oR), (l, listOf vs.toArray ep), (S.hs, listOf hzs.toArray hzs.length)]) (lwLed (s₁.heap.objs.size + 1 + 1 + 1 + 1)) lwPs lwSt
              ⟨[], lR, [], 0, o4, led⟩ rfl hr (by omega) (by omega) (by omega) F3 N3 hsub ?hp hstart ?turn ?done
          case hp =>
            intro p hp
            rcases List.mem_cons.mp hp with rfl | hp
            · exact rfl
            · cases hp
          case turn =>
            intro i c u h tk t I oT hi H hT1 hT2 hoff F N
            exact law_turn K0 (by assumption) ⟨_, _, _, _, _, by assumption⟩ dI dM ⟨_, dR⟩ hns2 hpos2 hlo2 hhi2 hhI (by omega) (by omega) hhg hi H hT1 hT2 hoff F N
          case done =>
            intro c u h tk H F N
            refine law_tail K0 (by assumption) ⟨_, _, _, _, _, by assumption⟩ dI dM hns2 hpos2 hlo2 hhi2 H F N ?_
            intro h' tk' m' F'
            k_steps)
end Sk
theorem PySem.Challenge.cw_no0405_01_holds : PySem.Challenge.rw_no0405_01.Holds := by
  exact Sk.law_holds
