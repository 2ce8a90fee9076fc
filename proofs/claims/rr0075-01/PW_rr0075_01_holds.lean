import PyProof.Rows.All
import Wide.All
import OpenK.AllK
import Wide.FinOn
import Lean
import PySem.Challenge.RW_rr0075_01
open PySem PySem.W PySem.Calls PyProof.Rows PyProof.V PySem.Spec
set_option Elab.async false
namespace Mine
def hst (i : Nat) : Stmt := PySem.Challenge.pw_rr0075_01.main.body.getD i (.Pass ⟨0, 0, 0, 0⟩)
def hme (i j : Nat) : Stmt := match hst i with
  | .ClassDef _ _ _ b _ _ _ _ _ _ _ => b.getD j (.Pass ⟨0, 0, 0, 0⟩)
  | _ => .Pass ⟨0, 0, 0, 0⟩
def fA : Stmt → Arguments
  | .FunctionDef _ a _ _ _ _ _ _ _ _ => a
  | _ => { posonlyargs := [], args := [], vararg := none, kwonlyargs := [], kw_defaults := [], kwarg := none, defaults := [] }
def fB : Stmt → FuncBody
  | .FunctionDef _ _ b _ _ _ _ _ _ _ => .stmts b
  | _ => .stmts []
def fS : Stmt → Scope
  | .FunctionDef _ _ _ _ _ _ s _ _ _ => s
  | _ => { kind := .function, names := [], isGenerator := false, isCoroutine := false, more := [] }
set_option maxRecDepth 100000 in
noncomputable def hd.heap_39 : Params → Frag := fun P =>
(nat_lit 2, { cls := Value.none, data := Data.dict #[{ hash := PyData.keyHash P (Str.ofString "type.__subclasses__.Exception.0"), key := .str (Str.ofString "type.__subclasses__.Exception.0") 212, val := Value.int 31 0 }, { hash := PyData.keyHash P (Str.ofString "type.__subclasses__.Exception.n"), key := .str (Str.ofString "type.__subclasses__.Exception.n") 213, val := Value.int 1 0 }] 2 }) ::
(nat_lit 3, { cls := Value.type "dict", data := Data.dict #[{ hash := PyData.keyHash P (Str.ofString "__name__"), key := .str (Str.ofString "__name__") 165, val := Value.str (Str.ofString "law_rr0075_01") 571 }, { hash := PyData.keyHash P (Str.ofString "__doc__"), key := .str (Str.ofString "__doc__") 166, val := Value.none }, { hash := PyData.keyHash P (Str.ofString "__package__"), key := .str (Str.ofString "__package__") 167, val := Value.none }, { hash := PyData.keyHash P (Str.ofString "__loader__"), key := .str (Str.ofString "__loader__") 168, val := Value.builtin "__main__.__loader__#opaque" }, { hash := PyData.keyHash P (Str.ofString "__spec__"), key := .str (Str.ofString "__spec__") 169, val := Value.none }, { hash := PyData.keyHash P (Str.ofString "__annotations__"), key := .str (Str.ofString "__annotations__") 170, val := Value.ref 6 }, { hash := PyData.keyHash P (Str.ofString "__builtins__"), key := .str (Str.ofString "__builtins__") 171, val := Value.ref 4 }, { hash := PyData.keyHash P (Str.ofString "__file__"), key := .str (Str.ofString "__file__") 173, val := Value.str (Str.ofString "/claim/cut.py") 172 }, { hash := PyData.keyHash P (Str.ofString "__cached__"), key := .str (Str.ofString "__cached__") 174, val := Value.none }, { hash := PyData.keyHash P (Str.ofString "_wall"), key := .str (Str.ofString "_wall") 193, val := Value.ref 21 }, { hash := PyData.keyHash P (Str.ofString "KeepError"), key := .str (Str.ofString "KeepError") 215, val := Value.ref 31 }, { hash := PyData.keyHash P (Str.ofString "StoreError"), key := .str (Str.ofString "StoreError") 231, val := Value.ref 44 }, { hash := PyData.keyHash P (Str.ofString "Corrupt"), key := .str (Str.ofString "Corrupt") 247, val := Value.ref 56 }, { hash := PyData.keyHash P (Str.ofString "ShortOctets"), key := .str (Str.ofString "ShortOctets") 263, val := Value.ref 68 }, { hash := PyData.keyHash P (Str.ofString "BadOption"), key := .str (Str.ofString "BadOption") 279, val := Value.ref 80 }, { hash := PyData.keyHash P (Str.ofString "RaftError"), key := .str (Str.ofString "RaftError") 295, val := Value.ref 92 }, { hash := PyData.keyHash P (Str.ofString "LogPanic"), key := .str (Str.ofString "LogPanic") 311, val := Value.ref 104 }, { hash := PyData.keyHash P (Str.ofString "MAX_32"), key := .str (Str.ofString "MAX_32") 315, val := Value.int 4294967295 314 }, { hash := PyData.keyHash P (Str.ofString "MAX_64"), key := .str (Str.ofString "MAX_64") 317, val := Value.int 18446744073709551615 316 }, { hash := PyData.keyHash P (Str.ofString "put_fixed32"), key := .str (Str.ofString "put_fixed32") 324, val := Value.ref 113 }, { hash := PyData.keyHash P (Str.ofString "put_fixed64"), key := .str (Str.ofString "put_fixed64") 331, val := Value.ref 120 }, { hash := PyData.keyHash P (Str.ofString "read_fixed32"), key := .str (Str.ofString "read_fixed32") 339, val := Value.ref 127 }, { hash := PyData.keyHash P (Str.ofString "read_fixed64"), key := .str (Str.ofString "read_fixed64") 347, val := Value.ref 134 }, { hash := PyData.keyHash P (Str.ofString "NONE"), key := .str (Str.ofString "NONE") 351, val := Value.int 0 350 }, { hash := PyData.keyHash P (Str.ofString "rising"), key := .str (Str.ofString "rising") 360, val := Value.ref 141 }, { hash := PyData.keyHash P (Str.ofString "VOTE_PENDING"), key := .str (Str.ofString "VOTE_PENDING") 364, val := Value.int 1 363 }, { hash := PyData.keyHash P (Str.ofString "VOTE_LOST"), key := .str (Str.ofString "VOTE_LOST") 366, val := Value.int 2 365 }, { hash := PyData.keyHash P (Str.ofString "VOTE_WON"), key := .str (Str.ofString "VOTE_WON") 368, val := Value.int 3 367 }, { hash := PyData.keyHash P (Str.ofString "majority_vote"), key := .str (Str.ofString "majority_vote") 380, val := Value.ref 148 }, { hash := PyData.keyHash P (Str.ofString "joint_vote"), key := .str (Str.ofString "joint_vote") 391, val := Value.ref 155 }, { hash := PyData.keyHash P (Str.ofString "Config"), key := .str (Str.ofString "Config") 494, val := Value.ref 235 }, { hash := PyData.keyHash P (Str.ofString "Lease"), key := .str (Str.ofString "Lease") 570, val := Value.ref 291 }, { hash := PyData.keyHash P (Str.ofString "_law_draw"), key := .str (Str.ofString "_law_draw") 580, val := Value.ref 302 }, { hash := PyData.keyHash P (Str.ofString "_law_ids"), key := .str (Str.ofString "_law_ids") 586, val := Value.ref 307 }, { hash := PyData.keyHash P (Str.ofString "_law_stands"), key := .str (Str.ofString "_law_stands") 592, val := Value.ref 312 }, { hash := PyData.keyHash P (Str.ofString "law"), key := .str (Str.ofString "law") 598, val := Value.ref 317 }] 36 }) ::
(nat_lit 15, { cls := Value.type "tuple", data := Data.seq #[] }) ::
(nat_lit 17, { cls := Value.type "tuple", data := Data.seq #[Value.str (Str.ofString "k") 190] }) ::
(nat_lit 18, { cls := Value.type "tuple", data := Data.seq #[] }) ::
(nat_lit 20, { cls := Value.type "code", data := Data.fields #[Value.str (Str.ofString "_wall") 187, Value.str (Str.ofString "_wall") 188, Value.str (Str.ofString "/claim/cut.py") 189, Value.int 1 0, Value.int 1 0, Value.int 0 0, Value.int 0 0, Value.int 3 0, Value.ref 15, Value.bool true, Value.int 181 0, Value.ref 16, Value.none, Value.ref 17, Value.ref 18, Value.ref 19, Value.int 191 0, Value.int 1 0, Value.str (Str.ofString "/claim/cut.py") 192] }) ::
(nat_lit 21, { cls := Value.type "function", data := Data.func { name := Str.ofString "_wall", qualname := Str.ofString "_wall", params := fA (hst 0), body := fB (hst 0), scope := fS (hst 0), globals := 3, closure := [], defaults := Value.none, kwdefaults := Value.none, pyModule := Value.str (Str.ofString "__main__") 164, code := Value.ref 20 } }) ::
(nat_lit 22, { cls := Value.type "tuple", data := Data.seq #[Value.type "Exception"] }) ::
(nat_lit 29, { cls := Value.type "tuple", data := Data.seq #[] }) ::
(nat_lit 30, { cls := Value.type "dict", data := Data.dict #[{ hash := PyData.keyHash P (Str.ofString "__module__"), key := .str (Str.ofString "__module__") 203, val := Value.str (Str.ofString "raftkeep.errors") 194 }, { hash := PyData.keyHash P (Str.ofString "__firstlineno__"), key := .str (Str.ofString "__firstlineno__") 207, val := Value.int 5 206 }, { hash := PyData.keyHash P (Str.ofString "__static_attributes__"), key := .str (Str.ofString "__static_attributes__") 208, val := Value.ref 29 }, { hash := PyData.keyHash P (Str.ofString "__weakref__"), key := .str (Str.ofString "__weakref__") 210, val := Value.ref 32 }, { hash := PyData.keyHash P (Str.ofString "__doc__"), key := .str (Str.ofString "__doc__") 211, val := Value.none }] 3 }) ::
(nat_lit 31, { cls := Value.type "type", data := Data.cls { name := Str.ofString "KeepError", bases := [Value.type "Exception"], mro := [Value.ref 31, Value.type "Exception", Value.type "BaseException", Value.type "object"], ns := 30, qualname := Str.ofString "KeepError", subclasses := [Value.ref 44, Value.ref 92] }, slots := #[some (Value.ref 22), none, some (Value.str (Str.ofString "KeepError") 196), some (Value.str (Str.ofString "KeepError") 204), some (Value.builtin "Exception.__new__"), some (Value.bool true)] }) ::
(nat_lit 32, { cls := Value.type "getset_descriptor", data := Data.fields #[Value.str (Str.ofString "__weakref__") 209, Value.ref 31, Value.builtin "ExceptionGroup.__weakref__", Value.none] }) ::
(nat_lit 35, { cls := Value.type "tuple", data := Data.seq #[Value.ref 31] }) ::
(nat_lit 42, { cls := Value.type "tuple", data := Data.seq #[] }) ::
(nat_lit 43, { cls := Value.type "dict", data := Data.dict #[{ hash := PyData.keyHash P (Str.ofString "__module__"), key := .str (Str.ofString "__module__") 223, val := Value.str (Str.ofString "raftkeep.errors") 194 }, { hash := PyData.keyHash P (Str.ofString "__firstlineno__"), key := .str (Str.ofString "__firstlineno__") 227, val := Value.int 7 226 }, { hash := PyData.keyHash P (Str.ofString "__static_attributes__"), key := .str (Str.ofString "__static_attributes__") 228, val := Value.ref 42 }, { hash := PyData.keyHash P (Str.ofString "__doc__"), key := .str (Str.ofString "__doc__") 229, val := Value.none }] 2 }) ::
(nat_lit 44, { cls := Value.type "type", data := Data.cls { name := Str.ofString "StoreError", bases := [Value.ref 31], mro := [Value.ref 44, Value.ref 31, Value.type "Exception", Value.type "BaseException", Value.type "object"], ns := 43, qualname := Str.ofString "StoreError", subclasses := [Value.ref 56, Value.ref 80] }, slots := #[some (Value.ref 35), none, some (Value.str (Str.ofString "StoreError") 216), some (Value.str (Str.ofString "StoreError") 224), some (Value.builtin "Exception.__new__"), some (Value.bool true)] }) ::
(nat_lit 47, { cls := Value.type "tuple", data := Data.seq #[Value.ref 44] }) ::
(nat_lit 54, { cls := Value.type "tuple", data := Data.seq #[] }) ::
(nat_lit 55, { cls := Value.type "dict", data := Data.dict #[{ hash := PyData.keyHash P (Str.ofString "__module__"), key := .str (Str.ofString "__module__") 239, val := Value.str (Str.ofString "raftkeep.errors") 194 }, { hash := PyData.keyHash P (Str.ofString "__firstlineno__"), key := .str (Str.ofString "__firstlineno__") 243, val := Value.int 9 242 }, { hash := PyData.keyHash P (Str.ofString "__static_attributes__"), key := .str (Str.ofString "__static_attributes__") 244, val := Value.ref 54 }, { hash := PyData.keyHash P (Str.ofString "__doc__"), key := .str (Str.ofString "__doc__") 245, val := Value.none }] 2 }) ::
(nat_lit 56, { cls := Value.type "type", data := Data.cls { name := Str.ofString "Corrupt", bases := [Value.ref 44], mro := [Value.ref 56, Value.ref 44, Value.ref 31, Value.type "Exception", Value.type "BaseException", Value.type "object"], ns := 55, qualname := Str.ofString "Corrupt", subclasses := [Value.ref 68] }, slots := #[some (Value.ref 47), none, some (Value.str (Str.ofString "Corrupt") 232), some (Value.str (Str.ofString "Corrupt") 240), some (Value.builtin "Exception.__new__"), some (Value.bool true)] }) ::
(nat_lit 59, { cls := Value.type "tuple", data := Data.seq #[Value.ref 56] }) ::
(nat_lit 66, { cls := Value.type "tuple", data := Data.seq #[] }) ::
(nat_lit 67, { cls := Value.type "dict", data := Data.dict #[{ hash := PyData.keyHash P (Str.ofString "__module__"), key := .str (Str.ofString "__module__") 255, val := Value.str (Str.ofString "raftkeep.errors") 194 }, { hash := PyData.keyHash P (Str.ofString "__firstlineno__"), key := .str (Str.ofString "__firstlineno__") 259, val := Value.int 11 258 }, { hash := PyData.keyHash P (Str.ofString "__static_attributes__"), key := .str (Str.ofString "__static_attributes__") 260, val := Value.ref 66 }, { hash := PyData.keyHash P (Str.ofString "__doc__"), key := .str (Str.ofString "__doc__") 261, val := Value.none }] 2 }) ::
(nat_lit 68, { cls := Value.type "type", data := Data.cls { name := Str.ofString "ShortOctets", bases := [Value.ref 56], mro := [Value.ref 68, Value.ref 56, Value.ref 44, Value.ref 31, Value.type "Exception", Value.type "BaseException", Value.type "object"], ns := 67, qualname := Str.ofString "ShortOctets" }, slots := #[some (Value.ref 59), none, some (Value.str (Str.ofString "ShortOctets") 248), some (Value.str (Str.ofString "ShortOctets") 256), some (Value.builtin "Exception.__new__"), some (Value.bool true)] }) ::
(nat_lit 71, { cls := Value.type "tuple", data := Data.seq #[Value.ref 44] }) ::
(nat_lit 78, { cls := Value.type "tuple", data := Data.seq #[] }) ::
(nat_lit 79, { cls := Value.type "dict", data := Data.dict #[{ hash := PyData.keyHash P (Str.ofString "__module__"), key := .str (Str.ofString "__module__") 271, val := Value.str (Str.ofString "raftkeep.errors") 194 }, { hash := PyData.keyHash P (Str.ofString "__firstlineno__"), key := .str (Str.ofString "__firstlineno__") 275, val := Value.int 13 274 }, { hash := PyData.keyHash P (Str.ofString "__static_attributes__"), key := .str (Str.ofString "__static_attributes__") 276, val := Value.ref 78 }, { hash := PyData.keyHash P (Str.ofString "__doc__"), key := .str (Str.ofString "__doc__") 277, val := Value.none }] 2 }) ::
(nat_lit 80, { cls := Value.type "type", data := Data.cls { name := Str.ofString "BadOption", bases := [Value.ref 44], mro := [Value.ref 80, Value.ref 44, Value.ref 31, Value.type "Exception", Value.type "BaseException", Value.type "object"], ns := 79, qualname := Str.ofString "BadOption" }, slots := #[some (Value.ref 71), none, some (Value.str (Str.ofString "BadOption") 264), some (Value.str (Str.ofString "BadOption") 272), some (Value.builtin "Exception.__new__"), some (Value.bool true)] }) ::
(nat_lit 83, { cls := Value.type "tuple", data := Data.seq #[Value.ref 31] }) ::
(nat_lit 90, { cls := Value.type "tuple", data := Data.seq #[] }) ::
(nat_lit 91, { cls := Value.type "dict", data := Data.dict #[{ hash := PyData.keyHash P (Str.ofString "__module__"), key := .str (Str.ofString "__module__") 287, val := Value.str (Str.ofString "raftkeep.errors") 194 }, { hash := PyData.keyHash P (Str.ofString "__firstlineno__"), key := .str (Str.ofString "__firstlineno__") 291, val := Value.int 15 290 }, { hash := PyData.keyHash P (Str.ofString "__static_attributes__"), key := .str (Str.ofString "__static_attributes__") 292, val := Value.ref 90 }, { hash := PyData.keyHash P (Str.ofString "__doc__"), key := .str (Str.ofString "__doc__") 293, val := Value.none }] 2 }) ::
(nat_lit 92, { cls := Value.type "type", data := Data.cls { name := Str.ofString "RaftError", bases := [Value.ref 31], mro := [Value.ref 92, Value.ref 31, Value.type "Exception", Value.type "BaseException", Value.type "object"], ns := 91, qualname := Str.ofString "RaftError", subclasses := [Value.ref 104] }, slots := #[some (Value.ref 83), none, some (Value.str (Str.ofString "RaftError") 280), some (Value.str (Str.ofString "RaftError") 288), some (Value.builtin "Exception.__new__"), some (Value.bool true)] }) ::
(nat_lit 95, { cls := Value.type "tuple", data := Data.seq #[Value.ref 92] }) ::
(nat_lit 102, { cls := Value.type "tuple", data := Data.seq #[] }) ::
(nat_lit 103, { cls := Value.type "dict", data := Data.dict #[{ hash := PyData.keyHash P (Str.ofString "__module__"), key := .str (Str.ofString "__module__") 303, val := Value.str (Str.ofString "raftkeep.errors") 194 }, { hash := PyData.keyHash P (Str.ofString "__firstlineno__"), key := .str (Str.ofString "__firstlineno__") 307, val := Value.int 17 306 }, { hash := PyData.keyHash P (Str.ofString "__static_attributes__"), key := .str (Str.ofString "__static_attributes__") 308, val := Value.ref 102 }, { hash := PyData.keyHash P (Str.ofString "__doc__"), key := .str (Str.ofString "__doc__") 309, val := Value.none }] 2 }) ::
(nat_lit 104, { cls := Value.type "type", data := Data.cls { name := Str.ofString "LogPanic", bases := [Value.ref 92], mro := [Value.ref 104, Value.ref 92, Value.ref 31, Value.type "Exception", Value.type "BaseException", Value.type "object"], ns := 103, qualname := Str.ofString "LogPanic" }, slots := #[some (Value.ref 95), none, some (Value.str (Str.ofString "LogPanic") 296), some (Value.str (Str.ofString "LogPanic") 304), some (Value.builtin "Exception.__new__"), some (Value.bool true)] }) ::
(nat_lit 107, { cls := Value.type "tuple", data := Data.seq #[] }) ::
(nat_lit 109, { cls := Value.type "tuple", data := Data.seq #[Value.str (Str.ofString "n") 321] }) ::
(nat_lit 110, { cls := Value.type "tuple", data := Data.seq #[] }) ::
(nat_lit 112, { cls := Value.type "code", data := Data.fields #[Value.str (Str.ofString "put_fixed32") 318, Value.str (Str.ofString "put_fixed32") 319, Value.str (Str.ofString "/claim/cut.py") 320, Value.int 22 0, Value.int 1 0, Value.int 0 0, Value.int 0 0, Value.int 3 0, Value.ref 107, Value.bool true, Value.int 181 0, Value.ref 108, Value.none, Value.ref 109, Value.ref 110, Value.ref 111, Value.int 322 0, Value.int 22 0, Value.str (Str.ofString "/claim/cut.py") 323] }) ::
(nat_lit 113, { cls := Value.type "function", data := Data.func { name := Str.ofString "put_fixed32", qualname := Str.ofString "put_fixed32", params := fA (hst 12), body := fB (hst 12), scope := fS (hst 12), globals := 3, closure := [], defaults := Value.none, kwdefaults := Value.none, pyModule := Value.str (Str.ofString "raftkeep.octets") 312, code := Value.ref 112 } }) ::
(nat_lit 114, { cls := Value.type "tuple", data := Data.seq #[] }) ::
(nat_lit 116, { cls := Value.type "tuple", data := Data.seq #[Value.str (Str.ofString "n") 328] }) ::
(nat_lit 117, { cls := Value.type "tuple", data := Data.seq #[] }) ::
(nat_lit 119, { cls := Value.type "code", data := Data.fields #[Value.str (Str.ofString "put_fixed64") 325, Value.str (Str.ofString "put_fixed64") 326, Value.str (Str.ofString "/claim/cut.py") 327, Value.int 26 0, Value.int 1 0, Value.int 0 0, Value.int 0 0, Value.int 3 0, Value.ref 114, Value.bool true, Value.int 181 0, Value.ref 115, Value.none, Value.ref 116, Value.ref 117, Value.ref 118, Value.int 329 0, Value.int 26 0, Value.str (Str.ofString "/claim/cut.py") 330] }) ::
(nat_lit 120, { cls := Value.type "function", data := Data.func { name := Str.ofString "put_fixed64", qualname := Str.ofString "put_fixed64", params := fA (hst 13), body := fB (hst 13), scope := fS (hst 13), globals := 3, closure := [], defaults := Value.none, kwdefaults := Value.none, pyModule := Value.str (Str.ofString "raftkeep.octets") 312, code := Value.ref 119 } }) ::
(nat_lit 121, { cls := Value.type "tuple", data := Data.seq #[] }) ::
(nat_lit 123, { cls := Value.type "tuple", data := Data.seq #[Value.str (Str.ofString "data") 335, Value.str (Str.ofString "at") 336] }) ::
(nat_lit 124, { cls := Value.type "tuple", data := Data.seq #[] }) ::
(nat_lit 126, { cls := Value.type "code", data := Data.fields #[Value.str (Str.ofString "read_fixed32") 332, Value.str (Str.ofString "read_fixed32") 333, Value.str (Str.ofString "/claim/cut.py") 334, Value.int 30 0, Value.int 2 0, Value.int 0 0, Value.int 0 0, Value.int 3 0, Value.ref 121, Value.bool true, Value.int 181 0, Value.ref 122, Value.none, Value.ref 123, Value.ref 124, Value.ref 125, Value.int 337 0, Value.int 30 0, Value.str (Str.ofString "/claim/cut.py") 338] }) ::
(nat_lit 127, { cls := Value.type "function", data := Data.func { name := Str.ofString "read_fixed32", qualname := Str.ofString "read_fixed32", params := fA (hst 14), body := fB (hst 14), scope := fS (hst 14), globals := 3, closure := [], defaults := Value.none, kwdefaults := Value.none, pyModule := Value.str (Str.ofString "raftkeep.octets") 312, code := Value.ref 126 } }) ::
(nat_lit 128, { cls := Value.type "tuple", data := Data.seq #[] }) ::
(nat_lit 130, { cls := Value.type "tuple", data := Data.seq #[Value.str (Str.ofString "data") 343, Value.str (Str.ofString "at") 344] }) ::
(nat_lit 131, { cls := Value.type "tuple", data := Data.seq #[] }) ::
(nat_lit 133, { cls := Value.type "code", data := Data.fields #[Value.str (Str.ofString "read_fixed64") 340, Value.str (Str.ofString "read_fixed64") 341, Value.str (Str.ofString "/claim/cut.py") 342, Value.int 34 0, Value.int 2 0, Value.int 0 0, Value.int 0 0, Value.int 3 0, Value.ref 128, Value.bool true, Value.int 181 0, Value.ref 129, Value.none, Value.ref 130, Value.ref 131, Value.ref 132, Value.int 345 0, Value.int 34 0, Value.str (Str.ofString "/claim/cut.py") 346] }) ::
(nat_lit 134, { cls := Value.type "function", data := Data.func { name := Str.ofString "read_fixed64", qualname := Str.ofString "read_fixed64", params := fA (hst 15), body := fB (hst 15), scope := fS (hst 15), globals := 3, closure := [], defaults := Value.none, kwdefaults := Value.none, pyModule := Value.str (Str.ofString "raftkeep.octets") 312, code := Value.ref 133 } }) ::
(nat_lit 135, { cls := Value.type "tuple", data := Data.seq #[] }) ::
(nat_lit 137, { cls := Value.type "tuple", data := Data.seq #[Value.str (Str.ofString "ids") 355, Value.str (Str.ofString "out") 356, Value.str (Str.ofString "nid") 357] }) ::
(nat_lit 138, { cls := Value.type "tuple", data := Data.seq #[] }) ::
(nat_lit 140, { cls := Value.type "code", data := Data.fields #[Value.str (Str.ofString "rising") 352, Value.str (Str.ofString "rising") 353, Value.str (Str.ofString "/claim/cut.py") 354, Value.int 40 0, Value.int 1 0, Value.int 0 0, Value.int 0 0, Value.int 3 0, Value.ref 135, Value.bool true, Value.int 181 0, Value.ref 136, Value.none, Value.ref 137, Value.ref 138, Value.ref 139, Value.int 358 0, Value.int 40 0, Value.str (Str.ofString "/claim/cut.py") 359] }) ::
(nat_lit 141, { cls := Value.type "function", data := Data.func { name := Str.ofString "rising", qualname := Str.ofString "rising", params := fA (hst 18), body := fB (hst 18), scope := fS (hst 18), globals := 3, closure := [], defaults := Value.none, kwdefaults := Value.none, pyModule := Value.str (Str.ofString "raftkeep.messages") 348, code := Value.ref 140 } }) ::
(nat_lit 142, { cls := Value.type "tuple", data := Data.seq #[] }) ::
(nat_lit 144, { cls := Value.type "tuple", data := Data.seq #[Value.str (Str.ofString "ids") 372, Value.str (Str.ofString "votes") 373, Value.str (Str.ofString "granted") 374, Value.str (Str.ofString "missing") 375, Value.str (Str.ofString "nid") 376, Value.str (Str.ofString "need") 377] }) ::
(nat_lit 145, { cls := Value.type "tuple", data := Data.seq #[] }) ::
(nat_lit 147, { cls := Value.type "code", data := Data.fields #[Value.str (Str.ofString "majority_vote") 369, Value.str (Str.ofString "majority_vote") 370, Value.str (Str.ofString "/claim/cut.py") 371, Value.int 50 0, Value.int 2 0, Value.int 0 0, Value.int 0 0, Value.int 3 0, Value.ref 142, Value.bool true, Value.int 181 0, Value.ref 143, Value.none, Value.ref 144, Value.ref 145, Value.ref 146, Value.int 378 0, Value.int 50 0, Value.str (Str.ofString "/claim/cut.py") 379] }) ::
(nat_lit 148, { cls := Value.type "function", data := Data.func { name := Str.ofString "majority_vote", qualname := Str.ofString "majority_vote", params := fA (hst 23), body := fB (hst 23), scope := fS (hst 23), globals := 3, closure := [], defaults := Value.none, kwdefaults := Value.none, pyModule := Value.str (Str.ofString "raftkeep.quorum") 361, code := Value.ref 147 } }) ::
(nat_lit 149, { cls := Value.type "tuple", data := Data.seq #[] }) ::
(nat_lit 151, { cls := Value.type "tuple", data := Data.seq #[Value.str (Str.ofString "a") 384, Value.str (Str.ofString "b") 385, Value.str (Str.ofString "votes") 386, Value.str (Str.ofString "left") 387, Value.str (Str.ofString "right") 388] }) ::
(nat_lit 152, { cls := Value.type "tuple", data := Data.seq #[] }) ::
(nat_lit 154, { cls := Value.type "code", data := Data.fields #[Value.str (Str.ofString "joint_vote") 381, Value.str (Str.ofString "joint_vote") 382, Value.str (Str.ofString "/claim/cut.py") 383, Value.int 66 0, Value.int 3 0, Value.int 0 0, Value.int 0 0, Value.int 3 0, Value.ref 149, Value.bool true, Value.int 181 0, Value.ref 150, Value.none, Value.ref 151, Value.ref 152, Value.ref 153, Value.int 389 0, Value.int 66 0, Value.str (Str.ofString "/claim/cut.py") 390] }) ::
(nat_lit 155, { cls := Value.type "function", data := Data.func { name := Str.ofString "joint_vote", qualname := Str.ofString "joint_vote", params := fA (hst 24), body := fB (hst 24), scope := fS (hst 24), globals := 3, closure := [], defaults := Value.none, kwdefaults := Value.none, pyModule := Value.str (Str.ofString "raftkeep.quorum") 361, code := Value.ref 154 } }) ::
(nat_lit 163, { cls := Value.type "tuple", data := Data.seq #[] }) ::
(nat_lit 165, { cls := Value.type "tuple", data := Data.seq #[Value.str (Str.ofString "self") 407, Value.str (Str.ofString "voters") 408, Value.str (Str.ofString "outgoing") 409, Value.str (Str.ofString "learners") 410, Value.str (Str.ofString "learners_next") 411, Value.str (Str.ofString "auto_leave") 412] }) ::
(nat_lit 166, { cls := Value.type "tuple", data := Data.seq #[] }) ::
(nat_lit 168, { cls := Value.type "code", data := Data.fields #[Value.str (Str.ofString "__init__") 404, Value.str (Str.ofString "Config.__init__") 405, Value.str (Str.ofString "/claim/cut.py") 406, Value.int 76 0, Value.int 6 0, Value.int 0 0, Value.int 0 0, Value.int 3 0, Value.ref 163, Value.bool true, Value.int 181 0, Value.ref 164, Value.none, Value.ref 165, Value.ref 166, Value.ref 167, Value.int 413 0, Value.int 76 0, Value.str (Str.ofString "/claim/cut.py") 414] }) ::
(nat_lit 169, { cls := Value.type "function", data := Data.func { name := Str.ofString "__init__", qualname := Str.ofString "Config.__init__", params := fA (hme 25 0), body := fB (hme 25 0), scope := fS (hme 25 0), globals := 3, closure := [], defaults := Value.none, kwdefaults := Value.none, pyModule := Value.str (Str.ofString "raftkeep.quorum") 361, code := Value.ref 168 } }) ::
(nat_lit 170, { cls := Value.type "tuple", data := Data.seq #[] }) ::
(nat_lit 172, { cls := Value.type "tuple", data := Data.seq #[Value.str (Str.ofString "self") 419] }) ::
(nat_lit 173, { cls := Value.type "tuple", data := Data.seq #[] }) ::
(nat_lit 175, { cls := Value.type "code", data := Data.fields #[Value.str (Str.ofString "row") 416, Value.str (Str.ofString "Config.row") 417, Value.str (Str.ofString "/claim/cut.py") 418, Value.int 83 0, Value.int 1 0, Value.int 0 0, Value.int 0 0, Value.int 3 0, Value.ref 170, Value.bool true, Value.int 181 0, Value.ref 171, Value.none, Value.ref 172, Value.ref 173, Value.ref 174, Value.int 420 0, Value.int 83 0, Value.str (Str.ofString "/claim/cut.py") 421] }) ::
(nat_lit 176, { cls := Value.type "function", data := Data.func { name := Str.ofString "row", qualname := Str.ofString "Config.row", params := fA (hme 25 1), body := fB (hme 25 1), scope := fS (hme 25 1), globals := 3, closure := [], defaults := Value.none, kwdefaults := Value.none, pyModule := Value.str (Str.ofString "raftkeep.quorum") 361, code := Value.ref 175 } }) ::
(nat_lit 177, { cls := Value.type "tuple", data := Data.seq #[] }) ::
(nat_lit 179, { cls := Value.type "tuple", data := Data.seq #[Value.str (Str.ofString "self") 426] }) ::
(nat_lit 180, { cls := Value.type "tuple", data := Data.seq #[] }) ::
(nat_lit 182, { cls := Value.type "code", data := Data.fields #[Value.str (Str.ofString "copy") 423, Value.str (Str.ofString "Config.copy") 424, Value.str (Str.ofString "/claim/cut.py") 425, Value.int 86 0, Value.int 1 0, Value.int 0 0, Value.int 0 0, Value.int 3 0, Value.ref 177, Value.bool true, Value.int 181 0, Value.ref 178, Value.none, Value.ref 179, Value.ref 180, Value.ref 181, Value.int 427 0, Value.int 86 0, Value.str (Str.ofString "/claim/cut.py") 428] }) ::
(nat_lit 183, { cls := Value.type "function", data := Data.func { name := Str.ofString "copy", qualname := Str.ofString "Config.copy", params := fA (hme 25 2), body := fB (hme 25 2), scope := fS (hme 25 2), globals := 3, closure := [], defaults := Value.none, kwdefaults := Value.none, pyModule := Value.str (Str.ofString "raftkeep.quorum") 361, code := Value.ref 182 } }) ::
(nat_lit 184, { cls := Value.type "tuple", data := Data.seq #[] }) ::
(nat_lit 186, { cls := Value.type "tuple", data := Data.seq #[Value.str (Str.ofString "self") 433] }) ::
(nat_lit 187, { cls := Value.type "tuple", data := Data.seq #[] }) ::
(nat_lit 189, { cls := Value.type "code", data := Data.fields #[Value.str (Str.ofString "joint") 430, Value.str (Str.ofString "Config.joint") 431, Value.str (Str.ofString "/claim/cut.py") 432, Value.int 89 0, Value.int 1 0, Value.int 0 0, Value.int 0 0, Value.int 3 0, Value.ref 184, Value.bool true, Value.int 181 0, Value.ref 185, Value.none, Value.ref 186, Value.ref 187, Value.ref 188, Value.int 434 0, Value.int 89 0, Value.str (Str.ofString "/claim/cut.py") 435] }) ::
(nat_lit 190, { cls := Value.type "function", data := Data.func { name := Str.ofString "joint", qualname := Str.ofString "Config.joint", params := fA (hme 25 3), body := fB (hme 25 3), scope := fS (hme 25 3), globals := 3, closure := [], defaults := Value.none, kwdefaults := Value.none, pyModule := Value.str (Str.ofString "raftkeep.quorum") 361, code := Value.ref 189 } }) ::
(nat_lit 191, { cls := Value.type "tuple", data := Data.seq #[] }) ::
(nat_lit 193, { cls := Value.type "tuple", data := Data.seq #[Value.str (Str.ofString "self") 440] }) ::
(nat_lit 194, { cls := Value.type "tuple", data := Data.seq #[] }) ::
(nat_lit 196, { cls := Value.type "code", data := Data.fields #[Value.str (Str.ofString "all_voters") 437, Value.str (Str.ofString "Config.all_voters") 438, Value.str (Str.ofString "/claim/cut.py") 439, Value.int 92 0, Value.int 1 0, Value.int 0 0, Value.int 0 0, Value.int 3 0, Value.ref 191, Value.bool true, Value.int 181 0, Value.ref 192, Value.none, Value.ref 193, Value.ref 194, Value.ref 195, Value.int 441 0, Value.int 92 0, Value.str (Str.ofString "/claim/cut.py") 442] }) ::
(nat_lit 197, { cls := Value.type "function", data := Data.func { name := Str.ofString "all_voters", qualname := Str.ofString "Config.all_voters", params := fA (hme 25 4), body := fB (hme 25 4), scope := fS (hme 25 4), globals := 3, closure := [], defaults := Value.none, kwdefaults := Value.none, pyModule := Value.str (Str.ofString "raftkeep.quorum") 361, code := Value.ref 196 } }) ::
(nat_lit 198, { cls := Value.type "tuple", data := Data.seq #[] }) ::
(nat_lit 200, { cls := Value.type "tuple", data := Data.seq #[Value.str (Str.ofString "self") 447] }) ::
(nat_lit 201, { cls := Value.type "tuple", data := Data.seq #[] }) ::
(nat_lit 203, { cls := Value.type "code", data := Data.fields #[Value.str (Str.ofString "members") 444, Value.str (Str.ofString "Config.members") 445, Value.str (Str.ofString "/claim/cut.py") 446, Value.int 95 0, Value.int 1 0, Value.int 0 0, Value.int 0 0, Value.int 3 0, Value.ref 198, Value.bool true, Value.int 181 0, Value.ref 199, Value.none, Value.ref 200, Value.ref 201, Value.ref 202, Value.int 448 0, Value.int 95 0, Value.str (Str.ofString "/claim/cut.py") 449] }) ::
(nat_lit 204, { cls := Value.type "function", data := Data.func { name := Str.ofString "members", qualname := Str.ofString "Config.members", params := fA (hme 25 5), body := fB (hme 25 5), scope := fS (hme 25 5), globals := 3, closure := [], defaults := Value.none, kwdefaults := Value.none, pyModule := Value.str (Str.ofString "raftkeep.quorum") 361, code := Value.ref 203 } }) ::
(nat_lit 205, { cls := Value.type "tuple", data := Data.seq #[] }) ::
(nat_lit 207, { cls := Value.type "tuple", data := Data.seq #[Value.str (Str.ofString "self") 454, Value.str (Str.ofString "acked") 455] }) ::
(nat_lit 208, { cls := Value.type "tuple", data := Data.seq #[] }) ::
(nat_lit 210, { cls := Value.type "code", data := Data.fields #[Value.str (Str.ofString "committed") 451, Value.str (Str.ofString "Config.committed") 452, Value.str (Str.ofString "/claim/cut.py") 453, Value.int 98 0, Value.int 2 0, Value.int 0 0, Value.int 0 0, Value.int 3 0, Value.ref 205, Value.bool true, Value.int 181 0, Value.ref 206, Value.none, Value.ref 207, Value.ref 208, Value.ref 209, Value.int 456 0, Value.int 98 0, Value.str (Str.ofString "/claim/cut.py") 457] }) ::
(nat_lit 211, { cls := Value.type "function", data := Data.func { name := Str.ofString "committed", qualname := Str.ofString "Config.committed", params := fA (hme 25 6), body := fB (hme 25 6), scope := fS (hme 25 6), globals := 3, closure := [], defaults := Value.none, kwdefaults := Value.none, pyModule := Value.str (Str.ofString "raftkeep.quorum") 361, code := Value.ref 210 } }) ::
(nat_lit 212, { cls := Value.type "tuple", data := Data.seq #[] }) ::
(nat_lit 214, { cls := Value.type "tuple", data := Data.seq #[Value.str (Str.ofString "self") 462, Value.str (Str.ofString "votes") 463] }) ::
(nat_lit 215, { cls := Value.type "tuple", data := Data.seq #[] }) ::
(nat_lit 217, { cls := Value.type "code", data := Data.fields #[Value.str (Str.ofString "vote") 459, Value.str (Str.ofString "Config.vote") 460, Value.str (Str.ofString "/claim/cut.py") 461, Value.int 101 0, Value.int 2 0, Value.int 0 0, Value.int 0 0, Value.int 3 0, Value.ref 212, Value.bool true, Value.int 181 0, Value.ref 213, Value.none, Value.ref 214, Value.ref 215, Value.ref 216, Value.int 464 0, Value.int 101 0, Value.str (Str.ofString "/claim/cut.py") 465] }) ::
(nat_lit 218, { cls := Value.type "function", data := Data.func { name := Str.ofString "vote", qualname := Str.ofString "Config.vote", params := fA (hme 25 7), body := fB (hme 25 7), scope := fS (hme 25 7), globals := 3, closure := [], defaults := Value.none, kwdefaults := Value.none, pyModule := Value.str (Str.ofString "raftkeep.quorum") 361, code := Value.ref 217 } }) ::
(nat_lit 219, { cls := Value.type "tuple", data := Data.seq #[] }) ::
(nat_lit 221, { cls := Value.type "tuple", data := Data.seq #[Value.str (Str.ofString "self") 470] }) ::
(nat_lit 222, { cls := Value.type "tuple", data := Data.seq #[] }) ::
(nat_lit 224, { cls := Value.type "code", data := Data.fields #[Value.str (Str.ofString "conf_state") 467, Value.str (Str.ofString "Config.conf_state") 468, Value.str (Str.ofString "/claim/cut.py") 469, Value.int 104 0, Value.int 1 0, Value.int 0 0, Value.int 0 0, Value.int 3 0, Value.ref 219, Value.bool true, Value.int 181 0, Value.ref 220, Value.none, Value.ref 221, Value.ref 222, Value.ref 223, Value.int 471 0, Value.int 104 0, Value.str (Str.ofString "/claim/cut.py") 472] }) ::
(nat_lit 225, { cls := Value.type "function", data := Data.func { name := Str.ofString "conf_state", qualname := Str.ofString "Config.conf_state", params := fA (hme 25 8), body := fB (hme 25 8), scope := fS (hme 25 8), globals := 3, closure := [], defaults := Value.none, kwdefaults := Value.none, pyModule := Value.str (Str.ofString "raftkeep.quorum") 361, code := Value.ref 224 } }) ::
(nat_lit 226, { cls := Value.type "tuple", data := Data.seq #[] }) ::
(nat_lit 228, { cls := Value.type "tuple", data := Data.seq #[Value.str (Str.ofString "self") 477, Value.str (Str.ofString "nid") 478] }) ::
(nat_lit 229, { cls := Value.type "tuple", data := Data.seq #[] }) ::
(nat_lit 231, { cls := Value.type "code", data := Data.fields #[Value.str (Str.ofString "check") 474, Value.str (Str.ofString "Config.check") 475, Value.str (Str.ofString "/claim/cut.py") 476, Value.int 107 0, Value.int 1 0, Value.int 0 0, Value.int 0 0, Value.int 3 0, Value.ref 226, Value.bool true, Value.int 181 0, Value.ref 227, Value.none, Value.ref 228, Value.ref 229, Value.ref 230, Value.int 479 0, Value.int 107 0, Value.str (Str.ofString "/claim/cut.py") 480] }) ::
(nat_lit 232, { cls := Value.type "function", data := Data.func { name := Str.ofString "check", qualname := Str.ofString "Config.check", params := fA (hme 25 9), body := fB (hme 25 9), scope := fS (hme 25 9), globals := 3, closure := [], defaults := Value.none, kwdefaults := Value.none, pyModule := Value.str (Str.ofString "raftkeep.quorum") 361, code := Value.ref 231 } }) ::
(nat_lit 233, { cls := Value.type "tuple", data := Data.seq #[Value.str (Str.ofString "auto_leave") 482, Value.str (Str.ofString "learners") 483, Value.str (Str.ofString "learners_next") 484, Value.str (Str.ofString "outgoing") 485, Value.str (Str.ofString "voters") 486] }) ::
(nat_lit 234, { cls := Value.type "dict", data := Data.dict #[{ hash := PyData.keyHash P (Str.ofString "__module__"), key := .str (Str.ofString "__module__") 399, val := Value.str (Str.ofString "raftkeep.quorum") 361 }, { hash := PyData.keyHash P (Str.ofString "__firstlineno__"), key := .str (Str.ofString "__firstlineno__") 403, val := Value.int 74 402 }, { hash := PyData.keyHash P (Str.ofString "__init__"), key := .str (Str.ofString "__init__") 415, val := Value.ref 169 }, { hash := PyData.keyHash P (Str.ofString "row"), key := .str (Str.ofString "row") 422, val := Value.ref 176 }, { hash := PyData.keyHash P (Str.ofString "copy"), key := .str (Str.ofString "copy") 429, val := Value.ref 183 }, { hash := PyData.keyHash P (Str.ofString "joint"), key := .str (Str.ofString "joint") 436, val := Value.ref 190 }, { hash := PyData.keyHash P (Str.ofString "all_voters"), key := .str (Str.ofString "all_voters") 443, val := Value.ref 197 }, { hash := PyData.keyHash P (Str.ofString "members"), key := .str (Str.ofString "members") 450, val := Value.ref 204 }, { hash := PyData.keyHash P (Str.ofString "committed"), key := .str (Str.ofString "committed") 458, val := Value.ref 211 }, { hash := PyData.keyHash P (Str.ofString "vote"), key := .str (Str.ofString "vote") 466, val := Value.ref 218 }, { hash := PyData.keyHash P (Str.ofString "conf_state"), key := .str (Str.ofString "conf_state") 473, val := Value.ref 225 }, { hash := PyData.keyHash P (Str.ofString "check"), key := .str (Str.ofString "check") 481, val := Value.ref 232 }, { hash := PyData.keyHash P (Str.ofString "__static_attributes__"), key := .str (Str.ofString "__static_attributes__") 487, val := Value.ref 233 }, { hash := PyData.keyHash P (Str.ofString "__dict__"), key := .str (Str.ofString "__dict__") 489, val := Value.ref 236 }, { hash := PyData.keyHash P (Str.ofString "__weakref__"), key := .str (Str.ofString "__weakref__") 491, val := Value.ref 237 }, { hash := PyData.keyHash P (Str.ofString "__doc__"), key := .str (Str.ofString "__doc__") 492, val := Value.none }] 4 }) ::
(nat_lit 235, { cls := Value.type "type", data := Data.cls { name := Str.ofString "Config", bases := [Value.type "object"], mro := [Value.ref 235, Value.type "object"], ns := 234, qualname := Str.ofString "Config" }, slots := #[none, none, some (Value.str (Str.ofString "Config") 392), some (Value.str (Str.ofString "Config") 400), some (Value.builtin "object.__new__"), some (Value.bool true)] }) ::
(nat_lit 236, { cls := Value.type "getset_descriptor", data := Data.fields #[Value.str (Str.ofString "__dict__") 488, Value.ref 235, Value.builtin "function.__dict__", Value.builtin "function.__dict__#set"] }) ::
(nat_lit 237, { cls := Value.type "getset_descriptor", data := Data.fields #[Value.str (Str.ofString "__weakref__") 490, Value.ref 235, Value.builtin "ExceptionGroup.__weakref__", Value.none] }) ::
(nat_lit 247, { cls := Value.type "tuple", data := Data.seq #[] }) ::
(nat_lit 249, { cls := Value.type "tuple", data := Data.seq #[Value.str (Str.ofString "self") 512, Value.str (Str.ofString "span") 513] }) ::
(nat_lit 250, { cls := Value.type "tuple", data := Data.seq #[] }) ::
(nat_lit 252, { cls := Value.type "code", data := Data.fields #[Value.str (Str.ofString "__init__") 509, Value.str (Str.ofString "Lease.__init__") 510, Value.str (Str.ofString "/claim/cut.py") 511, Value.int 128 0, Value.int 2 0, Value.int 0 0, Value.int 0 0, Value.int 3 0, Value.ref 247, Value.bool true, Value.int 181 0, Value.ref 248, Value.none, Value.ref 249, Value.ref 250, Value.ref 251, Value.int 514 0, Value.int 128 0, Value.str (Str.ofString "/claim/cut.py") 515] }) ::
(nat_lit 253, { cls := Value.type "function", data := Data.func { name := Str.ofString "__init__", qualname := Str.ofString "Lease.__init__", params := fA (hme 27 0), body := fB (hme 27 0), scope := fS (hme 27 0), globals := 3, closure := [], defaults := Value.none, kwdefaults := Value.none, pyModule := Value.str (Str.ofString "raftkeep.tracker") 495, code := Value.ref 252 } }) ::
(nat_lit 254, { cls := Value.type "tuple", data := Data.seq #[] }) ::
(nat_lit 256, { cls := Value.type "tuple", data := Data.seq #[Value.str (Str.ofString "self") 520] }) ::
(nat_lit 257, { cls := Value.type "tuple", data := Data.seq #[] }) ::
(nat_lit 259, { cls := Value.type "code", data := Data.fields #[Value.str (Str.ofString "tick") 517, Value.str (Str.ofString "Lease.tick") 518, Value.str (Str.ofString "/claim/cut.py") 519, Value.int 134 0, Value.int 1 0, Value.int 0 0, Value.int 0 0, Value.int 3 0, Value.ref 254, Value.bool true, Value.int 181 0, Value.ref 255, Value.none, Value.ref 256, Value.ref 257, Value.ref 258, Value.int 521 0, Value.int 134 0, Value.str (Str.ofString "/claim/cut.py") 522] }) ::
(nat_lit 260, { cls := Value.type "function", data := Data.func { name := Str.ofString "tick", qualname := Str.ofString "Lease.tick", params := fA (hme 27 1), body := fB (hme 27 1), scope := fS (hme 27 1), globals := 3, closure := [], defaults := Value.none, kwdefaults := Value.none, pyModule := Value.str (Str.ofString "raftkeep.tracker") 495, code := Value.ref 259 } }) ::
(nat_lit 261, { cls := Value.type "tuple", data := Data.seq #[] }) ::
(nat_lit 263, { cls := Value.type "tuple", data := Data.seq #[Value.str (Str.ofString "self") 527] }) ::
(nat_lit 264, { cls := Value.type "tuple", data := Data.seq #[] }) ::
(nat_lit 266, { cls := Value.type "code", data := Data.fields #[Value.str (Str.ofString "stamp") 524, Value.str (Str.ofString "Lease.stamp") 525, Value.str (Str.ofString "/claim/cut.py") 526, Value.int 137 0, Value.int 1 0, Value.int 0 0, Value.int 0 0, Value.int 3 0, Value.ref 261, Value.bool true, Value.int 181 0, Value.ref 262, Value.none, Value.ref 263, Value.ref 264, Value.ref 265, Value.int 528 0, Value.int 137 0, Value.str (Str.ofString "/claim/cut.py") 529] }) ::
(nat_lit 267, { cls := Value.type "function", data := Data.func { name := Str.ofString "stamp", qualname := Str.ofString "Lease.stamp", params := fA (hme 27 2), body := fB (hme 27 2), scope := fS (hme 27 2), globals := 3, closure := [], defaults := Value.none, kwdefaults := Value.none, pyModule := Value.str (Str.ofString "raftkeep.tracker") 495, code := Value.ref 266 } }) ::
(nat_lit 268, { cls := Value.type "tuple", data := Data.seq #[] }) ::
(nat_lit 270, { cls := Value.type "tuple", data := Data.seq #[Value.str (Str.ofString "self") 534, Value.str (Str.ofString "frm") 535, Value.str (Str.ofString "context") 536, Value.str (Str.ofString "sent") 537] }) ::
(nat_lit 271, { cls := Value.type "tuple", data := Data.seq #[] }) ::
(nat_lit 273, { cls := Value.type "code", data := Data.fields #[Value.str (Str.ofString "hear") 531, Value.str (Str.ofString "Lease.hear") 532, Value.str (Str.ofString "/claim/cut.py") 533, Value.int 140 0, Value.int 3 0, Value.int 0 0, Value.int 0 0, Value.int 3 0, Value.ref 268, Value.bool true, Value.int 181 0, Value.ref 269, Value.none, Value.ref 270, Value.ref 271, Value.ref 272, Value.int 538 0, Value.int 140 0, Value.str (Str.ofString "/claim/cut.py") 539] }) ::
(nat_lit 274, { cls := Value.type "function", data := Data.func { name := Str.ofString "hear", qualname := Str.ofString "Lease.hear", params := fA (hme 27 3), body := fB (hme 27 3), scope := fS (hme 27 3), globals := 3, closure := [], defaults := Value.none, kwdefaults := Value.none, pyModule := Value.str (Str.ofString "raftkeep.tracker") 495, code := Value.ref 273 } }) ::
(nat_lit 275, { cls := Value.type "tuple", data := Data.seq #[] }) ::
(nat_lit 277, { cls := Value.type "tuple", data := Data.seq #[Value.str (Str.ofString "self") 544] }) ::
(nat_lit 278, { cls := Value.type "tuple", data := Data.seq #[] }) ::
(nat_lit 280, { cls := Value.type "code", data := Data.fields #[Value.str (Str.ofString "give_up") 541, Value.str (Str.ofString "Lease.give_up") 542, Value.str (Str.ofString "/claim/cut.py") 543, Value.int 148 0, Value.int 1 0, Value.int 0 0, Value.int 0 0, Value.int 3 0, Value.ref 275, Value.bool true, Value.int 181 0, Value.ref 276, Value.none, Value.ref 277, Value.ref 278, Value.ref 279, Value.int 545 0, Value.int 148 0, Value.str (Str.ofString "/claim/cut.py") 546] }) ::
(nat_lit 281, { cls := Value.type "function", data := Data.func { name := Str.ofString "give_up", qualname := Str.ofString "Lease.give_up", params := fA (hme 27 4), body := fB (hme 27 4), scope := fS (hme 27 4), globals := 3, closure := [], defaults := Value.none, kwdefaults := Value.none, pyModule := Value.str (Str.ofString "raftkeep.tracker") 495, code := Value.ref 280 } }) ::
(nat_lit 282, { cls := Value.type "tuple", data := Data.seq #[] }) ::
(nat_lit 284, { cls := Value.type "tuple", data := Data.seq #[Value.str (Str.ofString "self") 551, Value.str (Str.ofString "config") 552, Value.str (Str.ofString "nid") 553, Value.str (Str.ofString "near") 554, Value.str (Str.ofString "other") 555] }) ::
(nat_lit 285, { cls := Value.type "tuple", data := Data.seq #[] }) ::
(nat_lit 287, { cls := Value.type "code", data := Data.fields #[Value.str (Str.ofString "holds") 548, Value.str (Str.ofString "Lease.holds") 549, Value.str (Str.ofString "/claim/cut.py") 550, Value.int 151 0, Value.int 3 0, Value.int 0 0, Value.int 0 0, Value.int 3 0, Value.ref 282, Value.bool true, Value.int 181 0, Value.ref 283, Value.none, Value.ref 284, Value.ref 285, Value.ref 286, Value.int 556 0, Value.int 151 0, Value.str (Str.ofString "/claim/cut.py") 557] }) ::
(nat_lit 288, { cls := Value.type "function", data := Data.func { name := Str.ofString "holds", qualname := Str.ofString "Lease.holds", params := fA (hme 27 5), body := fB (hme 27 5), scope := fS (hme 27 5), globals := 3, closure := [], defaults := Value.none, kwdefaults := Value.none, pyModule := Value.str (Str.ofString "raftkeep.tracker") 495, code := Value.ref 287 } }) ::
(nat_lit 289, { cls := Value.type "tuple", data := Data.seq #[Value.str (Str.ofString "clock") 559, Value.str (Str.ofString "given_up") 560, Value.str (Str.ofString "heard") 561, Value.str (Str.ofString "span") 562] }) ::
(nat_lit 290, { cls := Value.type "dict", data := Data.dict #[{ hash := PyData.keyHash P (Str.ofString "__module__"), key := .str (Str.ofString "__module__") 504, val := Value.str (Str.ofString "raftkeep.tracker") 495 }, { hash := PyData.keyHash P (Str.ofString "__firstlineno__"), key := .str (Str.ofString "__firstlineno__") 508, val := Value.int 126 507 }, { hash := PyData.keyHash P (Str.ofString "__init__"), key := .str (Str.ofString "__init__") 516, val := Value.ref 253 }, { hash := PyData.keyHash P (Str.ofString "tick"), key := .str (Str.ofString "tick") 523, val := Value.ref 260 }, { hash := PyData.keyHash P (Str.ofString "stamp"), key := .str (Str.ofString "stamp") 530, val := Value.ref 267 }, { hash := PyData.keyHash P (Str.ofString "hear"), key := .str (Str.ofString "hear") 540, val := Value.ref 274 }, { hash := PyData.keyHash P (Str.ofString "give_up"), key := .str (Str.ofString "give_up") 547, val := Value.ref 281 }, { hash := PyData.keyHash P (Str.ofString "holds"), key := .str (Str.ofString "holds") 558, val := Value.ref 288 }, { hash := PyData.keyHash P (Str.ofString "__static_attributes__"), key := .str (Str.ofString "__static_attributes__") 563, val := Value.ref 289 }, { hash := PyData.keyHash P (Str.ofString "__dict__"), key := .str (Str.ofString "__dict__") 565, val := Value.ref 292 }, { hash := PyData.keyHash P (Str.ofString "__weakref__"), key := .str (Str.ofString "__weakref__") 567, val := Value.ref 293 }, { hash := PyData.keyHash P (Str.ofString "__doc__"), key := .str (Str.ofString "__doc__") 568, val := Value.none }] 4 }) ::
(nat_lit 291, { cls := Value.type "type", data := Data.cls { name := Str.ofString "Lease", bases := [Value.type "object"], mro := [Value.ref 291, Value.type "object"], ns := 290, qualname := Str.ofString "Lease" }, slots := #[none, none, some (Value.str (Str.ofString "Lease") 497), some (Value.str (Str.ofString "Lease") 505), some (Value.builtin "object.__new__"), some (Value.bool true)] }) ::
(nat_lit 292, { cls := Value.type "getset_descriptor", data := Data.fields #[Value.str (Str.ofString "__dict__") 564, Value.ref 291, Value.builtin "function.__dict__", Value.builtin "function.__dict__#set"] }) ::
(nat_lit 293, { cls := Value.type "getset_descriptor", data := Data.fields #[Value.str (Str.ofString "__weakref__") 566, Value.ref 291, Value.builtin "ExceptionGroup.__weakref__", Value.none] }) ::
(nat_lit 296, { cls := Value.type "tuple", data := Data.seq #[] }) ::
(nat_lit 298, { cls := Value.type "tuple", data := Data.seq #[Value.str (Str.ofString "nums") 576, Value.str (Str.ofString "i") 577] }) ::
(nat_lit 299, { cls := Value.type "tuple", data := Data.seq #[] }) ::
(nat_lit 301, { cls := Value.type "code", data := Data.fields #[Value.str (Str.ofString "_law_draw") 573, Value.str (Str.ofString "_law_draw") 574, Value.str (Str.ofString "/claim/cut.py") 575, Value.int 158 0, Value.int 2 0, Value.int 0 0, Value.int 0 0, Value.int 3 0, Value.ref 296, Value.bool true, Value.int 181 0, Value.ref 297, Value.none, Value.ref 298, Value.ref 299, Value.ref 300, Value.int 578 0, Value.int 158 0, Value.str (Str.ofString "/claim/cut.py") 579] }) ::
(nat_lit 302, { cls := Value.type "function", data := Data.func { name := Str.ofString "_law_draw", qualname := Str.ofString "_law_draw", params := fA (hst 29), body := fB (hst 29), scope := fS (hst 29), globals := 3, closure := [], defaults := Value.none, kwdefaults := Value.none, pyModule := Value.str (Str.ofString "law_rr0075_01") 571, code := Value.ref 301 } }) ::
(nat_lit 303, { cls := Value.type "tuple", data := Data.seq #[] }) ::
(nat_lit 306, { cls := Value.type "code", data := Data.fields #[Value.str (Str.ofString "_law_ids") 581, Value.str (Str.ofString "_law_ids") 582, Value.str (Str.ofString "/claim/cut.py") 583, Value.int 160 0, Value.int 1 0, Value.int 0 0, Value.int 0 0, Value.int 3 0, Value.ref 303, Value.bool true, Value.int 181 0, Value.ref 304, Value.none, Value.none, Value.none, Value.ref 305, Value.int 584 0, Value.int 160 0, Value.str (Str.ofString "/claim/cut.py") 585] }) ::
(nat_lit 307, { cls := Value.type "function", data := Data.func { name := Str.ofString "_law_ids", qualname := Str.ofString "_law_ids", params := fA (hst 30), body := fB (hst 30), scope := fS (hst 30), globals := 3, closure := [], defaults := Value.none, kwdefaults := Value.none, pyModule := Value.str (Str.ofString "law_rr0075_01") 571, code := Value.ref 306 } }) ::
(nat_lit 308, { cls := Value.type "tuple", data := Data.seq #[] }) ::
(nat_lit 311, { cls := Value.type "code", data := Data.fields #[Value.str (Str.ofString "_law_stands") 587, Value.str (Str.ofString "_law_stands") 588, Value.str (Str.ofString "/claim/cut.py") 589, Value.int 162 0, Value.int 6 0, Value.int 0 0, Value.int 0 0, Value.int 3 0, Value.ref 308, Value.bool true, Value.int 181 0, Value.ref 309, Value.none, Value.none, Value.none, Value.ref 310, Value.int 590 0, Value.int 162 0, Value.str (Str.ofString "/claim/cut.py") 591] }) ::
(nat_lit 312, { cls := Value.type "function", data := Data.func { name := Str.ofString "_law_stands", qualname := Str.ofString "_law_stands", params := fA (hst 31), body := fB (hst 31), scope := fS (hst 31), globals := 3, closure := [], defaults := Value.none, kwdefaults := Value.none, pyModule := Value.str (Str.ofString "law_rr0075_01") 571, code := Value.ref 311 } }) ::
(nat_lit 313, { cls := Value.type "tuple", data := Data.seq #[] }) ::
(nat_lit 316, { cls := Value.type "code", data := Data.fields #[Value.str (Str.ofString "law") 593, Value.str (Str.ofString "law") 594, Value.str (Str.ofString "/claim/cut.py") 595, Value.int 167 0, Value.int 1 0, Value.int 0 0, Value.int 0 0, Value.int 3 0, Value.ref 313, Value.bool true, Value.int 181 0, Value.ref 314, Value.none, Value.none, Value.none, Value.ref 315, Value.int 596 0, Value.int 167 0, Value.str (Str.ofString "/claim/cut.py") 597] }) ::
(nat_lit 317, { cls := Value.type "function", data := Data.func { name := Str.ofString "law", qualname := Str.ofString "law", params := fA (hst 32), body := fB (hst 32), scope := fS (hst 32), globals := 3, closure := [], defaults := Value.none, kwdefaults := Value.none, pyModule := Value.str (Str.ofString "law_rr0075_01") 571, code := Value.ref 316 } }) :: []
noncomputable def hd.view_39 : Program := PySem.W.view PySem.Challenge.pw_rr0075_01 [0, 2, 3, 4, 5, 6, 7, 8, 10, 11, 12, 13, 14, 15, 17, 18, 20, 21, 22, 23, 24, 25, 27, 29, 30, 31, 32]
def topRunT (tb : String → Option Builtin) (p : Program) (w : World) (n₀ : Nat) (ann : Option Value) : Nat → SharedT → Thread → Option SharedT
  | 0, _, _ => none
  | n + 1, s, t => match through t with
    | true => some s
    | false => match stepOk n₀ ann t with
      | false => none
      | true => match stepT (denote tb) p w s t with
        | some (s', t') => topRunT tb p w n₀ ann n s' t'
        | none => none
theorem topRun_of {tb : String → Option Builtin} {p : Program} {w : World} {n₀ : Nat} {ann : Option Value} : ∀ {n : Nat} {s s' : SharedT} {t : Thread}, topRunT tb p w n₀ ann n s t = some s' → topRun tb p w n₀ ann n s.abs t = some s'.abs
  | 0, _, _, _, h => by cases h
  | n + 1, s, s', t, h => by
    unfold topRunT at h
    unfold topRun
    cases ht : through t with
    | true => rw [ht] at h; cases h; rfl
    | false =>
      rw [ht] at h
      cases hk : stepOk n₀ ann t with
      | false => rw [hk] at h; cases h
      | true =>
        rw [hk] at h
        cases hs : stepT (denote tb) p w s t with
        | none => rw [hs] at h; cases h
        | some r => obtain ⟨s₂, t₂⟩ := r; rw [hs] at h; rw [stepT_spec hs]; exact topRun_of h
noncomputable def bootTree (P : Params) : BT := ((((((((((BT.nil.ins 0 (boot_o_0 P)).ins 1 (boot_o_1 P)).ins 2 (boot_o_2 P)).ins 3 (boot_o_3 P)).ins 4 (boot_o_4 P)).ins 5 (boot_o_5 P)).ins 6 (boot_o_6 P)).ins 7 (boot_o_7 P)).ins 8 (boot_o_8 P)).ins 9 (boot_o_9 P)).ins 10 (boot_o_10 P)
theorem boot_abs (P : Params) : absHeap (bootTree P) 11 ({} : Life) = boot_heap P := by kernel_rfl
def topLooks (p q : Program) (loose : List Str) (Xt : Shared → Bool) {α : Type} (Yf : Shared → α) (h₀ : Heap) (s : Shared) :=
  (staticsOk (importedModules p.main.body) h₀ s.heap && namesBound p s.heap && gensDone s && laidKept h₀ s.heap, openSeen q loose (importedModules p.main.body) Xt true s, Yf s)
theorem left_of {p q : Program} {loose : List Str} {Xt : Shared → Bool} {α : Type} {Yf : Shared → α} {Ya : World → α} {N : Nat}
    (h1 : opening p = plainProg p.main.scope.names) (h2 : Nat.ble 600 N = true) (h3 : ∀ s, fenceModules? p s = some s)
    (h4 : ∀ w : World, ((boot_heap w.params).isNs mainGlobals && (Array.mk ([] : List GenState)).size == 0, (boot_heap w.params).objs.size, (boot_heap w.params).nsMap mainGlobals "__annotations__") = (true, 11, some (.ref 6)))
    (ev : ∀ (w : World) (os : OsState), ∃ r : Shared, topRun treeTable p w 11 (some (.ref 6)) N ⟨boot_heap w.params, Array.mk [], boot_drawn, boot_toks, os⟩ (topStub p) = some r ∧ topLooks p q loose Xt Yf (boot_heap w.params) r = (true, openGood q loose, Ya w)) :
    LeftO p q loose Xt Yf Ya N := fun w => by
  obtain ⟨⟨h, gs, d, k, os⟩, e, e'⟩ := Option.map_eq_some_iff.mp (boot_open h1 h2 h3 w)
  obtain ⟨rfl, rfl, rfl, rfl⟩ : h = boot_heap w.params ∧ gs = Array.mk [] ∧ d = boot_drawn ∧ k = boot_toks := by simpa using e'
  obtain ⟨z1, z2, z3⟩ : _ ∧ _ ∧ _ := by simpa only [Prod.mk.injEq] using h4 w
  obtain ⟨r, r', l⟩ := ev w os
  obtain ⟨l1, l2, l3⟩ : _ ∧ _ ∧ _ := by simpa only [topLooks, Prod.mk.injEq] using l
  have t : topFrom treeTable p w N ⟨boot_heap w.params, Array.mk [], boot_drawn, boot_toks, os⟩ = some r := by
    unfold topFrom
    dsimp only
    rw [z1, z2, z3, r']
    show (match staticsOk (importedModules p.main.body) (boot_heap w.params) r.heap && namesBound p r.heap && gensDone r && laidKept (boot_heap w.params) r.heap with | true => _ | false => _) = _
    rw [l1]
  unfold openEnds
  rw [e]
  show (topFrom treeTable p w N _).map _ = _
  rw [t]
  exact congrArg some (Prod.ext l2 l3)
def topGoT (tb : String → Option Builtin) (p : Program) (w : World) (n₀ : Nat) (ann : Option Value) : Nat → SharedT → Thread → Option (SharedT × Thread)
  | 0, s, t => some (s, t)
  | n + 1, s, t => match through t with
    | true => none
    | false => match stepOk n₀ ann t with
      | false => none
      | true => match stepT (denote tb) p w s t with
        | some (s', t') => topGoT tb p w n₀ ann n s' t'
        | none => none
theorem topGo_of {tb : String → Option Builtin} {p : Program} {w : World} {n₀ : Nat} {ann : Option Value} : ∀ {n : Nat} {s s' : SharedT} {t t' : Thread}, topGoT tb p w n₀ ann n s t = some (s', t') → topGo tb p w n₀ ann n s.abs t = some (s'.abs, t')
  | 0, _, _, _, _, h => by cases h; rfl
  | n + 1, s, s', t, t', h => by
    unfold topGoT at h
    unfold topGo
    cases ht : through t with
    | true => rw [ht] at h; cases h
    | false =>
      rw [ht] at h
      cases hk : stepOk n₀ ann t with
      | false => rw [hk] at h; cases h
      | true =>
        rw [hk] at h
        cases hs : stepT (denote tb) p w s t with
        | none => rw [hs] at h; cases h
        | some r => obtain ⟨s₂, t₂⟩ := r; rw [hs] at h; rw [stepT_spec hs]; exact topGo_of h
theorem top_pieces {tb : String → Option Builtin} {p : Program} {w : World} {n₀ : Nat} {ann : Option Value} {env : Env} {q : Pos} {b l1 l2 l3 : List Stmt} {t₀ : Thread} {n1 n2 n3 n4 : Nat} {s0 s1 s2 s3 s4 : SharedT} {p1 p2 p3 : Pos}
    (hb : l1 ++ (l2 ++ l3) = b)
    (hp : topGoT tb p w n₀ ann n1 s0 t₀ = some (s1, ⟨denote tb (.body b env), .body b env, p1, [topFrame q]⟩))
    (hk : segRunT tb p w n₀ ann 1 1 s1 (blockOf b env (.body b env) p1 [topFrame q]) = some (.next, s1, .body b env, p1))
    (h1 : segRunT tb p w n₀ ann 1 n2 s1 (piecesOf l1 env (.body b env) p1 [topFrame q]) = some (.next, s2, .body b env, p2))
    (h2 : segRunT tb p w n₀ ann 1 n3 s2 (piecesOf l2 env (.body b env) p2 [topFrame q]) = some (.next, s3, .body b env, p3))
    (h3 : topRunT tb p w n₀ ann n4 s3 (restOf l3 env (.body b env) p3 [topFrame q]) = some s4) :
    topRun tb p w n₀ ann (n1 + (1 + (n2 + (n3 + n4)))) s0.abs t₀ = some s4.abs := by
  refine go_top (topGo_of hp) (piece_block (segRun_of hk) ?_)
  have k := piece_app (rest := l2 ++ l3) (segRun_of h1) (piece_app (segRun_of h2) (topRun_of h3))
  rw [hb] at k
  exact k
set_option maxRecDepth 100000
noncomputable def ho8_1 : Params → Obj := fun P => { cls := Value.type "dict", data := Data.dict #[{ hash := PyData.keyHash P (Str.ofString "builtins"), key := Value.str (Str.ofString "builtins") 162, val := Value.ref 4 }, { hash := PyData.keyHash P (Str.ofString "__main__"), key := Value.str (Str.ofString "__main__") 163, val := Value.ref 5 }] 2 }
noncomputable def ho8_2 : Params → Obj := fun P => { cls := Value.none, data := Data.dict #[{ hash := PyData.keyHash P (Str.ofString "type.__subclasses__.Exception.0"), key := Value.str (Str.ofString "type.__subclasses__.Exception.0") 212, val := Value.int 31 0 }, { hash := PyData.keyHash P (Str.ofString "type.__subclasses__.Exception.n"), key := Value.str (Str.ofString "type.__subclasses__.Exception.n") 213, val := Value.int 1 0 }] 2 }
noncomputable def ho8_3 : Params → Obj := fun P => { cls := Value.type "dict", data := Data.dict #[{ hash := PyData.keyHash P (Str.ofString "__name__"), key := Value.str (Str.ofString "__name__") 165, val := Value.str (Str.ofString "raftkeep.errors") 194 }, { hash := PyData.keyHash P (Str.ofString "__doc__"), key := Value.str (Str.ofString "__doc__") 166, val := Value.none }, { hash := PyData.keyHash P (Str.ofString "__package__"), key := Value.str (Str.ofString "__package__") 167, val := Value.none }, { hash := PyData.keyHash P (Str.ofString "__loader__"), key := Value.str (Str.ofString "__loader__") 168, val := Value.builtin "__main__.__loader__#opaque" }, { hash := PyData.keyHash P (Str.ofString "__spec__"), key := Value.str (Str.ofString "__spec__") 169, val := Value.none }, { hash := PyData.keyHash P (Str.ofString "__annotations__"), key := Value.str (Str.ofString "__annotations__") 170, val := Value.ref 6 }, { hash := PyData.keyHash P (Str.ofString "__builtins__"), key := Value.str (Str.ofString "__builtins__") 171, val := Value.ref 4 }, { hash := PyData.keyHash P (Str.ofString "__file__"), key := Value.str (Str.ofString "__file__") 173, val := Value.str (Str.ofString "/claim/cut.py") 172 }, { hash := PyData.keyHash P (Str.ofString "__cached__"), key := Value.str (Str.ofString "__cached__") 174, val := Value.none }, { hash := PyData.keyHash P (Str.ofString "_wall"), key := Value.str (Str.ofString "_wall") 193, val := Value.ref 21 }, { hash := PyData.keyHash P (Str.ofString "KeepError"), key := Value.str (Str.ofString "KeepError") 215, val := Value.ref 31 }, { hash := PyData.keyHash P (Str.ofString "StoreError"), key := Value.str (Str.ofString "StoreError") 231, val := Value.ref 44 }, { hash := PyData.keyHash P (Str.ofString "Corrupt"), key := Value.str (Str.ofString "Corrupt") 247, val := Value.ref 56 }, { hash := PyData.keyHash P (Str.ofString "ShortOctets"), key := Value.str (Str.ofString "ShortOctets") 263, val := Value.ref 68 }, { hash := PyData.keyHash P (Str.ofString "BadOption"), key := Value.str (Str.ofString "BadOption") 279, val := Value.ref 80 }, { hash := PyData.keyHash P (Str.ofString "RaftError"), key := Value.str (Str.ofString "RaftError") 295, val := Value.ref 92 }, { hash := PyData.keyHash P (Str.ofString "LogPanic"), key := Value.str (Str.ofString "LogPanic") 311, val := Value.ref 104 }] 17 }
noncomputable def ho8_4 : Params → Obj := fun _ => { cls := Value.type "module", dict := some 0 }
noncomputable def ho8_5 : Params → Obj := fun _ => { cls := Value.type "module", dict := some 3 }
noncomputable def ho8_6 : Params → Obj := fun _ => { cls := Value.type "dict", data := Data.dict #[] }
noncomputable def ho8_7 : Params → Obj := fun _ => { cls := Value.type "tuple", data := Data.seq #[] }
noncomputable def ho8_8 : Params → Obj := fun _ => { cls := Value.none, data := Data.fields #[] }
noncomputable def ho8_9 : Params → Obj := fun _ => { cls := Value.type "code", data := Data.fields #[Value.str (Str.ofString "<module>") 176, Value.str (Str.ofString "<module>") 177, Value.str (Str.ofString "/claim/cut.py") 178, Value.int 1 0, Value.int 0 0, Value.int 0 0, Value.int 0 0, Value.int 0 0, Value.ref 7, Value.bool false, Value.int 175 0, Value.ref 8, Value.none, Value.none, Value.none, Value.none, Value.int 179 0, Value.int 1 0, Value.str (Str.ofString "/claim/cut.py") 180] }
noncomputable def ho8_10 : Params → Obj := fun _ => { cls := Value.type "frame", slots := #[some (Value.ref 9), some (Value.ref 3), some (Value.ref 3), none, some (Value.str (Str.ofString "__main__") 164), none, some (Value.ref 0)] }
noncomputable def ho8_11 : Params → Obj := fun _ => { cls := Value.type "tuple", data := Data.seq #[] }
noncomputable def ho8_12 : Params → Obj := fun _ => { cls := Value.none, data := Data.fields #[Value.int 1 0, Value.int 0 0, Value.ref 20, Value.int 5 0, Value.int 0 0, Value.ref 27, Value.int 7 0, Value.int 0 0, Value.ref 40, Value.int 9 0, Value.int 0 0, Value.ref 52, Value.int 11 0, Value.int 0 0, Value.ref 64, Value.int 13 0, Value.int 0 0, Value.ref 76, Value.int 15 0, Value.int 0 0, Value.ref 88, Value.int 17 0, Value.int 0 0, Value.ref 100] }
noncomputable def ho8_13 : Params → Obj := fun _ => { cls := Value.type "code", data := Data.fields #[Value.str (Str.ofString "<module>") 182, Value.str (Str.ofString "<module>") 183, Value.str (Str.ofString "/claim/cut.py") 184, Value.int 1 0, Value.int 0 0, Value.int 0 0, Value.int 0 0, Value.int 0 0, Value.ref 11, Value.bool false, Value.int 181 0, Value.ref 12, Value.none, Value.none, Value.none, Value.none, Value.int 185 0, Value.int 1 0, Value.str (Str.ofString "/claim/cut.py") 186] }
noncomputable def ho8_14 : Params → Obj := fun _ => { cls := Value.type "frame", slots := #[some (Value.ref 13), some (Value.ref 3), some (Value.ref 3), none, some (Value.str (Str.ofString "__main__") 164), none, some (Value.ref 0)] }
noncomputable def ho8_15 : Params → Obj := fun _ => { cls := Value.type "tuple", data := Data.seq #[] }
noncomputable def ho8_16 : Params → Obj := fun _ => { cls := Value.none, data := Data.fields #[] }
noncomputable def ho8_17 : Params → Obj := fun _ => { cls := Value.type "tuple", data := Data.seq #[Value.str (Str.ofString "k") 190] }
noncomputable def ho8_18 : Params → Obj := fun _ => { cls := Value.type "tuple", data := Data.seq #[] }
noncomputable def ho8_19 : Params → Obj := fun _ => { cls := Value.none, data := Data.func { name := Str.ofString "_wall", qualname := Str.ofString "_wall", params := fA (hst 0), body := fB (hst 0), scope := fS (hst 0), globals := 0, closure := [], defaults := Value.none, kwdefaults := Value.none } }
noncomputable def ho8_20 : Params → Obj := fun _ => { cls := Value.type "code", data := Data.fields #[Value.str (Str.ofString "_wall") 187, Value.str (Str.ofString "_wall") 188, Value.str (Str.ofString "/claim/cut.py") 189, Value.int 1 0, Value.int 1 0, Value.int 0 0, Value.int 0 0, Value.int 3 0, Value.ref 15, Value.bool true, Value.int 181 0, Value.ref 16, Value.none, Value.ref 17, Value.ref 18, Value.ref 19, Value.int 191 0, Value.int 1 0, Value.str (Str.ofString "/claim/cut.py") 192] }
noncomputable def ho8_21 : Params → Obj := fun _ => { cls := Value.type "function", data := Data.func { name := Str.ofString "_wall", qualname := Str.ofString "_wall", params := fA (hst 0), body := fB (hst 0), scope := fS (hst 0), globals := 3, closure := [], defaults := Value.none, kwdefaults := Value.none, pyModule := Value.str (Str.ofString "__main__") 164, code := Value.ref 20 } }
noncomputable def ho8_22 : Params → Obj := fun _ => { cls := Value.type "tuple", data := Data.seq #[Value.type "Exception"] }
noncomputable def ho8_23 : Params → Obj := fun _ => { cls := Value.type "builtin_function_or_method", data := Data.fields #[Value.builtin "type.__prepare__", Value.type "type"] }
noncomputable def ho8_24 : Params → Obj := fun P => { cls := Value.type "dict", data := Data.dict #[{ hash := PyData.keyHash P (Str.ofString "__module__"), key := Value.str (Str.ofString "__module__") 203, val := Value.str (Str.ofString "raftkeep.errors") 194 }, { hash := PyData.keyHash P (Str.ofString "__qualname__"), key := Value.str (Str.ofString "__qualname__") 205, val := Value.str (Str.ofString "KeepError") 204 }, { hash := PyData.keyHash P (Str.ofString "__firstlineno__"), key := Value.str (Str.ofString "__firstlineno__") 207, val := Value.int 5 206 }, { hash := PyData.keyHash P (Str.ofString "__static_attributes__"), key := Value.str (Str.ofString "__static_attributes__") 208, val := Value.ref 29 }] 4 }
noncomputable def ho8_25 : Params → Obj := fun _ => { cls := Value.type "tuple", data := Data.seq #[] }
noncomputable def ho8_26 : Params → Obj := fun _ => { cls := Value.none, data := Data.fields #[] }
noncomputable def ho8_27 : Params → Obj := fun _ => { cls := Value.type "code", data := Data.fields #[Value.str (Str.ofString "KeepError") 198, Value.str (Str.ofString "KeepError") 199, Value.str (Str.ofString "/claim/cut.py") 200, Value.int 5 0, Value.int 0 0, Value.int 0 0, Value.int 0 0, Value.int 0 0, Value.ref 25, Value.bool false, Value.int 181 0, Value.ref 26, Value.none, Value.none, Value.none, Value.none, Value.int 201 0, Value.int 5 0, Value.str (Str.ofString "/claim/cut.py") 202] }
noncomputable def ho8_28 : Params → Obj := fun _ => { cls := Value.type "frame", slots := #[some (Value.ref 27), some (Value.ref 3), some (Value.ref 24), none, some (Value.str (Str.ofString "raftkeep.errors") 194), none, some (Value.ref 0)] }
noncomputable def ho8_29 : Params → Obj := fun _ => { cls := Value.type "tuple", data := Data.seq #[] }
noncomputable def ho8_30 : Params → Obj := fun P => { cls := Value.type "dict", data := Data.dict #[{ hash := PyData.keyHash P (Str.ofString "__module__"), key := Value.str (Str.ofString "__module__") 203, val := Value.str (Str.ofString "raftkeep.errors") 194 }, { hash := PyData.keyHash P (Str.ofString "__firstlineno__"), key := Value.str (Str.ofString "__firstlineno__") 207, val := Value.int 5 206 }, { hash := PyData.keyHash P (Str.ofString "__static_attributes__"), key := Value.str (Str.ofString "__static_attributes__") 208, val := Value.ref 29 }, { hash := PyData.keyHash P (Str.ofString "__weakref__"), key := Value.str (Str.ofString "__weakref__") 210, val := Value.ref 32 }, { hash := PyData.keyHash P (Str.ofString "__doc__"), key := Value.str (Str.ofString "__doc__") 211, val := Value.none }] 3 }
noncomputable def ho8_31 : Params → Obj := fun _ => { cls := Value.type "type", data := Data.cls { name := Str.ofString "KeepError", bases := [Value.type "Exception"], mro := [Value.ref 31, Value.type "Exception", Value.type "BaseException", Value.type "object"], ns := 30, qualname := Str.ofString "KeepError", subclasses := [Value.ref 44, Value.ref 92] }, slots := #[some (Value.ref 22), none, some (Value.str (Str.ofString "KeepError") 196), some (Value.str (Str.ofString "KeepError") 204), some (Value.builtin "Exception.__new__"), some (Value.bool true)] }
noncomputable def ho8_32 : Params → Obj := fun _ => { cls := Value.type "getset_descriptor", data := Data.fields #[Value.str (Str.ofString "__weakref__") 209, Value.ref 31, Value.builtin "ExceptionGroup.__weakref__", Value.none] }
noncomputable def ho8_33 : Params → Obj := fun _ => { cls := Value.type "super", data := Data.fields #[Value.ref 31, Value.ref 31, Value.ref 31] }
noncomputable def ho8_34 : Params → Obj := fun _ => { cls := Value.type "builtin_function_or_method", data := Data.fields #[Value.builtin "object.__init_subclass__", Value.ref 31] }
noncomputable def ho8_35 : Params → Obj := fun _ => { cls := Value.type "tuple", data := Data.seq #[Value.ref 31] }
noncomputable def ho8_36 : Params → Obj := fun _ => { cls := Value.type "builtin_function_or_method", data := Data.fields #[Value.builtin "type.__prepare__", Value.type "type"] }
noncomputable def ho8_37 : Params → Obj := fun P => { cls := Value.type "dict", data := Data.dict #[{ hash := PyData.keyHash P (Str.ofString "__module__"), key := Value.str (Str.ofString "__module__") 223, val := Value.str (Str.ofString "raftkeep.errors") 194 }, { hash := PyData.keyHash P (Str.ofString "__qualname__"), key := Value.str (Str.ofString "__qualname__") 225, val := Value.str (Str.ofString "StoreError") 224 }, { hash := PyData.keyHash P (Str.ofString "__firstlineno__"), key := Value.str (Str.ofString "__firstlineno__") 227, val := Value.int 7 226 }, { hash := PyData.keyHash P (Str.ofString "__static_attributes__"), key := Value.str (Str.ofString "__static_attributes__") 228, val := Value.ref 42 }] 4 }
noncomputable def ho8_38 : Params → Obj := fun _ => { cls := Value.type "tuple", data := Data.seq #[] }
noncomputable def ho8_39 : Params → Obj := fun _ => { cls := Value.none, data := Data.fields #[] }
noncomputable def ho8_40 : Params → Obj := fun _ => { cls := Value.type "code", data := Data.fields #[Value.str (Str.ofString "StoreError") 218, Value.str (Str.ofString "StoreError") 219, Value.str (Str.ofString "/claim/cut.py") 220, Value.int 7 0, Value.int 0 0, Value.int 0 0, Value.int 0 0, Value.int 0 0, Value.ref 38, Value.bool false, Value.int 181 0, Value.ref 39, Value.none, Value.none, Value.none, Value.none, Value.int 221 0, Value.int 7 0, Value.str (Str.ofString "/claim/cut.py") 222] }
noncomputable def ho8_41 : Params → Obj := fun _ => { cls := Value.type "frame", slots := #[some (Value.ref 40), some (Value.ref 3), some (Value.ref 37), none, some (Value.str (Str.ofString "raftkeep.errors") 194), none, some (Value.ref 0)] }
noncomputable def ho8_42 : Params → Obj := fun _ => { cls := Value.type "tuple", data := Data.seq #[] }
noncomputable def ho8_43 : Params → Obj := fun P => { cls := Value.type "dict", data := Data.dict #[{ hash := PyData.keyHash P (Str.ofString "__module__"), key := Value.str (Str.ofString "__module__") 223, val := Value.str (Str.ofString "raftkeep.errors") 194 }, { hash := PyData.keyHash P (Str.ofString "__firstlineno__"), key := Value.str (Str.ofString "__firstlineno__") 227, val := Value.int 7 226 }, { hash := PyData.keyHash P (Str.ofString "__static_attributes__"), key := Value.str (Str.ofString "__static_attributes__") 228, val := Value.ref 42 }, { hash := PyData.keyHash P (Str.ofString "__doc__"), key := Value.str (Str.ofString "__doc__") 229, val := Value.none }] 2 }
noncomputable def ho8_44 : Params → Obj := fun _ => { cls := Value.type "type", data := Data.cls { name := Str.ofString "StoreError", bases := [Value.ref 31], mro := [Value.ref 44, Value.ref 31, Value.type "Exception", Value.type "BaseException", Value.type "object"], ns := 43, qualname := Str.ofString "StoreError", subclasses := [Value.ref 56, Value.ref 80] }, slots := #[some (Value.ref 35), none, some (Value.str (Str.ofString "StoreError") 216), some (Value.str (Str.ofString "StoreError") 224), some (Value.builtin "Exception.__new__"), some (Value.bool true)] }
noncomputable def ho8_45 : Params → Obj := fun _ => { cls := Value.type "super", data := Data.fields #[Value.ref 44, Value.ref 44, Value.ref 44] }
noncomputable def ho8_46 : Params → Obj := fun _ => { cls := Value.type "builtin_function_or_method", data := Data.fields #[Value.builtin "object.__init_subclass__", Value.ref 44] }
noncomputable def ho8_47 : Params → Obj := fun _ => { cls := Value.type "tuple", data := Data.seq #[Value.ref 44] }
noncomputable def ho8_48 : Params → Obj := fun _ => { cls := Value.type "builtin_function_or_method", data := Data.fields #[Value.builtin "type.__prepare__", Value.type "type"] }
noncomputable def ho8_49 : Params → Obj := fun P => { cls := Value.type "dict", data := Data.dict #[{ hash := PyData.keyHash P (Str.ofString "__module__"), key := Value.str (Str.ofString "__module__") 239, val := Value.str (Str.ofString "raftkeep.errors") 194 }, { hash := PyData.keyHash P (Str.ofString "__qualname__"), key := Value.str (Str.ofString "__qualname__") 241, val := Value.str (Str.ofString "Corrupt") 240 }, { hash := PyData.keyHash P (Str.ofString "__firstlineno__"), key := Value.str (Str.ofString "__firstlineno__") 243, val := Value.int 9 242 }, { hash := PyData.keyHash P (Str.ofString "__static_attributes__"), key := Value.str (Str.ofString "__static_attributes__") 244, val := Value.ref 54 }] 4 }
noncomputable def ho8_50 : Params → Obj := fun _ => { cls := Value.type "tuple", data := Data.seq #[] }
noncomputable def ho8_51 : Params → Obj := fun _ => { cls := Value.none, data := Data.fields #[] }
noncomputable def ho8_52 : Params → Obj := fun _ => { cls := Value.type "code", data := Data.fields #[Value.str (Str.ofString "Corrupt") 234, Value.str (Str.ofString "Corrupt") 235, Value.str (Str.ofString "/claim/cut.py") 236, Value.int 9 0, Value.int 0 0, Value.int 0 0, Value.int 0 0, Value.int 0 0, Value.ref 50, Value.bool false, Value.int 181 0, Value.ref 51, Value.none, Value.none, Value.none, Value.none, Value.int 237 0, Value.int 9 0, Value.str (Str.ofString "/claim/cut.py") 238] }
noncomputable def ho8_53 : Params → Obj := fun _ => { cls := Value.type "frame", slots := #[some (Value.ref 52), some (Value.ref 3), some (Value.ref 49), none, some (Value.str (Str.ofString "raftkeep.errors") 194), none, some (Value.ref 0)] }
noncomputable def ho8_54 : Params → Obj := fun _ => { cls := Value.type "tuple", data := Data.seq #[] }
noncomputable def ho8_55 : Params → Obj := fun P => { cls := Value.type "dict", data := Data.dict #[{ hash := PyData.keyHash P (Str.ofString "__module__"), key := Value.str (Str.ofString "__module__") 239, val := Value.str (Str.ofString "raftkeep.errors") 194 }, { hash := PyData.keyHash P (Str.ofString "__firstlineno__"), key := Value.str (Str.ofString "__firstlineno__") 243, val := Value.int 9 242 }, { hash := PyData.keyHash P (Str.ofString "__static_attributes__"), key := Value.str (Str.ofString "__static_attributes__") 244, val := Value.ref 54 }, { hash := PyData.keyHash P (Str.ofString "__doc__"), key := Value.str (Str.ofString "__doc__") 245, val := Value.none }] 2 }
noncomputable def ho8_56 : Params → Obj := fun _ => { cls := Value.type "type", data := Data.cls { name := Str.ofString "Corrupt", bases := [Value.ref 44], mro := [Value.ref 56, Value.ref 44, Value.ref 31, Value.type "Exception", Value.type "BaseException", Value.type "object"], ns := 55, qualname := Str.ofString "Corrupt", subclasses := [Value.ref 68] }, slots := #[some (Value.ref 47), none, some (Value.str (Str.ofString "Corrupt") 232), some (Value.str (Str.ofString "Corrupt") 240), some (Value.builtin "Exception.__new__"), some (Value.bool true)] }
noncomputable def ho8_57 : Params → Obj := fun _ => { cls := Value.type "super", data := Data.fields #[Value.ref 56, Value.ref 56, Value.ref 56] }
noncomputable def ho8_58 : Params → Obj := fun _ => { cls := Value.type "builtin_function_or_method", data := Data.fields #[Value.builtin "object.__init_subclass__", Value.ref 56] }
noncomputable def ho8_59 : Params → Obj := fun _ => { cls := Value.type "tuple", data := Data.seq #[Value.ref 56] }
noncomputable def ho8_60 : Params → Obj := fun _ => { cls := Value.type "builtin_function_or_method", data := Data.fields #[Value.builtin "type.__prepare__", Value.type "type"] }
noncomputable def ho8_61 : Params → Obj := fun P => { cls := Value.type "dict", data := Data.dict #[{ hash := PyData.keyHash P (Str.ofString "__module__"), key := Value.str (Str.ofString "__module__") 255, val := Value.str (Str.ofString "raftkeep.errors") 194 }, { hash := PyData.keyHash P (Str.ofString "__qualname__"), key := Value.str (Str.ofString "__qualname__") 257, val := Value.str (Str.ofString "ShortOctets") 256 }, { hash := PyData.keyHash P (Str.ofString "__firstlineno__"), key := Value.str (Str.ofString "__firstlineno__") 259, val := Value.int 11 258 }, { hash := PyData.keyHash P (Str.ofString "__static_attributes__"), key := Value.str (Str.ofString "__static_attributes__") 260, val := Value.ref 66 }] 4 }
noncomputable def ho8_62 : Params → Obj := fun _ => { cls := Value.type "tuple", data := Data.seq #[] }
noncomputable def ho8_63 : Params → Obj := fun _ => { cls := Value.none, data := Data.fields #[] }
noncomputable def ho8_64 : Params → Obj := fun _ => { cls := Value.type "code", data := Data.fields #[Value.str (Str.ofString "ShortOctets") 250, Value.str (Str.ofString "ShortOctets") 251, Value.str (Str.ofString "/claim/cut.py") 252, Value.int 11 0, Value.int 0 0, Value.int 0 0, Value.int 0 0, Value.int 0 0, Value.ref 62, Value.bool false, Value.int 181 0, Value.ref 63, Value.none, Value.none, Value.none, Value.none, Value.int 253 0, Value.int 11 0, Value.str (Str.ofString "/claim/cut.py") 254] }
noncomputable def ho8_65 : Params → Obj := fun _ => { cls := Value.type "frame", slots := #[some (Value.ref 64), some (Value.ref 3), some (Value.ref 61), none, some (Value.str (Str.ofString "raftkeep.errors") 194), none, some (Value.ref 0)] }
noncomputable def ho8_66 : Params → Obj := fun _ => { cls := Value.type "tuple", data := Data.seq #[] }
noncomputable def ho8_67 : Params → Obj := fun P => { cls := Value.type "dict", data := Data.dict #[{ hash := PyData.keyHash P (Str.ofString "__module__"), key := Value.str (Str.ofString "__module__") 255, val := Value.str (Str.ofString "raftkeep.errors") 194 }, { hash := PyData.keyHash P (Str.ofString "__firstlineno__"), key := Value.str (Str.ofString "__firstlineno__") 259, val := Value.int 11 258 }, { hash := PyData.keyHash P (Str.ofString "__static_attributes__"), key := Value.str (Str.ofString "__static_attributes__") 260, val := Value.ref 66 }, { hash := PyData.keyHash P (Str.ofString "__doc__"), key := Value.str (Str.ofString "__doc__") 261, val := Value.none }] 2 }
noncomputable def ho8_68 : Params → Obj := fun _ => { cls := Value.type "type", data := Data.cls { name := Str.ofString "ShortOctets", bases := [Value.ref 56], mro := [Value.ref 68, Value.ref 56, Value.ref 44, Value.ref 31, Value.type "Exception", Value.type "BaseException", Value.type "object"], ns := 67, qualname := Str.ofString "ShortOctets" }, slots := #[some (Value.ref 59), none, some (Value.str (Str.ofString "ShortOctets") 248), some (Value.str (Str.ofString "ShortOctets") 256), some (Value.builtin "Exception.__new__"), some (Value.bool true)] }
noncomputable def ho8_69 : Params → Obj := fun _ => { cls := Value.type "super", data := Data.fields #[Value.ref 68, Value.ref 68, Value.ref 68] }
noncomputable def ho8_70 : Params → Obj := fun _ => { cls := Value.type "builtin_function_or_method", data := Data.fields #[Value.builtin "object.__init_subclass__", Value.ref 68] }
noncomputable def ho8_71 : Params → Obj := fun _ => { cls := Value.type "tuple", data := Data.seq #[Value.ref 44] }
noncomputable def ho8_72 : Params → Obj := fun _ => { cls := Value.type "builtin_function_or_method", data := Data.fields #[Value.builtin "type.__prepare__", Value.type "type"] }
noncomputable def ho8_73 : Params → Obj := fun P => { cls := Value.type "dict", data := Data.dict #[{ hash := PyData.keyHash P (Str.ofString "__module__"), key := Value.str (Str.ofString "__module__") 271, val := Value.str (Str.ofString "raftkeep.errors") 194 }, { hash := PyData.keyHash P (Str.ofString "__qualname__"), key := Value.str (Str.ofString "__qualname__") 273, val := Value.str (Str.ofString "BadOption") 272 }, { hash := PyData.keyHash P (Str.ofString "__firstlineno__"), key := Value.str (Str.ofString "__firstlineno__") 275, val := Value.int 13 274 }, { hash := PyData.keyHash P (Str.ofString "__static_attributes__"), key := Value.str (Str.ofString "__static_attributes__") 276, val := Value.ref 78 }] 4 }
noncomputable def ho8_74 : Params → Obj := fun _ => { cls := Value.type "tuple", data := Data.seq #[] }
noncomputable def ho8_75 : Params → Obj := fun _ => { cls := Value.none, data := Data.fields #[] }
noncomputable def ho8_76 : Params → Obj := fun _ => { cls := Value.type "code", data := Data.fields #[Value.str (Str.ofString "BadOption") 266, Value.str (Str.ofString "BadOption") 267, Value.str (Str.ofString "/claim/cut.py") 268, Value.int 13 0, Value.int 0 0, Value.int 0 0, Value.int 0 0, Value.int 0 0, Value.ref 74, Value.bool false, Value.int 181 0, Value.ref 75, Value.none, Value.none, Value.none, Value.none, Value.int 269 0, Value.int 13 0, Value.str (Str.ofString "/claim/cut.py") 270] }
noncomputable def ho8_77 : Params → Obj := fun _ => { cls := Value.type "frame", slots := #[some (Value.ref 76), some (Value.ref 3), some (Value.ref 73), none, some (Value.str (Str.ofString "raftkeep.errors") 194), none, some (Value.ref 0)] }
noncomputable def ho8_78 : Params → Obj := fun _ => { cls := Value.type "tuple", data := Data.seq #[] }
noncomputable def ho8_79 : Params → Obj := fun P => { cls := Value.type "dict", data := Data.dict #[{ hash := PyData.keyHash P (Str.ofString "__module__"), key := Value.str (Str.ofString "__module__") 271, val := Value.str (Str.ofString "raftkeep.errors") 194 }, { hash := PyData.keyHash P (Str.ofString "__firstlineno__"), key := Value.str (Str.ofString "__firstlineno__") 275, val := Value.int 13 274 }, { hash := PyData.keyHash P (Str.ofString "__static_attributes__"), key := Value.str (Str.ofString "__static_attributes__") 276, val := Value.ref 78 }, { hash := PyData.keyHash P (Str.ofString "__doc__"), key := Value.str (Str.ofString "__doc__") 277, val := Value.none }] 2 }
noncomputable def ho8_80 : Params → Obj := fun _ => { cls := Value.type "type", data := Data.cls { name := Str.ofString "BadOption", bases := [Value.ref 44], mro := [Value.ref 80, Value.ref 44, Value.ref 31, Value.type "Exception", Value.type "BaseException", Value.type "object"], ns := 79, qualname := Str.ofString "BadOption" }, slots := #[some (Value.ref 71), none, some (Value.str (Str.ofString "BadOption") 264), some (Value.str (Str.ofString "BadOption") 272), some (Value.builtin "Exception.__new__"), some (Value.bool true)] }
noncomputable def ho8_81 : Params → Obj := fun _ => { cls := Value.type "super", data := Data.fields #[Value.ref 80, Value.ref 80, Value.ref 80] }
noncomputable def ho8_82 : Params → Obj := fun _ => { cls := Value.type "builtin_function_or_method", data := Data.fields #[Value.builtin "object.__init_subclass__", Value.ref 80] }
noncomputable def ho8_83 : Params → Obj := fun _ => { cls := Value.type "tuple", data := Data.seq #[Value.ref 31] }
noncomputable def ho8_84 : Params → Obj := fun _ => { cls := Value.type "builtin_function_or_method", data := Data.fields #[Value.builtin "type.__prepare__", Value.type "type"] }
noncomputable def ho8_85 : Params → Obj := fun P => { cls := Value.type "dict", data := Data.dict #[{ hash := PyData.keyHash P (Str.ofString "__module__"), key := Value.str (Str.ofString "__module__") 287, val := Value.str (Str.ofString "raftkeep.errors") 194 }, { hash := PyData.keyHash P (Str.ofString "__qualname__"), key := Value.str (Str.ofString "__qualname__") 289, val := Value.str (Str.ofString "RaftError") 288 }, { hash := PyData.keyHash P (Str.ofString "__firstlineno__"), key := Value.str (Str.ofString "__firstlineno__") 291, val := Value.int 15 290 }, { hash := PyData.keyHash P (Str.ofString "__static_attributes__"), key := Value.str (Str.ofString "__static_attributes__") 292, val := Value.ref 90 }] 4 }
noncomputable def ho8_86 : Params → Obj := fun _ => { cls := Value.type "tuple", data := Data.seq #[] }
noncomputable def ho8_87 : Params → Obj := fun _ => { cls := Value.none, data := Data.fields #[] }
noncomputable def ho8_88 : Params → Obj := fun _ => { cls := Value.type "code", data := Data.fields #[Value.str (Str.ofString "RaftError") 282, Value.str (Str.ofString "RaftError") 283, Value.str (Str.ofString "/claim/cut.py") 284, Value.int 15 0, Value.int 0 0, Value.int 0 0, Value.int 0 0, Value.int 0 0, Value.ref 86, Value.bool false, Value.int 181 0, Value.ref 87, Value.none, Value.none, Value.none, Value.none, Value.int 285 0, Value.int 15 0, Value.str (Str.ofString "/claim/cut.py") 286] }
noncomputable def ho8_89 : Params → Obj := fun _ => { cls := Value.type "frame", slots := #[some (Value.ref 88), some (Value.ref 3), some (Value.ref 85), none, some (Value.str (Str.ofString "raftkeep.errors") 194), none, some (Value.ref 0)] }
noncomputable def ho8_90 : Params → Obj := fun _ => { cls := Value.type "tuple", data := Data.seq #[] }
noncomputable def ho8_91 : Params → Obj := fun P => { cls := Value.type "dict", data := Data.dict #[{ hash := PyData.keyHash P (Str.ofString "__module__"), key := Value.str (Str.ofString "__module__") 287, val := Value.str (Str.ofString "raftkeep.errors") 194 }, { hash := PyData.keyHash P (Str.ofString "__firstlineno__"), key := Value.str (Str.ofString "__firstlineno__") 291, val := Value.int 15 290 }, { hash := PyData.keyHash P (Str.ofString "__static_attributes__"), key := Value.str (Str.ofString "__static_attributes__") 292, val := Value.ref 90 }, { hash := PyData.keyHash P (Str.ofString "__doc__"), key := Value.str (Str.ofString "__doc__") 293, val := Value.none }] 2 }
noncomputable def ho8_92 : Params → Obj := fun _ => { cls := Value.type "type", data := Data.cls { name := Str.ofString "RaftError", bases := [Value.ref 31], mro := [Value.ref 92, Value.ref 31, Value.type "Exception", Value.type "BaseException", Value.type "object"], ns := 91, qualname := Str.ofString "RaftError", subclasses := [Value.ref 104] }, slots := #[some (Value.ref 83), none, some (Value.str (Str.ofString "RaftError") 280), some (Value.str (Str.ofString "RaftError") 288), some (Value.builtin "Exception.__new__"), some (Value.bool true)] }
noncomputable def ho8_93 : Params → Obj := fun _ => { cls := Value.type "super", data := Data.fields #[Value.ref 92, Value.ref 92, Value.ref 92] }
noncomputable def ho8_94 : Params → Obj := fun _ => { cls := Value.type "builtin_function_or_method", data := Data.fields #[Value.builtin "object.__init_subclass__", Value.ref 92] }
noncomputable def ho8_95 : Params → Obj := fun _ => { cls := Value.type "tuple", data := Data.seq #[Value.ref 92] }
noncomputable def ho8_96 : Params → Obj := fun _ => { cls := Value.type "builtin_function_or_method", data := Data.fields #[Value.builtin "type.__prepare__", Value.type "type"] }
noncomputable def ho8_97 : Params → Obj := fun P => { cls := Value.type "dict", data := Data.dict #[{ hash := PyData.keyHash P (Str.ofString "__module__"), key := Value.str (Str.ofString "__module__") 303, val := Value.str (Str.ofString "raftkeep.errors") 194 }, { hash := PyData.keyHash P (Str.ofString "__qualname__"), key := Value.str (Str.ofString "__qualname__") 305, val := Value.str (Str.ofString "LogPanic") 304 }, { hash := PyData.keyHash P (Str.ofString "__firstlineno__"), key := Value.str (Str.ofString "__firstlineno__") 307, val := Value.int 17 306 }, { hash := PyData.keyHash P (Str.ofString "__static_attributes__"), key := Value.str (Str.ofString "__static_attributes__") 308, val := Value.ref 102 }] 4 }
noncomputable def ho8_98 : Params → Obj := fun _ => { cls := Value.type "tuple", data := Data.seq #[] }
noncomputable def ho8_99 : Params → Obj := fun _ => { cls := Value.none, data := Data.fields #[] }
noncomputable def ho8_100 : Params → Obj := fun _ => { cls := Value.type "code", data := Data.fields #[Value.str (Str.ofString "LogPanic") 298, Value.str (Str.ofString "LogPanic") 299, Value.str (Str.ofString "/claim/cut.py") 300, Value.int 17 0, Value.int 0 0, Value.int 0 0, Value.int 0 0, Value.int 0 0, Value.ref 98, Value.bool false, Value.int 181 0, Value.ref 99, Value.none, Value.none, Value.none, Value.none, Value.int 301 0, Value.int 17 0, Value.str (Str.ofString "/claim/cut.py") 302] }
noncomputable def ho8_101 : Params → Obj := fun _ => { cls := Value.type "frame", slots := #[some (Value.ref 100), some (Value.ref 3), some (Value.ref 97), none, some (Value.str (Str.ofString "raftkeep.errors") 194), none, some (Value.ref 0)] }
noncomputable def ho8_102 : Params → Obj := fun _ => { cls := Value.type "tuple", data := Data.seq #[] }
noncomputable def ho8_103 : Params → Obj := fun P => { cls := Value.type "dict", data := Data.dict #[{ hash := PyData.keyHash P (Str.ofString "__module__"), key := Value.str (Str.ofString "__module__") 303, val := Value.str (Str.ofString "raftkeep.errors") 194 }, { hash := PyData.keyHash P (Str.ofString "__firstlineno__"), key := Value.str (Str.ofString "__firstlineno__") 307, val := Value.int 17 306 }, { hash := PyData.keyHash P (Str.ofString "__static_attributes__"), key := Value.str (Str.ofString "__static_attributes__") 308, val := Value.ref 102 }, { hash := PyData.keyHash P (Str.ofString "__doc__"), key := Value.str (Str.ofString "__doc__") 309, val := Value.none }] 2 }
noncomputable def ho8_104 : Params → Obj := fun _ => { cls := Value.type "type", data := Data.cls { name := Str.ofString "LogPanic", bases := [Value.ref 92], mro := [Value.ref 104, Value.ref 92, Value.ref 31, Value.type "Exception", Value.type "BaseException", Value.type "object"], ns := 103, qualname := Str.ofString "LogPanic" }, slots := #[some (Value.ref 95), none, some (Value.str (Str.ofString "LogPanic") 296), some (Value.str (Str.ofString "LogPanic") 304), some (Value.builtin "Exception.__new__"), some (Value.bool true)] }
noncomputable def ho8_105 : Params → Obj := fun _ => { cls := Value.type "super", data := Data.fields #[Value.ref 104, Value.ref 104, Value.ref 104] }
noncomputable def ho8_106 : Params → Obj := fun _ => { cls := Value.type "builtin_function_or_method", data := Data.fields #[Value.builtin "object.__init_subclass__", Value.ref 104] }
noncomputable def ho25_3 : Params → Obj := fun P => { cls := Value.type "dict", data := Data.dict #[{ hash := PyData.keyHash P (Str.ofString "__name__"), key := Value.str (Str.ofString "__name__") 165, val := Value.str (Str.ofString "raftkeep.quorum") 361 }, { hash := PyData.keyHash P (Str.ofString "__doc__"), key := Value.str (Str.ofString "__doc__") 166, val := Value.none }, { hash := PyData.keyHash P (Str.ofString "__package__"), key := Value.str (Str.ofString "__package__") 167, val := Value.none }, { hash := PyData.keyHash P (Str.ofString "__loader__"), key := Value.str (Str.ofString "__loader__") 168, val := Value.builtin "__main__.__loader__#opaque" }, { hash := PyData.keyHash P (Str.ofString "__spec__"), key := Value.str (Str.ofString "__spec__") 169, val := Value.none }, { hash := PyData.keyHash P (Str.ofString "__annotations__"), key := Value.str (Str.ofString "__annotations__") 170, val := Value.ref 6 }, { hash := PyData.keyHash P (Str.ofString "__builtins__"), key := Value.str (Str.ofString "__builtins__") 171, val := Value.ref 4 }, { hash := PyData.keyHash P (Str.ofString "__file__"), key := Value.str (Str.ofString "__file__") 173, val := Value.str (Str.ofString "/claim/cut.py") 172 }, { hash := PyData.keyHash P (Str.ofString "__cached__"), key := Value.str (Str.ofString "__cached__") 174, val := Value.none }, { hash := PyData.keyHash P (Str.ofString "_wall"), key := Value.str (Str.ofString "_wall") 193, val := Value.ref 21 }, { hash := PyData.keyHash P (Str.ofString "KeepError"), key := Value.str (Str.ofString "KeepError") 215, val := Value.ref 31 }, { hash := PyData.keyHash P (Str.ofString "StoreError"), key := Value.str (Str.ofString "StoreError") 231, val := Value.ref 44 }, { hash := PyData.keyHash P (Str.ofString "Corrupt"), key := Value.str (Str.ofString "Corrupt") 247, val := Value.ref 56 }, { hash := PyData.keyHash P (Str.ofString "ShortOctets"), key := Value.str (Str.ofString "ShortOctets") 263, val := Value.ref 68 }, { hash := PyData.keyHash P (Str.ofString "BadOption"), key := Value.str (Str.ofString "BadOption") 279, val := Value.ref 80 }, { hash := PyData.keyHash P (Str.ofString "RaftError"), key := Value.str (Str.ofString "RaftError") 295, val := Value.ref 92 }, { hash := PyData.keyHash P (Str.ofString "LogPanic"), key := Value.str (Str.ofString "LogPanic") 311, val := Value.ref 104 }, { hash := PyData.keyHash P (Str.ofString "MAX_32"), key := Value.str (Str.ofString "MAX_32") 315, val := Value.int 4294967295 314 }, { hash := PyData.keyHash P (Str.ofString "MAX_64"), key := Value.str (Str.ofString "MAX_64") 317, val := Value.int 18446744073709551615 316 }, { hash := PyData.keyHash P (Str.ofString "put_fixed32"), key := Value.str (Str.ofString "put_fixed32") 324, val := Value.ref 113 }, { hash := PyData.keyHash P (Str.ofString "put_fixed64"), key := Value.str (Str.ofString "put_fixed64") 331, val := Value.ref 120 }, { hash := PyData.keyHash P (Str.ofString "read_fixed32"), key := Value.str (Str.ofString "read_fixed32") 339, val := Value.ref 127 }, { hash := PyData.keyHash P (Str.ofString "read_fixed64"), key := Value.str (Str.ofString "read_fixed64") 347, val := Value.ref 134 }, { hash := PyData.keyHash P (Str.ofString "NONE"), key := Value.str (Str.ofString "NONE") 351, val := Value.int 0 350 }, { hash := PyData.keyHash P (Str.ofString "rising"), key := Value.str (Str.ofString "rising") 360, val := Value.ref 141 }, { hash := PyData.keyHash P (Str.ofString "VOTE_PENDING"), key := Value.str (Str.ofString "VOTE_PENDING") 364, val := Value.int 1 363 }, { hash := PyData.keyHash P (Str.ofString "VOTE_LOST"), key := Value.str (Str.ofString "VOTE_LOST") 366, val := Value.int 2 365 }, { hash := PyData.keyHash P (Str.ofString "VOTE_WON"), key := Value.str (Str.ofString "VOTE_WON") 368, val := Value.int 3 367 }, { hash := PyData.keyHash P (Str.ofString "majority_vote"), key := Value.str (Str.ofString "majority_vote") 380, val := Value.ref 148 }, { hash := PyData.keyHash P (Str.ofString "joint_vote"), key := Value.str (Str.ofString "joint_vote") 391, val := Value.ref 155 }, { hash := PyData.keyHash P (Str.ofString "Config"), key := Value.str (Str.ofString "Config") 494, val := Value.ref 235 }] 31 }
noncomputable def ho25_12 : Params → Obj := fun _ => { cls := Value.none, data := Data.fields #[Value.int 1 0, Value.int 0 0, Value.ref 20, Value.int 5 0, Value.int 0 0, Value.ref 27, Value.int 7 0, Value.int 0 0, Value.ref 40, Value.int 9 0, Value.int 0 0, Value.ref 52, Value.int 11 0, Value.int 0 0, Value.ref 64, Value.int 13 0, Value.int 0 0, Value.ref 76, Value.int 15 0, Value.int 0 0, Value.ref 88, Value.int 17 0, Value.int 0 0, Value.ref 100, Value.int 22 0, Value.int 0 0, Value.ref 112, Value.int 26 0, Value.int 0 0, Value.ref 119, Value.int 30 0, Value.int 0 0, Value.ref 126, Value.int 34 0, Value.int 0 0, Value.ref 133, Value.int 40 0, Value.int 0 0, Value.ref 140, Value.int 50 0, Value.int 0 0, Value.ref 147, Value.int 66 0, Value.int 0 0, Value.ref 154, Value.int 74 0, Value.int 0 0, Value.ref 161] }
noncomputable def ho25_107 : Params → Obj := fun _ => { cls := Value.type "tuple", data := Data.seq #[] }
noncomputable def ho25_108 : Params → Obj := fun _ => { cls := Value.none, data := Data.fields #[] }
noncomputable def ho25_109 : Params → Obj := fun _ => { cls := Value.type "tuple", data := Data.seq #[Value.str (Str.ofString "n") 321] }
noncomputable def ho25_110 : Params → Obj := fun _ => { cls := Value.type "tuple", data := Data.seq #[] }
noncomputable def ho25_111 : Params → Obj := fun _ => { cls := Value.none, data := Data.func { name := Str.ofString "put_fixed32", qualname := Str.ofString "put_fixed32", params := fA (hst 12), body := fB (hst 12), scope := fS (hst 12), globals := 0, closure := [], defaults := Value.none, kwdefaults := Value.none } }
noncomputable def ho25_112 : Params → Obj := fun _ => { cls := Value.type "code", data := Data.fields #[Value.str (Str.ofString "put_fixed32") 318, Value.str (Str.ofString "put_fixed32") 319, Value.str (Str.ofString "/claim/cut.py") 320, Value.int 22 0, Value.int 1 0, Value.int 0 0, Value.int 0 0, Value.int 3 0, Value.ref 107, Value.bool true, Value.int 181 0, Value.ref 108, Value.none, Value.ref 109, Value.ref 110, Value.ref 111, Value.int 322 0, Value.int 22 0, Value.str (Str.ofString "/claim/cut.py") 323] }
noncomputable def ho25_113 : Params → Obj := fun _ => { cls := Value.type "function", data := Data.func { name := Str.ofString "put_fixed32", qualname := Str.ofString "put_fixed32", params := fA (hst 12), body := fB (hst 12), scope := fS (hst 12), globals := 3, closure := [], defaults := Value.none, kwdefaults := Value.none, pyModule := Value.str (Str.ofString "raftkeep.octets") 312, code := Value.ref 112 } }
noncomputable def ho25_114 : Params → Obj := fun _ => { cls := Value.type "tuple", data := Data.seq #[] }
noncomputable def ho25_115 : Params → Obj := fun _ => { cls := Value.none, data := Data.fields #[] }
noncomputable def ho25_116 : Params → Obj := fun _ => { cls := Value.type "tuple", data := Data.seq #[Value.str (Str.ofString "n") 328] }
noncomputable def ho25_117 : Params → Obj := fun _ => { cls := Value.type "tuple", data := Data.seq #[] }
noncomputable def ho25_118 : Params → Obj := fun _ => { cls := Value.none, data := Data.func { name := Str.ofString "put_fixed64", qualname := Str.ofString "put_fixed64", params := fA (hst 13), body := fB (hst 13), scope := fS (hst 13), globals := 0, closure := [], defaults := Value.none, kwdefaults := Value.none } }
noncomputable def ho25_119 : Params → Obj := fun _ => { cls := Value.type "code", data := Data.fields #[Value.str (Str.ofString "put_fixed64") 325, Value.str (Str.ofString "put_fixed64") 326, Value.str (Str.ofString "/claim/cut.py") 327, Value.int 26 0, Value.int 1 0, Value.int 0 0, Value.int 0 0, Value.int 3 0, Value.ref 114, Value.bool true, Value.int 181 0, Value.ref 115, Value.none, Value.ref 116, Value.ref 117, Value.ref 118, Value.int 329 0, Value.int 26 0, Value.str (Str.ofString "/claim/cut.py") 330] }
noncomputable def ho25_120 : Params → Obj := fun _ => { cls := Value.type "function", data := Data.func { name := Str.ofString "put_fixed64", qualname := Str.ofString "put_fixed64", params := fA (hst 13), body := fB (hst 13), scope := fS (hst 13), globals := 3, closure := [], defaults := Value.none, kwdefaults := Value.none, pyModule := Value.str (Str.ofString "raftkeep.octets") 312, code := Value.ref 119 } }
noncomputable def ho25_121 : Params → Obj := fun _ => { cls := Value.type "tuple", data := Data.seq #[] }
noncomputable def ho25_122 : Params → Obj := fun _ => { cls := Value.none, data := Data.fields #[] }
noncomputable def ho25_123 : Params → Obj := fun _ => { cls := Value.type "tuple", data := Data.seq #[Value.str (Str.ofString "data") 335, Value.str (Str.ofString "at") 336] }
noncomputable def ho25_124 : Params → Obj := fun _ => { cls := Value.type "tuple", data := Data.seq #[] }
noncomputable def ho25_125 : Params → Obj := fun _ => { cls := Value.none, data := Data.func { name := Str.ofString "read_fixed32", qualname := Str.ofString "read_fixed32", params := fA (hst 14), body := fB (hst 14), scope := fS (hst 14), globals := 0, closure := [], defaults := Value.none, kwdefaults := Value.none } }
noncomputable def ho25_126 : Params → Obj := fun _ => { cls := Value.type "code", data := Data.fields #[Value.str (Str.ofString "read_fixed32") 332, Value.str (Str.ofString "read_fixed32") 333, Value.str (Str.ofString "/claim/cut.py") 334, Value.int 30 0, Value.int 2 0, Value.int 0 0, Value.int 0 0, Value.int 3 0, Value.ref 121, Value.bool true, Value.int 181 0, Value.ref 122, Value.none, Value.ref 123, Value.ref 124, Value.ref 125, Value.int 337 0, Value.int 30 0, Value.str (Str.ofString "/claim/cut.py") 338] }
noncomputable def ho25_127 : Params → Obj := fun _ => { cls := Value.type "function", data := Data.func { name := Str.ofString "read_fixed32", qualname := Str.ofString "read_fixed32", params := fA (hst 14), body := fB (hst 14), scope := fS (hst 14), globals := 3, closure := [], defaults := Value.none, kwdefaults := Value.none, pyModule := Value.str (Str.ofString "raftkeep.octets") 312, code := Value.ref 126 } }
noncomputable def ho25_128 : Params → Obj := fun _ => { cls := Value.type "tuple", data := Data.seq #[] }
noncomputable def ho25_129 : Params → Obj := fun _ => { cls := Value.none, data := Data.fields #[] }
noncomputable def ho25_130 : Params → Obj := fun _ => { cls := Value.type "tuple", data := Data.seq #[Value.str (Str.ofString "data") 343, Value.str (Str.ofString "at") 344] }
noncomputable def ho25_131 : Params → Obj := fun _ => { cls := Value.type "tuple", data := Data.seq #[] }
noncomputable def ho25_132 : Params → Obj := fun _ => { cls := Value.none, data := Data.func { name := Str.ofString "read_fixed64", qualname := Str.ofString "read_fixed64", params := fA (hst 15), body := fB (hst 15), scope := fS (hst 15), globals := 0, closure := [], defaults := Value.none, kwdefaults := Value.none } }
noncomputable def ho25_133 : Params → Obj := fun _ => { cls := Value.type "code", data := Data.fields #[Value.str (Str.ofString "read_fixed64") 340, Value.str (Str.ofString "read_fixed64") 341, Value.str (Str.ofString "/claim/cut.py") 342, Value.int 34 0, Value.int 2 0, Value.int 0 0, Value.int 0 0, Value.int 3 0, Value.ref 128, Value.bool true, Value.int 181 0, Value.ref 129, Value.none, Value.ref 130, Value.ref 131, Value.ref 132, Value.int 345 0, Value.int 34 0, Value.str (Str.ofString "/claim/cut.py") 346] }
noncomputable def ho25_134 : Params → Obj := fun _ => { cls := Value.type "function", data := Data.func { name := Str.ofString "read_fixed64", qualname := Str.ofString "read_fixed64", params := fA (hst 15), body := fB (hst 15), scope := fS (hst 15), globals := 3, closure := [], defaults := Value.none, kwdefaults := Value.none, pyModule := Value.str (Str.ofString "raftkeep.octets") 312, code := Value.ref 133 } }
noncomputable def ho25_135 : Params → Obj := fun _ => { cls := Value.type "tuple", data := Data.seq #[] }
noncomputable def ho25_136 : Params → Obj := fun _ => { cls := Value.none, data := Data.fields #[] }
noncomputable def ho25_137 : Params → Obj := fun _ => { cls := Value.type "tuple", data := Data.seq #[Value.str (Str.ofString "ids") 355, Value.str (Str.ofString "out") 356, Value.str (Str.ofString "nid") 357] }
noncomputable def ho25_138 : Params → Obj := fun _ => { cls := Value.type "tuple", data := Data.seq #[] }
noncomputable def ho25_139 : Params → Obj := fun _ => { cls := Value.none, data := Data.func { name := Str.ofString "rising", qualname := Str.ofString "rising", params := fA (hst 18), body := fB (hst 18), scope := fS (hst 18), globals := 0, closure := [], defaults := Value.none, kwdefaults := Value.none } }
noncomputable def ho25_140 : Params → Obj := fun _ => { cls := Value.type "code", data := Data.fields #[Value.str (Str.ofString "rising") 352, Value.str (Str.ofString "rising") 353, Value.str (Str.ofString "/claim/cut.py") 354, Value.int 40 0, Value.int 1 0, Value.int 0 0, Value.int 0 0, Value.int 3 0, Value.ref 135, Value.bool true, Value.int 181 0, Value.ref 136, Value.none, Value.ref 137, Value.ref 138, Value.ref 139, Value.int 358 0, Value.int 40 0, Value.str (Str.ofString "/claim/cut.py") 359] }
noncomputable def ho25_141 : Params → Obj := fun _ => { cls := Value.type "function", data := Data.func { name := Str.ofString "rising", qualname := Str.ofString "rising", params := fA (hst 18), body := fB (hst 18), scope := fS (hst 18), globals := 3, closure := [], defaults := Value.none, kwdefaults := Value.none, pyModule := Value.str (Str.ofString "raftkeep.messages") 348, code := Value.ref 140 } }
noncomputable def ho25_142 : Params → Obj := fun _ => { cls := Value.type "tuple", data := Data.seq #[] }
noncomputable def ho25_143 : Params → Obj := fun _ => { cls := Value.none, data := Data.fields #[] }
noncomputable def ho25_144 : Params → Obj := fun _ => { cls := Value.type "tuple", data := Data.seq #[Value.str (Str.ofString "ids") 372, Value.str (Str.ofString "votes") 373, Value.str (Str.ofString "granted") 374, Value.str (Str.ofString "missing") 375, Value.str (Str.ofString "nid") 376, Value.str (Str.ofString "need") 377] }
noncomputable def ho25_145 : Params → Obj := fun _ => { cls := Value.type "tuple", data := Data.seq #[] }
noncomputable def ho25_146 : Params → Obj := fun _ => { cls := Value.none, data := Data.func { name := Str.ofString "majority_vote", qualname := Str.ofString "majority_vote", params := fA (hst 23), body := fB (hst 23), scope := fS (hst 23), globals := 0, closure := [], defaults := Value.none, kwdefaults := Value.none } }
noncomputable def ho25_147 : Params → Obj := fun _ => { cls := Value.type "code", data := Data.fields #[Value.str (Str.ofString "majority_vote") 369, Value.str (Str.ofString "majority_vote") 370, Value.str (Str.ofString "/claim/cut.py") 371, Value.int 50 0, Value.int 2 0, Value.int 0 0, Value.int 0 0, Value.int 3 0, Value.ref 142, Value.bool true, Value.int 181 0, Value.ref 143, Value.none, Value.ref 144, Value.ref 145, Value.ref 146, Value.int 378 0, Value.int 50 0, Value.str (Str.ofString "/claim/cut.py") 379] }
noncomputable def ho25_148 : Params → Obj := fun _ => { cls := Value.type "function", data := Data.func { name := Str.ofString "majority_vote", qualname := Str.ofString "majority_vote", params := fA (hst 23), body := fB (hst 23), scope := fS (hst 23), globals := 3, closure := [], defaults := Value.none, kwdefaults := Value.none, pyModule := Value.str (Str.ofString "raftkeep.quorum") 361, code := Value.ref 147 } }
noncomputable def ho25_149 : Params → Obj := fun _ => { cls := Value.type "tuple", data := Data.seq #[] }
noncomputable def ho25_150 : Params → Obj := fun _ => { cls := Value.none, data := Data.fields #[] }
noncomputable def ho25_151 : Params → Obj := fun _ => { cls := Value.type "tuple", data := Data.seq #[Value.str (Str.ofString "a") 384, Value.str (Str.ofString "b") 385, Value.str (Str.ofString "votes") 386, Value.str (Str.ofString "left") 387, Value.str (Str.ofString "right") 388] }
noncomputable def ho25_152 : Params → Obj := fun _ => { cls := Value.type "tuple", data := Data.seq #[] }
noncomputable def ho25_153 : Params → Obj := fun _ => { cls := Value.none, data := Data.func { name := Str.ofString "joint_vote", qualname := Str.ofString "joint_vote", params := fA (hst 24), body := fB (hst 24), scope := fS (hst 24), globals := 0, closure := [], defaults := Value.none, kwdefaults := Value.none } }
noncomputable def ho25_154 : Params → Obj := fun _ => { cls := Value.type "code", data := Data.fields #[Value.str (Str.ofString "joint_vote") 381, Value.str (Str.ofString "joint_vote") 382, Value.str (Str.ofString "/claim/cut.py") 383, Value.int 66 0, Value.int 3 0, Value.int 0 0, Value.int 0 0, Value.int 3 0, Value.ref 149, Value.bool true, Value.int 181 0, Value.ref 150, Value.none, Value.ref 151, Value.ref 152, Value.ref 153, Value.int 389 0, Value.int 66 0, Value.str (Str.ofString "/claim/cut.py") 390] }
noncomputable def ho25_155 : Params → Obj := fun _ => { cls := Value.type "function", data := Data.func { name := Str.ofString "joint_vote", qualname := Str.ofString "joint_vote", params := fA (hst 24), body := fB (hst 24), scope := fS (hst 24), globals := 3, closure := [], defaults := Value.none, kwdefaults := Value.none, pyModule := Value.str (Str.ofString "raftkeep.quorum") 361, code := Value.ref 154 } }
noncomputable def ho25_156 : Params → Obj := fun _ => { cls := Value.type "tuple", data := Data.seq #[] }
noncomputable def ho25_157 : Params → Obj := fun _ => { cls := Value.type "builtin_function_or_method", data := Data.fields #[Value.builtin "type.__prepare__", Value.type "type"] }
noncomputable def ho25_158 : Params → Obj := fun P => { cls := Value.type "dict", data := Data.dict #[{ hash := PyData.keyHash P (Str.ofString "__module__"), key := Value.str (Str.ofString "__module__") 399, val := Value.str (Str.ofString "raftkeep.quorum") 361 }, { hash := PyData.keyHash P (Str.ofString "__qualname__"), key := Value.str (Str.ofString "__qualname__") 401, val := Value.str (Str.ofString "Config") 400 }, { hash := PyData.keyHash P (Str.ofString "__firstlineno__"), key := Value.str (Str.ofString "__firstlineno__") 403, val := Value.int 74 402 }, { hash := PyData.keyHash P (Str.ofString "__init__"), key := Value.str (Str.ofString "__init__") 415, val := Value.ref 169 }, { hash := PyData.keyHash P (Str.ofString "row"), key := Value.str (Str.ofString "row") 422, val := Value.ref 176 }, { hash := PyData.keyHash P (Str.ofString "copy"), key := Value.str (Str.ofString "copy") 429, val := Value.ref 183 }, { hash := PyData.keyHash P (Str.ofString "joint"), key := Value.str (Str.ofString "joint") 436, val := Value.ref 190 }, { hash := PyData.keyHash P (Str.ofString "all_voters"), key := Value.str (Str.ofString "all_voters") 443, val := Value.ref 197 }, { hash := PyData.keyHash P (Str.ofString "members"), key := Value.str (Str.ofString "members") 450, val := Value.ref 204 }, { hash := PyData.keyHash P (Str.ofString "committed"), key := Value.str (Str.ofString "committed") 458, val := Value.ref 211 }, { hash := PyData.keyHash P (Str.ofString "vote"), key := Value.str (Str.ofString "vote") 466, val := Value.ref 218 }, { hash := PyData.keyHash P (Str.ofString "conf_state"), key := Value.str (Str.ofString "conf_state") 473, val := Value.ref 225 }, { hash := PyData.keyHash P (Str.ofString "check"), key := Value.str (Str.ofString "check") 481, val := Value.ref 232 }, { hash := PyData.keyHash P (Str.ofString "__static_attributes__"), key := Value.str (Str.ofString "__static_attributes__") 487, val := Value.ref 233 }] 14 }
noncomputable def ho25_159 : Params → Obj := fun _ => { cls := Value.type "tuple", data := Data.seq #[] }
noncomputable def ho25_160 : Params → Obj := fun _ => { cls := Value.none, data := Data.fields #[Value.int 76 0, Value.int 4 0, Value.ref 168, Value.int 83 0, Value.int 4 0, Value.ref 175, Value.int 86 0, Value.int 4 0, Value.ref 182, Value.int 89 0, Value.int 4 0, Value.ref 189, Value.int 92 0, Value.int 4 0, Value.ref 196, Value.int 95 0, Value.int 4 0, Value.ref 203, Value.int 98 0, Value.int 4 0, Value.ref 210, Value.int 101 0, Value.int 4 0, Value.ref 217, Value.int 104 0, Value.int 4 0, Value.ref 224, Value.int 107 0, Value.int 4 0, Value.ref 231] }
noncomputable def ho25_161 : Params → Obj := fun _ => { cls := Value.type "code", data := Data.fields #[Value.str (Str.ofString "Config") 394, Value.str (Str.ofString "Config") 395, Value.str (Str.ofString "/claim/cut.py") 396, Value.int 74 0, Value.int 0 0, Value.int 0 0, Value.int 0 0, Value.int 0 0, Value.ref 159, Value.bool false, Value.int 181 0, Value.ref 160, Value.none, Value.none, Value.none, Value.none, Value.int 397 0, Value.int 74 0, Value.str (Str.ofString "/claim/cut.py") 398] }
noncomputable def ho25_162 : Params → Obj := fun _ => { cls := Value.type "frame", slots := #[some (Value.ref 161), some (Value.ref 3), some (Value.ref 158), none, some (Value.str (Str.ofString "raftkeep.quorum") 361), none, some (Value.ref 0)] }
noncomputable def ho25_163 : Params → Obj := fun _ => { cls := Value.type "tuple", data := Data.seq #[] }
noncomputable def ho25_164 : Params → Obj := fun _ => { cls := Value.none, data := Data.fields #[] }
noncomputable def ho25_165 : Params → Obj := fun _ => { cls := Value.type "tuple", data := Data.seq #[Value.str (Str.ofString "self") 407, Value.str (Str.ofString "voters") 408, Value.str (Str.ofString "outgoing") 409, Value.str (Str.ofString "learners") 410, Value.str (Str.ofString "learners_next") 411, Value.str (Str.ofString "auto_leave") 412] }
noncomputable def ho25_166 : Params → Obj := fun _ => { cls := Value.type "tuple", data := Data.seq #[] }
noncomputable def ho25_167 : Params → Obj := fun _ => { cls := Value.none, data := Data.func { name := Str.ofString "__init__", qualname := Str.ofString "Config.__init__", params := fA (hme 25 0), body := fB (hme 25 0), scope := fS (hme 25 0), globals := 0, closure := [], defaults := Value.none, kwdefaults := Value.none } }
noncomputable def ho25_168 : Params → Obj := fun _ => { cls := Value.type "code", data := Data.fields #[Value.str (Str.ofString "__init__") 404, Value.str (Str.ofString "Config.__init__") 405, Value.str (Str.ofString "/claim/cut.py") 406, Value.int 76 0, Value.int 6 0, Value.int 0 0, Value.int 0 0, Value.int 3 0, Value.ref 163, Value.bool true, Value.int 181 0, Value.ref 164, Value.none, Value.ref 165, Value.ref 166, Value.ref 167, Value.int 413 0, Value.int 76 0, Value.str (Str.ofString "/claim/cut.py") 414] }
noncomputable def ho25_169 : Params → Obj := fun _ => { cls := Value.type "function", data := Data.func { name := Str.ofString "__init__", qualname := Str.ofString "Config.__init__", params := fA (hme 25 0), body := fB (hme 25 0), scope := fS (hme 25 0), globals := 3, closure := [], defaults := Value.none, kwdefaults := Value.none, pyModule := Value.str (Str.ofString "raftkeep.quorum") 361, code := Value.ref 168 } }
noncomputable def ho25_170 : Params → Obj := fun _ => { cls := Value.type "tuple", data := Data.seq #[] }
noncomputable def ho25_171 : Params → Obj := fun _ => { cls := Value.none, data := Data.fields #[] }
noncomputable def ho25_172 : Params → Obj := fun _ => { cls := Value.type "tuple", data := Data.seq #[Value.str (Str.ofString "self") 419] }
noncomputable def ho25_173 : Params → Obj := fun _ => { cls := Value.type "tuple", data := Data.seq #[] }
noncomputable def ho25_174 : Params → Obj := fun _ => { cls := Value.none, data := Data.func { name := Str.ofString "row", qualname := Str.ofString "Config.row", params := fA (hme 25 1), body := fB (hme 25 1), scope := fS (hme 25 1), globals := 0, closure := [], defaults := Value.none, kwdefaults := Value.none } }
noncomputable def ho25_175 : Params → Obj := fun _ => { cls := Value.type "code", data := Data.fields #[Value.str (Str.ofString "row") 416, Value.str (Str.ofString "Config.row") 417, Value.str (Str.ofString "/claim/cut.py") 418, Value.int 83 0, Value.int 1 0, Value.int 0 0, Value.int 0 0, Value.int 3 0, Value.ref 170, Value.bool true, Value.int 181 0, Value.ref 171, Value.none, Value.ref 172, Value.ref 173, Value.ref 174, Value.int 420 0, Value.int 83 0, Value.str (Str.ofString "/claim/cut.py") 421] }
noncomputable def ho25_176 : Params → Obj := fun _ => { cls := Value.type "function", data := Data.func { name := Str.ofString "row", qualname := Str.ofString "Config.row", params := fA (hme 25 1), body := fB (hme 25 1), scope := fS (hme 25 1), globals := 3, closure := [], defaults := Value.none, kwdefaults := Value.none, pyModule := Value.str (Str.ofString "raftkeep.quorum") 361, code := Value.ref 175 } }
noncomputable def ho25_177 : Params → Obj := fun _ => { cls := Value.type "tuple", data := Data.seq #[] }
noncomputable def ho25_178 : Params → Obj := fun _ => { cls := Value.none, data := Data.fields #[] }
noncomputable def ho25_179 : Params → Obj := fun _ => { cls := Value.type "tuple", data := Data.seq #[Value.str (Str.ofString "self") 426] }
noncomputable def ho25_180 : Params → Obj := fun _ => { cls := Value.type "tuple", data := Data.seq #[] }
noncomputable def ho25_181 : Params → Obj := fun _ => { cls := Value.none, data := Data.func { name := Str.ofString "copy", qualname := Str.ofString "Config.copy", params := fA (hme 25 2), body := fB (hme 25 2), scope := fS (hme 25 2), globals := 0, closure := [], defaults := Value.none, kwdefaults := Value.none } }
noncomputable def ho25_182 : Params → Obj := fun _ => { cls := Value.type "code", data := Data.fields #[Value.str (Str.ofString "copy") 423, Value.str (Str.ofString "Config.copy") 424, Value.str (Str.ofString "/claim/cut.py") 425, Value.int 86 0, Value.int 1 0, Value.int 0 0, Value.int 0 0, Value.int 3 0, Value.ref 177, Value.bool true, Value.int 181 0, Value.ref 178, Value.none, Value.ref 179, Value.ref 180, Value.ref 181, Value.int 427 0, Value.int 86 0, Value.str (Str.ofString "/claim/cut.py") 428] }
noncomputable def ho25_183 : Params → Obj := fun _ => { cls := Value.type "function", data := Data.func { name := Str.ofString "copy", qualname := Str.ofString "Config.copy", params := fA (hme 25 2), body := fB (hme 25 2), scope := fS (hme 25 2), globals := 3, closure := [], defaults := Value.none, kwdefaults := Value.none, pyModule := Value.str (Str.ofString "raftkeep.quorum") 361, code := Value.ref 182 } }
noncomputable def ho25_184 : Params → Obj := fun _ => { cls := Value.type "tuple", data := Data.seq #[] }
noncomputable def ho25_185 : Params → Obj := fun _ => { cls := Value.none, data := Data.fields #[] }
noncomputable def ho25_186 : Params → Obj := fun _ => { cls := Value.type "tuple", data := Data.seq #[Value.str (Str.ofString "self") 433] }
noncomputable def ho25_187 : Params → Obj := fun _ => { cls := Value.type "tuple", data := Data.seq #[] }
noncomputable def ho25_188 : Params → Obj := fun _ => { cls := Value.none, data := Data.func { name := Str.ofString "joint", qualname := Str.ofString "Config.joint", params := fA (hme 25 3), body := fB (hme 25 3), scope := fS (hme 25 3), globals := 0, closure := [], defaults := Value.none, kwdefaults := Value.none } }
noncomputable def ho25_189 : Params → Obj := fun _ => { cls := Value.type "code", data := Data.fields #[Value.str (Str.ofString "joint") 430, Value.str (Str.ofString "Config.joint") 431, Value.str (Str.ofString "/claim/cut.py") 432, Value.int 89 0, Value.int 1 0, Value.int 0 0, Value.int 0 0, Value.int 3 0, Value.ref 184, Value.bool true, Value.int 181 0, Value.ref 185, Value.none, Value.ref 186, Value.ref 187, Value.ref 188, Value.int 434 0, Value.int 89 0, Value.str (Str.ofString "/claim/cut.py") 435] }
noncomputable def ho25_190 : Params → Obj := fun _ => { cls := Value.type "function", data := Data.func { name := Str.ofString "joint", qualname := Str.ofString "Config.joint", params := fA (hme 25 3), body := fB (hme 25 3), scope := fS (hme 25 3), globals := 3, closure := [], defaults := Value.none, kwdefaults := Value.none, pyModule := Value.str (Str.ofString "raftkeep.quorum") 361, code := Value.ref 189 } }
noncomputable def ho25_191 : Params → Obj := fun _ => { cls := Value.type "tuple", data := Data.seq #[] }
noncomputable def ho25_192 : Params → Obj := fun _ => { cls := Value.none, data := Data.fields #[] }
noncomputable def ho25_193 : Params → Obj := fun _ => { cls := Value.type "tuple", data := Data.seq #[Value.str (Str.ofString "self") 440] }
noncomputable def ho25_194 : Params → Obj := fun _ => { cls := Value.type "tuple", data := Data.seq #[] }
noncomputable def ho25_195 : Params → Obj := fun _ => { cls := Value.none, data := Data.func { name := Str.ofString "all_voters", qualname := Str.ofString "Config.all_voters", params := fA (hme 25 4), body := fB (hme 25 4), scope := fS (hme 25 4), globals := 0, closure := [], defaults := Value.none, kwdefaults := Value.none } }
noncomputable def ho25_196 : Params → Obj := fun _ => { cls := Value.type "code", data := Data.fields #[Value.str (Str.ofString "all_voters") 437, Value.str (Str.ofString "Config.all_voters") 438, Value.str (Str.ofString "/claim/cut.py") 439, Value.int 92 0, Value.int 1 0, Value.int 0 0, Value.int 0 0, Value.int 3 0, Value.ref 191, Value.bool true, Value.int 181 0, Value.ref 192, Value.none, Value.ref 193, Value.ref 194, Value.ref 195, Value.int 441 0, Value.int 92 0, Value.str (Str.ofString "/claim/cut.py") 442] }
noncomputable def ho25_197 : Params → Obj := fun _ => { cls := Value.type "function", data := Data.func { name := Str.ofString "all_voters", qualname := Str.ofString "Config.all_voters", params := fA (hme 25 4), body := fB (hme 25 4), scope := fS (hme 25 4), globals := 3, closure := [], defaults := Value.none, kwdefaults := Value.none, pyModule := Value.str (Str.ofString "raftkeep.quorum") 361, code := Value.ref 196 } }
noncomputable def ho25_198 : Params → Obj := fun _ => { cls := Value.type "tuple", data := Data.seq #[] }
noncomputable def ho25_199 : Params → Obj := fun _ => { cls := Value.none, data := Data.fields #[] }
noncomputable def ho25_200 : Params → Obj := fun _ => { cls := Value.type "tuple", data := Data.seq #[Value.str (Str.ofString "self") 447] }
noncomputable def ho25_201 : Params → Obj := fun _ => { cls := Value.type "tuple", data := Data.seq #[] }
noncomputable def ho25_202 : Params → Obj := fun _ => { cls := Value.none, data := Data.func { name := Str.ofString "members", qualname := Str.ofString "Config.members", params := fA (hme 25 5), body := fB (hme 25 5), scope := fS (hme 25 5), globals := 0, closure := [], defaults := Value.none, kwdefaults := Value.none } }
noncomputable def ho25_203 : Params → Obj := fun _ => { cls := Value.type "code", data := Data.fields #[Value.str (Str.ofString "members") 444, Value.str (Str.ofString "Config.members") 445, Value.str (Str.ofString "/claim/cut.py") 446, Value.int 95 0, Value.int 1 0, Value.int 0 0, Value.int 0 0, Value.int 3 0, Value.ref 198, Value.bool true, Value.int 181 0, Value.ref 199, Value.none, Value.ref 200, Value.ref 201, Value.ref 202, Value.int 448 0, Value.int 95 0, Value.str (Str.ofString "/claim/cut.py") 449] }
noncomputable def ho25_204 : Params → Obj := fun _ => { cls := Value.type "function", data := Data.func { name := Str.ofString "members", qualname := Str.ofString "Config.members", params := fA (hme 25 5), body := fB (hme 25 5), scope := fS (hme 25 5), globals := 3, closure := [], defaults := Value.none, kwdefaults := Value.none, pyModule := Value.str (Str.ofString "raftkeep.quorum") 361, code := Value.ref 203 } }
noncomputable def ho25_205 : Params → Obj := fun _ => { cls := Value.type "tuple", data := Data.seq #[] }
noncomputable def ho25_206 : Params → Obj := fun _ => { cls := Value.none, data := Data.fields #[] }
noncomputable def ho25_207 : Params → Obj := fun _ => { cls := Value.type "tuple", data := Data.seq #[Value.str (Str.ofString "self") 454, Value.str (Str.ofString "acked") 455] }
noncomputable def ho25_208 : Params → Obj := fun _ => { cls := Value.type "tuple", data := Data.seq #[] }
noncomputable def ho25_209 : Params → Obj := fun _ => { cls := Value.none, data := Data.func { name := Str.ofString "committed", qualname := Str.ofString "Config.committed", params := fA (hme 25 6), body := fB (hme 25 6), scope := fS (hme 25 6), globals := 0, closure := [], defaults := Value.none, kwdefaults := Value.none } }
noncomputable def ho25_210 : Params → Obj := fun _ => { cls := Value.type "code", data := Data.fields #[Value.str (Str.ofString "committed") 451, Value.str (Str.ofString "Config.committed") 452, Value.str (Str.ofString "/claim/cut.py") 453, Value.int 98 0, Value.int 2 0, Value.int 0 0, Value.int 0 0, Value.int 3 0, Value.ref 205, Value.bool true, Value.int 181 0, Value.ref 206, Value.none, Value.ref 207, Value.ref 208, Value.ref 209, Value.int 456 0, Value.int 98 0, Value.str (Str.ofString "/claim/cut.py") 457] }
noncomputable def ho25_211 : Params → Obj := fun _ => { cls := Value.type "function", data := Data.func { name := Str.ofString "committed", qualname := Str.ofString "Config.committed", params := fA (hme 25 6), body := fB (hme 25 6), scope := fS (hme 25 6), globals := 3, closure := [], defaults := Value.none, kwdefaults := Value.none, pyModule := Value.str (Str.ofString "raftkeep.quorum") 361, code := Value.ref 210 } }
noncomputable def ho25_212 : Params → Obj := fun _ => { cls := Value.type "tuple", data := Data.seq #[] }
noncomputable def ho25_213 : Params → Obj := fun _ => { cls := Value.none, data := Data.fields #[] }
noncomputable def ho25_214 : Params → Obj := fun _ => { cls := Value.type "tuple", data := Data.seq #[Value.str (Str.ofString "self") 462, Value.str (Str.ofString "votes") 463] }
noncomputable def ho25_215 : Params → Obj := fun _ => { cls := Value.type "tuple", data := Data.seq #[] }
noncomputable def ho25_216 : Params → Obj := fun _ => { cls := Value.none, data := Data.func { name := Str.ofString "vote", qualname := Str.ofString "Config.vote", params := fA (hme 25 7), body := fB (hme 25 7), scope := fS (hme 25 7), globals := 0, closure := [], defaults := Value.none, kwdefaults := Value.none } }
noncomputable def ho25_217 : Params → Obj := fun _ => { cls := Value.type "code", data := Data.fields #[Value.str (Str.ofString "vote") 459, Value.str (Str.ofString "Config.vote") 460, Value.str (Str.ofString "/claim/cut.py") 461, Value.int 101 0, Value.int 2 0, Value.int 0 0, Value.int 0 0, Value.int 3 0, Value.ref 212, Value.bool true, Value.int 181 0, Value.ref 213, Value.none, Value.ref 214, Value.ref 215, Value.ref 216, Value.int 464 0, Value.int 101 0, Value.str (Str.ofString "/claim/cut.py") 465] }
noncomputable def ho25_218 : Params → Obj := fun _ => { cls := Value.type "function", data := Data.func { name := Str.ofString "vote", qualname := Str.ofString "Config.vote", params := fA (hme 25 7), body := fB (hme 25 7), scope := fS (hme 25 7), globals := 3, closure := [], defaults := Value.none, kwdefaults := Value.none, pyModule := Value.str (Str.ofString "raftkeep.quorum") 361, code := Value.ref 217 } }
noncomputable def ho25_219 : Params → Obj := fun _ => { cls := Value.type "tuple", data := Data.seq #[] }
noncomputable def ho25_220 : Params → Obj := fun _ => { cls := Value.none, data := Data.fields #[] }
noncomputable def ho25_221 : Params → Obj := fun _ => { cls := Value.type "tuple", data := Data.seq #[Value.str (Str.ofString "self") 470] }
noncomputable def ho25_222 : Params → Obj := fun _ => { cls := Value.type "tuple", data := Data.seq #[] }
noncomputable def ho25_223 : Params → Obj := fun _ => { cls := Value.none, data := Data.func { name := Str.ofString "conf_state", qualname := Str.ofString "Config.conf_state", params := fA (hme 25 8), body := fB (hme 25 8), scope := fS (hme 25 8), globals := 0, closure := [], defaults := Value.none, kwdefaults := Value.none } }
noncomputable def ho25_224 : Params → Obj := fun _ => { cls := Value.type "code", data := Data.fields #[Value.str (Str.ofString "conf_state") 467, Value.str (Str.ofString "Config.conf_state") 468, Value.str (Str.ofString "/claim/cut.py") 469, Value.int 104 0, Value.int 1 0, Value.int 0 0, Value.int 0 0, Value.int 3 0, Value.ref 219, Value.bool true, Value.int 181 0, Value.ref 220, Value.none, Value.ref 221, Value.ref 222, Value.ref 223, Value.int 471 0, Value.int 104 0, Value.str (Str.ofString "/claim/cut.py") 472] }
noncomputable def ho25_225 : Params → Obj := fun _ => { cls := Value.type "function", data := Data.func { name := Str.ofString "conf_state", qualname := Str.ofString "Config.conf_state", params := fA (hme 25 8), body := fB (hme 25 8), scope := fS (hme 25 8), globals := 3, closure := [], defaults := Value.none, kwdefaults := Value.none, pyModule := Value.str (Str.ofString "raftkeep.quorum") 361, code := Value.ref 224 } }
noncomputable def ho25_226 : Params → Obj := fun _ => { cls := Value.type "tuple", data := Data.seq #[] }
noncomputable def ho25_227 : Params → Obj := fun _ => { cls := Value.none, data := Data.fields #[] }
noncomputable def ho25_228 : Params → Obj := fun _ => { cls := Value.type "tuple", data := Data.seq #[Value.str (Str.ofString "self") 477, Value.str (Str.ofString "nid") 478] }
noncomputable def ho25_229 : Params → Obj := fun _ => { cls := Value.type "tuple", data := Data.seq #[] }
noncomputable def ho25_230 : Params → Obj := fun _ => { cls := Value.none, data := Data.func { name := Str.ofString "check", qualname := Str.ofString "Config.check", params := fA (hme 25 9), body := fB (hme 25 9), scope := fS (hme 25 9), globals := 0, closure := [], defaults := Value.none, kwdefaults := Value.none } }
noncomputable def ho25_231 : Params → Obj := fun _ => { cls := Value.type "code", data := Data.fields #[Value.str (Str.ofString "check") 474, Value.str (Str.ofString "Config.check") 475, Value.str (Str.ofString "/claim/cut.py") 476, Value.int 107 0, Value.int 1 0, Value.int 0 0, Value.int 0 0, Value.int 3 0, Value.ref 226, Value.bool true, Value.int 181 0, Value.ref 227, Value.none, Value.ref 228, Value.ref 229, Value.ref 230, Value.int 479 0, Value.int 107 0, Value.str (Str.ofString "/claim/cut.py") 480] }
noncomputable def ho25_232 : Params → Obj := fun _ => { cls := Value.type "function", data := Data.func { name := Str.ofString "check", qualname := Str.ofString "Config.check", params := fA (hme 25 9), body := fB (hme 25 9), scope := fS (hme 25 9), globals := 3, closure := [], defaults := Value.none, kwdefaults := Value.none, pyModule := Value.str (Str.ofString "raftkeep.quorum") 361, code := Value.ref 231 } }
noncomputable def ho25_233 : Params → Obj := fun _ => { cls := Value.type "tuple", data := Data.seq #[Value.str (Str.ofString "auto_leave") 482, Value.str (Str.ofString "learners") 483, Value.str (Str.ofString "learners_next") 484, Value.str (Str.ofString "outgoing") 485, Value.str (Str.ofString "voters") 486] }
noncomputable def ho25_234 : Params → Obj := fun P => { cls := Value.type "dict", data := Data.dict #[{ hash := PyData.keyHash P (Str.ofString "__module__"), key := Value.str (Str.ofString "__module__") 399, val := Value.str (Str.ofString "raftkeep.quorum") 361 }, { hash := PyData.keyHash P (Str.ofString "__firstlineno__"), key := Value.str (Str.ofString "__firstlineno__") 403, val := Value.int 74 402 }, { hash := PyData.keyHash P (Str.ofString "__init__"), key := Value.str (Str.ofString "__init__") 415, val := Value.ref 169 }, { hash := PyData.keyHash P (Str.ofString "row"), key := Value.str (Str.ofString "row") 422, val := Value.ref 176 }, { hash := PyData.keyHash P (Str.ofString "copy"), key := Value.str (Str.ofString "copy") 429, val := Value.ref 183 }, { hash := PyData.keyHash P (Str.ofString "joint"), key := Value.str (Str.ofString "joint") 436, val := Value.ref 190 }, { hash := PyData.keyHash P (Str.ofString "all_voters"), key := Value.str (Str.ofString "all_voters") 443, val := Value.ref 197 }, { hash := PyData.keyHash P (Str.ofString "members"), key := Value.str (Str.ofString "members") 450, val := Value.ref 204 }, { hash := PyData.keyHash P (Str.ofString "committed"), key := Value.str (Str.ofString "committed") 458, val := Value.ref 211 }, { hash := PyData.keyHash P (Str.ofString "vote"), key := Value.str (Str.ofString "vote") 466, val := Value.ref 218 }, { hash := PyData.keyHash P (Str.ofString "conf_state"), key := Value.str (Str.ofString "conf_state") 473, val := Value.ref 225 }, { hash := PyData.keyHash P (Str.ofString "check"), key := Value.str (Str.ofString "check") 481, val := Value.ref 232 }, { hash := PyData.keyHash P (Str.ofString "__static_attributes__"), key := Value.str (Str.ofString "__static_attributes__") 487, val := Value.ref 233 }, { hash := PyData.keyHash P (Str.ofString "__dict__"), key := Value.str (Str.ofString "__dict__") 489, val := Value.ref 236 }, { hash := PyData.keyHash P (Str.ofString "__weakref__"), key := Value.str (Str.ofString "__weakref__") 491, val := Value.ref 237 }, { hash := PyData.keyHash P (Str.ofString "__doc__"), key := Value.str (Str.ofString "__doc__") 492, val := Value.none }] 4 }
noncomputable def ho25_235 : Params → Obj := fun _ => { cls := Value.type "type", data := Data.cls { name := Str.ofString "Config", bases := [Value.type "object"], mro := [Value.ref 235, Value.type "object"], ns := 234, qualname := Str.ofString "Config" }, slots := #[none, none, some (Value.str (Str.ofString "Config") 392), some (Value.str (Str.ofString "Config") 400), some (Value.builtin "object.__new__"), some (Value.bool true)] }
noncomputable def ho25_236 : Params → Obj := fun _ => { cls := Value.type "getset_descriptor", data := Data.fields #[Value.str (Str.ofString "__dict__") 488, Value.ref 235, Value.builtin "function.__dict__", Value.builtin "function.__dict__#set"] }
noncomputable def ho25_237 : Params → Obj := fun _ => { cls := Value.type "getset_descriptor", data := Data.fields #[Value.str (Str.ofString "__weakref__") 490, Value.ref 235, Value.builtin "ExceptionGroup.__weakref__", Value.none] }
noncomputable def ho25_238 : Params → Obj := fun _ => { cls := Value.type "super", data := Data.fields #[Value.ref 235, Value.ref 235, Value.ref 235] }
noncomputable def ho25_239 : Params → Obj := fun _ => { cls := Value.type "builtin_function_or_method", data := Data.fields #[Value.builtin "object.__init_subclass__", Value.ref 235] }
noncomputable def ho32_3 : Params → Obj := fun P => { cls := Value.type "dict", data := Data.dict #[{ hash := PyData.keyHash P (Str.ofString "__name__"), key := Value.str (Str.ofString "__name__") 165, val := Value.str (Str.ofString "law_rr0075_01") 571 }, { hash := PyData.keyHash P (Str.ofString "__doc__"), key := Value.str (Str.ofString "__doc__") 166, val := Value.none }, { hash := PyData.keyHash P (Str.ofString "__package__"), key := Value.str (Str.ofString "__package__") 167, val := Value.none }, { hash := PyData.keyHash P (Str.ofString "__loader__"), key := Value.str (Str.ofString "__loader__") 168, val := Value.builtin "__main__.__loader__#opaque" }, { hash := PyData.keyHash P (Str.ofString "__spec__"), key := Value.str (Str.ofString "__spec__") 169, val := Value.none }, { hash := PyData.keyHash P (Str.ofString "__annotations__"), key := Value.str (Str.ofString "__annotations__") 170, val := Value.ref 6 }, { hash := PyData.keyHash P (Str.ofString "__builtins__"), key := Value.str (Str.ofString "__builtins__") 171, val := Value.ref 4 }, { hash := PyData.keyHash P (Str.ofString "__file__"), key := Value.str (Str.ofString "__file__") 173, val := Value.str (Str.ofString "/claim/cut.py") 172 }, { hash := PyData.keyHash P (Str.ofString "__cached__"), key := Value.str (Str.ofString "__cached__") 174, val := Value.none }, { hash := PyData.keyHash P (Str.ofString "_wall"), key := Value.str (Str.ofString "_wall") 193, val := Value.ref 21 }, { hash := PyData.keyHash P (Str.ofString "KeepError"), key := Value.str (Str.ofString "KeepError") 215, val := Value.ref 31 }, { hash := PyData.keyHash P (Str.ofString "StoreError"), key := Value.str (Str.ofString "StoreError") 231, val := Value.ref 44 }, { hash := PyData.keyHash P (Str.ofString "Corrupt"), key := Value.str (Str.ofString "Corrupt") 247, val := Value.ref 56 }, { hash := PyData.keyHash P (Str.ofString "ShortOctets"), key := Value.str (Str.ofString "ShortOctets") 263, val := Value.ref 68 }, { hash := PyData.keyHash P (Str.ofString "BadOption"), key := Value.str (Str.ofString "BadOption") 279, val := Value.ref 80 }, { hash := PyData.keyHash P (Str.ofString "RaftError"), key := Value.str (Str.ofString "RaftError") 295, val := Value.ref 92 }, { hash := PyData.keyHash P (Str.ofString "LogPanic"), key := Value.str (Str.ofString "LogPanic") 311, val := Value.ref 104 }, { hash := PyData.keyHash P (Str.ofString "MAX_32"), key := Value.str (Str.ofString "MAX_32") 315, val := Value.int 4294967295 314 }, { hash := PyData.keyHash P (Str.ofString "MAX_64"), key := Value.str (Str.ofString "MAX_64") 317, val := Value.int 18446744073709551615 316 }, { hash := PyData.keyHash P (Str.ofString "put_fixed32"), key := Value.str (Str.ofString "put_fixed32") 324, val := Value.ref 113 }, { hash := PyData.keyHash P (Str.ofString "put_fixed64"), key := Value.str (Str.ofString "put_fixed64") 331, val := Value.ref 120 }, { hash := PyData.keyHash P (Str.ofString "read_fixed32"), key := Value.str (Str.ofString "read_fixed32") 339, val := Value.ref 127 }, { hash := PyData.keyHash P (Str.ofString "read_fixed64"), key := Value.str (Str.ofString "read_fixed64") 347, val := Value.ref 134 }, { hash := PyData.keyHash P (Str.ofString "NONE"), key := Value.str (Str.ofString "NONE") 351, val := Value.int 0 350 }, { hash := PyData.keyHash P (Str.ofString "rising"), key := Value.str (Str.ofString "rising") 360, val := Value.ref 141 }, { hash := PyData.keyHash P (Str.ofString "VOTE_PENDING"), key := Value.str (Str.ofString "VOTE_PENDING") 364, val := Value.int 1 363 }, { hash := PyData.keyHash P (Str.ofString "VOTE_LOST"), key := Value.str (Str.ofString "VOTE_LOST") 366, val := Value.int 2 365 }, { hash := PyData.keyHash P (Str.ofString "VOTE_WON"), key := Value.str (Str.ofString "VOTE_WON") 368, val := Value.int 3 367 }, { hash := PyData.keyHash P (Str.ofString "majority_vote"), key := Value.str (Str.ofString "majority_vote") 380, val := Value.ref 148 }, { hash := PyData.keyHash P (Str.ofString "joint_vote"), key := Value.str (Str.ofString "joint_vote") 391, val := Value.ref 155 }, { hash := PyData.keyHash P (Str.ofString "Config"), key := Value.str (Str.ofString "Config") 494, val := Value.ref 235 }, { hash := PyData.keyHash P (Str.ofString "Lease"), key := Value.str (Str.ofString "Lease") 570, val := Value.ref 291 }, { hash := PyData.keyHash P (Str.ofString "_law_draw"), key := Value.str (Str.ofString "_law_draw") 580, val := Value.ref 302 }, { hash := PyData.keyHash P (Str.ofString "_law_ids"), key := Value.str (Str.ofString "_law_ids") 586, val := Value.ref 307 }, { hash := PyData.keyHash P (Str.ofString "_law_stands"), key := Value.str (Str.ofString "_law_stands") 592, val := Value.ref 312 }, { hash := PyData.keyHash P (Str.ofString "law"), key := Value.str (Str.ofString "law") 598, val := Value.ref 317 }] 36 }
noncomputable def ho32_12 : Params → Obj := fun _ => { cls := Value.none, data := Data.fields #[Value.int 1 0, Value.int 0 0, Value.ref 20, Value.int 5 0, Value.int 0 0, Value.ref 27, Value.int 7 0, Value.int 0 0, Value.ref 40, Value.int 9 0, Value.int 0 0, Value.ref 52, Value.int 11 0, Value.int 0 0, Value.ref 64, Value.int 13 0, Value.int 0 0, Value.ref 76, Value.int 15 0, Value.int 0 0, Value.ref 88, Value.int 17 0, Value.int 0 0, Value.ref 100, Value.int 22 0, Value.int 0 0, Value.ref 112, Value.int 26 0, Value.int 0 0, Value.ref 119, Value.int 30 0, Value.int 0 0, Value.ref 126, Value.int 34 0, Value.int 0 0, Value.ref 133, Value.int 40 0, Value.int 0 0, Value.ref 140, Value.int 50 0, Value.int 0 0, Value.ref 147, Value.int 66 0, Value.int 0 0, Value.ref 154, Value.int 74 0, Value.int 0 0, Value.ref 161, Value.int 126 0, Value.int 0 0, Value.ref 245, Value.int 158 0, Value.int 0 0, Value.ref 301, Value.int 160 0, Value.int 0 0, Value.ref 306, Value.int 162 0, Value.int 0 0, Value.ref 311, Value.int 167 0, Value.int 0 0, Value.ref 316] }
noncomputable def ho32_240 : Params → Obj := fun _ => { cls := Value.type "tuple", data := Data.seq #[] }
noncomputable def ho32_241 : Params → Obj := fun _ => { cls := Value.type "builtin_function_or_method", data := Data.fields #[Value.builtin "type.__prepare__", Value.type "type"] }
noncomputable def ho32_242 : Params → Obj := fun P => { cls := Value.type "dict", data := Data.dict #[{ hash := PyData.keyHash P (Str.ofString "__module__"), key := Value.str (Str.ofString "__module__") 504, val := Value.str (Str.ofString "raftkeep.tracker") 495 }, { hash := PyData.keyHash P (Str.ofString "__qualname__"), key := Value.str (Str.ofString "__qualname__") 506, val := Value.str (Str.ofString "Lease") 505 }, { hash := PyData.keyHash P (Str.ofString "__firstlineno__"), key := Value.str (Str.ofString "__firstlineno__") 508, val := Value.int 126 507 }, { hash := PyData.keyHash P (Str.ofString "__init__"), key := Value.str (Str.ofString "__init__") 516, val := Value.ref 253 }, { hash := PyData.keyHash P (Str.ofString "tick"), key := Value.str (Str.ofString "tick") 523, val := Value.ref 260 }, { hash := PyData.keyHash P (Str.ofString "stamp"), key := Value.str (Str.ofString "stamp") 530, val := Value.ref 267 }, { hash := PyData.keyHash P (Str.ofString "hear"), key := Value.str (Str.ofString "hear") 540, val := Value.ref 274 }, { hash := PyData.keyHash P (Str.ofString "give_up"), key := Value.str (Str.ofString "give_up") 547, val := Value.ref 281 }, { hash := PyData.keyHash P (Str.ofString "holds"), key := Value.str (Str.ofString "holds") 558, val := Value.ref 288 }, { hash := PyData.keyHash P (Str.ofString "__static_attributes__"), key := Value.str (Str.ofString "__static_attributes__") 563, val := Value.ref 289 }] 10 }
noncomputable def ho32_243 : Params → Obj := fun _ => { cls := Value.type "tuple", data := Data.seq #[] }
noncomputable def ho32_244 : Params → Obj := fun _ => { cls := Value.none, data := Data.fields #[Value.int 128 0, Value.int 4 0, Value.ref 252, Value.int 134 0, Value.int 4 0, Value.ref 259, Value.int 137 0, Value.int 4 0, Value.ref 266, Value.int 140 0, Value.int 4 0, Value.ref 273, Value.int 148 0, Value.int 4 0, Value.ref 280, Value.int 151 0, Value.int 4 0, Value.ref 287] }
noncomputable def ho32_245 : Params → Obj := fun _ => { cls := Value.type "code", data := Data.fields #[Value.str (Str.ofString "Lease") 499, Value.str (Str.ofString "Lease") 500, Value.str (Str.ofString "/claim/cut.py") 501, Value.int 126 0, Value.int 0 0, Value.int 0 0, Value.int 0 0, Value.int 0 0, Value.ref 243, Value.bool false, Value.int 181 0, Value.ref 244, Value.none, Value.none, Value.none, Value.none, Value.int 502 0, Value.int 126 0, Value.str (Str.ofString "/claim/cut.py") 503] }
noncomputable def ho32_246 : Params → Obj := fun _ => { cls := Value.type "frame", slots := #[some (Value.ref 245), some (Value.ref 3), some (Value.ref 242), none, some (Value.str (Str.ofString "raftkeep.tracker") 495), none, some (Value.ref 0)] }
noncomputable def ho32_247 : Params → Obj := fun _ => { cls := Value.type "tuple", data := Data.seq #[] }
noncomputable def ho32_248 : Params → Obj := fun _ => { cls := Value.none, data := Data.fields #[] }
noncomputable def ho32_249 : Params → Obj := fun _ => { cls := Value.type "tuple", data := Data.seq #[Value.str (Str.ofString "self") 512, Value.str (Str.ofString "span") 513] }
noncomputable def ho32_250 : Params → Obj := fun _ => { cls := Value.type "tuple", data := Data.seq #[] }
noncomputable def ho32_251 : Params → Obj := fun _ => { cls := Value.none, data := Data.func { name := Str.ofString "__init__", qualname := Str.ofString "Lease.__init__", params := fA (hme 27 0), body := fB (hme 27 0), scope := fS (hme 27 0), globals := 0, closure := [], defaults := Value.none, kwdefaults := Value.none } }
noncomputable def ho32_252 : Params → Obj := fun _ => { cls := Value.type "code", data := Data.fields #[Value.str (Str.ofString "__init__") 509, Value.str (Str.ofString "Lease.__init__") 510, Value.str (Str.ofString "/claim/cut.py") 511, Value.int 128 0, Value.int 2 0, Value.int 0 0, Value.int 0 0, Value.int 3 0, Value.ref 247, Value.bool true, Value.int 181 0, Value.ref 248, Value.none, Value.ref 249, Value.ref 250, Value.ref 251, Value.int 514 0, Value.int 128 0, Value.str (Str.ofString "/claim/cut.py") 515] }
noncomputable def ho32_253 : Params → Obj := fun _ => { cls := Value.type "function", data := Data.func { name := Str.ofString "__init__", qualname := Str.ofString "Lease.__init__", params := fA (hme 27 0), body := fB (hme 27 0), scope := fS (hme 27 0), globals := 3, closure := [], defaults := Value.none, kwdefaults := Value.none, pyModule := Value.str (Str.ofString "raftkeep.tracker") 495, code := Value.ref 252 } }
noncomputable def ho32_254 : Params → Obj := fun _ => { cls := Value.type "tuple", data := Data.seq #[] }
noncomputable def ho32_255 : Params → Obj := fun _ => { cls := Value.none, data := Data.fields #[] }
noncomputable def ho32_256 : Params → Obj := fun _ => { cls := Value.type "tuple", data := Data.seq #[Value.str (Str.ofString "self") 520] }
noncomputable def ho32_257 : Params → Obj := fun _ => { cls := Value.type "tuple", data := Data.seq #[] }
noncomputable def ho32_258 : Params → Obj := fun _ => { cls := Value.none, data := Data.func { name := Str.ofString "tick", qualname := Str.ofString "Lease.tick", params := fA (hme 27 1), body := fB (hme 27 1), scope := fS (hme 27 1), globals := 0, closure := [], defaults := Value.none, kwdefaults := Value.none } }
noncomputable def ho32_259 : Params → Obj := fun _ => { cls := Value.type "code", data := Data.fields #[Value.str (Str.ofString "tick") 517, Value.str (Str.ofString "Lease.tick") 518, Value.str (Str.ofString "/claim/cut.py") 519, Value.int 134 0, Value.int 1 0, Value.int 0 0, Value.int 0 0, Value.int 3 0, Value.ref 254, Value.bool true, Value.int 181 0, Value.ref 255, Value.none, Value.ref 256, Value.ref 257, Value.ref 258, Value.int 521 0, Value.int 134 0, Value.str (Str.ofString "/claim/cut.py") 522] }
noncomputable def ho32_260 : Params → Obj := fun _ => { cls := Value.type "function", data := Data.func { name := Str.ofString "tick", qualname := Str.ofString "Lease.tick", params := fA (hme 27 1), body := fB (hme 27 1), scope := fS (hme 27 1), globals := 3, closure := [], defaults := Value.none, kwdefaults := Value.none, pyModule := Value.str (Str.ofString "raftkeep.tracker") 495, code := Value.ref 259 } }
noncomputable def ho32_261 : Params → Obj := fun _ => { cls := Value.type "tuple", data := Data.seq #[] }
noncomputable def ho32_262 : Params → Obj := fun _ => { cls := Value.none, data := Data.fields #[] }
noncomputable def ho32_263 : Params → Obj := fun _ => { cls := Value.type "tuple", data := Data.seq #[Value.str (Str.ofString "self") 527] }
noncomputable def ho32_264 : Params → Obj := fun _ => { cls := Value.type "tuple", data := Data.seq #[] }
noncomputable def ho32_265 : Params → Obj := fun _ => { cls := Value.none, data := Data.func { name := Str.ofString "stamp", qualname := Str.ofString "Lease.stamp", params := fA (hme 27 2), body := fB (hme 27 2), scope := fS (hme 27 2), globals := 0, closure := [], defaults := Value.none, kwdefaults := Value.none } }
noncomputable def ho32_266 : Params → Obj := fun _ => { cls := Value.type "code", data := Data.fields #[Value.str (Str.ofString "stamp") 524, Value.str (Str.ofString "Lease.stamp") 525, Value.str (Str.ofString "/claim/cut.py") 526, Value.int 137 0, Value.int 1 0, Value.int 0 0, Value.int 0 0, Value.int 3 0, Value.ref 261, Value.bool true, Value.int 181 0, Value.ref 262, Value.none, Value.ref 263, Value.ref 264, Value.ref 265, Value.int 528 0, Value.int 137 0, Value.str (Str.ofString "/claim/cut.py") 529] }
noncomputable def ho32_267 : Params → Obj := fun _ => { cls := Value.type "function", data := Data.func { name := Str.ofString "stamp", qualname := Str.ofString "Lease.stamp", params := fA (hme 27 2), body := fB (hme 27 2), scope := fS (hme 27 2), globals := 3, closure := [], defaults := Value.none, kwdefaults := Value.none, pyModule := Value.str (Str.ofString "raftkeep.tracker") 495, code := Value.ref 266 } }
noncomputable def ho32_268 : Params → Obj := fun _ => { cls := Value.type "tuple", data := Data.seq #[] }
noncomputable def ho32_269 : Params → Obj := fun _ => { cls := Value.none, data := Data.fields #[] }
noncomputable def ho32_270 : Params → Obj := fun _ => { cls := Value.type "tuple", data := Data.seq #[Value.str (Str.ofString "self") 534, Value.str (Str.ofString "frm") 535, Value.str (Str.ofString "context") 536, Value.str (Str.ofString "sent") 537] }
noncomputable def ho32_271 : Params → Obj := fun _ => { cls := Value.type "tuple", data := Data.seq #[] }
noncomputable def ho32_272 : Params → Obj := fun _ => { cls := Value.none, data := Data.func { name := Str.ofString "hear", qualname := Str.ofString "Lease.hear", params := fA (hme 27 3), body := fB (hme 27 3), scope := fS (hme 27 3), globals := 0, closure := [], defaults := Value.none, kwdefaults := Value.none } }
noncomputable def ho32_273 : Params → Obj := fun _ => { cls := Value.type "code", data := Data.fields #[Value.str (Str.ofString "hear") 531, Value.str (Str.ofString "Lease.hear") 532, Value.str (Str.ofString "/claim/cut.py") 533, Value.int 140 0, Value.int 3 0, Value.int 0 0, Value.int 0 0, Value.int 3 0, Value.ref 268, Value.bool true, Value.int 181 0, Value.ref 269, Value.none, Value.ref 270, Value.ref 271, Value.ref 272, Value.int 538 0, Value.int 140 0, Value.str (Str.ofString "/claim/cut.py") 539] }
noncomputable def ho32_274 : Params → Obj := fun _ => { cls := Value.type "function", data := Data.func { name := Str.ofString "hear", qualname := Str.ofString "Lease.hear", params := fA (hme 27 3), body := fB (hme 27 3), scope := fS (hme 27 3), globals := 3, closure := [], defaults := Value.none, kwdefaults := Value.none, pyModule := Value.str (Str.ofString "raftkeep.tracker") 495, code := Value.ref 273 } }
noncomputable def ho32_275 : Params → Obj := fun _ => { cls := Value.type "tuple", data := Data.seq #[] }
noncomputable def ho32_276 : Params → Obj := fun _ => { cls := Value.none, data := Data.fields #[] }
noncomputable def ho32_277 : Params → Obj := fun _ => { cls := Value.type "tuple", data := Data.seq #[Value.str (Str.ofString "self") 544] }
noncomputable def ho32_278 : Params → Obj := fun _ => { cls := Value.type "tuple", data := Data.seq #[] }
noncomputable def ho32_279 : Params → Obj := fun _ => { cls := Value.none, data := Data.func { name := Str.ofString "give_up", qualname := Str.ofString "Lease.give_up", params := fA (hme 27 4), body := fB (hme 27 4), scope := fS (hme 27 4), globals := 0, closure := [], defaults := Value.none, kwdefaults := Value.none } }
noncomputable def ho32_280 : Params → Obj := fun _ => { cls := Value.type "code", data := Data.fields #[Value.str (Str.ofString "give_up") 541, Value.str (Str.ofString "Lease.give_up") 542, Value.str (Str.ofString "/claim/cut.py") 543, Value.int 148 0, Value.int 1 0, Value.int 0 0, Value.int 0 0, Value.int 3 0, Value.ref 275, Value.bool true, Value.int 181 0, Value.ref 276, Value.none, Value.ref 277, Value.ref 278, Value.ref 279, Value.int 545 0, Value.int 148 0, Value.str (Str.ofString "/claim/cut.py") 546] }
noncomputable def ho32_281 : Params → Obj := fun _ => { cls := Value.type "function", data := Data.func { name := Str.ofString "give_up", qualname := Str.ofString "Lease.give_up", params := fA (hme 27 4), body := fB (hme 27 4), scope := fS (hme 27 4), globals := 3, closure := [], defaults := Value.none, kwdefaults := Value.none, pyModule := Value.str (Str.ofString "raftkeep.tracker") 495, code := Value.ref 280 } }
noncomputable def ho32_282 : Params → Obj := fun _ => { cls := Value.type "tuple", data := Data.seq #[] }
noncomputable def ho32_283 : Params → Obj := fun _ => { cls := Value.none, data := Data.fields #[] }
noncomputable def ho32_284 : Params → Obj := fun _ => { cls := Value.type "tuple", data := Data.seq #[Value.str (Str.ofString "self") 551, Value.str (Str.ofString "config") 552, Value.str (Str.ofString "nid") 553, Value.str (Str.ofString "near") 554, Value.str (Str.ofString "other") 555] }
noncomputable def ho32_285 : Params → Obj := fun _ => { cls := Value.type "tuple", data := Data.seq #[] }
noncomputable def ho32_286 : Params → Obj := fun _ => { cls := Value.none, data := Data.func { name := Str.ofString "holds", qualname := Str.ofString "Lease.holds", params := fA (hme 27 5), body := fB (hme 27 5), scope := fS (hme 27 5), globals := 0, closure := [], defaults := Value.none, kwdefaults := Value.none } }
noncomputable def ho32_287 : Params → Obj := fun _ => { cls := Value.type "code", data := Data.fields #[Value.str (Str.ofString "holds") 548, Value.str (Str.ofString "Lease.holds") 549, Value.str (Str.ofString "/claim/cut.py") 550, Value.int 151 0, Value.int 3 0, Value.int 0 0, Value.int 0 0, Value.int 3 0, Value.ref 282, Value.bool true, Value.int 181 0, Value.ref 283, Value.none, Value.ref 284, Value.ref 285, Value.ref 286, Value.int 556 0, Value.int 151 0, Value.str (Str.ofString "/claim/cut.py") 557] }
noncomputable def ho32_288 : Params → Obj := fun _ => { cls := Value.type "function", data := Data.func { name := Str.ofString "holds", qualname := Str.ofString "Lease.holds", params := fA (hme 27 5), body := fB (hme 27 5), scope := fS (hme 27 5), globals := 3, closure := [], defaults := Value.none, kwdefaults := Value.none, pyModule := Value.str (Str.ofString "raftkeep.tracker") 495, code := Value.ref 287 } }
noncomputable def ho32_289 : Params → Obj := fun _ => { cls := Value.type "tuple", data := Data.seq #[Value.str (Str.ofString "clock") 559, Value.str (Str.ofString "given_up") 560, Value.str (Str.ofString "heard") 561, Value.str (Str.ofString "span") 562] }
noncomputable def ho32_290 : Params → Obj := fun P => { cls := Value.type "dict", data := Data.dict #[{ hash := PyData.keyHash P (Str.ofString "__module__"), key := Value.str (Str.ofString "__module__") 504, val := Value.str (Str.ofString "raftkeep.tracker") 495 }, { hash := PyData.keyHash P (Str.ofString "__firstlineno__"), key := Value.str (Str.ofString "__firstlineno__") 508, val := Value.int 126 507 }, { hash := PyData.keyHash P (Str.ofString "__init__"), key := Value.str (Str.ofString "__init__") 516, val := Value.ref 253 }, { hash := PyData.keyHash P (Str.ofString "tick"), key := Value.str (Str.ofString "tick") 523, val := Value.ref 260 }, { hash := PyData.keyHash P (Str.ofString "stamp"), key := Value.str (Str.ofString "stamp") 530, val := Value.ref 267 }, { hash := PyData.keyHash P (Str.ofString "hear"), key := Value.str (Str.ofString "hear") 540, val := Value.ref 274 }, { hash := PyData.keyHash P (Str.ofString "give_up"), key := Value.str (Str.ofString "give_up") 547, val := Value.ref 281 }, { hash := PyData.keyHash P (Str.ofString "holds"), key := Value.str (Str.ofString "holds") 558, val := Value.ref 288 }, { hash := PyData.keyHash P (Str.ofString "__static_attributes__"), key := Value.str (Str.ofString "__static_attributes__") 563, val := Value.ref 289 }, { hash := PyData.keyHash P (Str.ofString "__dict__"), key := Value.str (Str.ofString "__dict__") 565, val := Value.ref 292 }, { hash := PyData.keyHash P (Str.ofString "__weakref__"), key := Value.str (Str.ofString "__weakref__") 567, val := Value.ref 293 }, { hash := PyData.keyHash P (Str.ofString "__doc__"), key := Value.str (Str.ofString "__doc__") 568, val := Value.none }] 4 }
noncomputable def ho32_291 : Params → Obj := fun _ => { cls := Value.type "type", data := Data.cls { name := Str.ofString "Lease", bases := [Value.type "object"], mro := [Value.ref 291, Value.type "object"], ns := 290, qualname := Str.ofString "Lease" }, slots := #[none, none, some (Value.str (Str.ofString "Lease") 497), some (Value.str (Str.ofString "Lease") 505), some (Value.builtin "object.__new__"), some (Value.bool true)] }
noncomputable def ho32_292 : Params → Obj := fun _ => { cls := Value.type "getset_descriptor", data := Data.fields #[Value.str (Str.ofString "__dict__") 564, Value.ref 291, Value.builtin "function.__dict__", Value.builtin "function.__dict__#set"] }
noncomputable def ho32_293 : Params → Obj := fun _ => { cls := Value.type "getset_descriptor", data := Data.fields #[Value.str (Str.ofString "__weakref__") 566, Value.ref 291, Value.builtin "ExceptionGroup.__weakref__", Value.none] }
noncomputable def ho32_294 : Params → Obj := fun _ => { cls := Value.type "super", data := Data.fields #[Value.ref 291, Value.ref 291, Value.ref 291] }
noncomputable def ho32_295 : Params → Obj := fun _ => { cls := Value.type "builtin_function_or_method", data := Data.fields #[Value.builtin "object.__init_subclass__", Value.ref 291] }
noncomputable def ho32_296 : Params → Obj := fun _ => { cls := Value.type "tuple", data := Data.seq #[] }
noncomputable def ho32_297 : Params → Obj := fun _ => { cls := Value.none, data := Data.fields #[] }
noncomputable def ho32_298 : Params → Obj := fun _ => { cls := Value.type "tuple", data := Data.seq #[Value.str (Str.ofString "nums") 576, Value.str (Str.ofString "i") 577] }
noncomputable def ho32_299 : Params → Obj := fun _ => { cls := Value.type "tuple", data := Data.seq #[] }
noncomputable def ho32_300 : Params → Obj := fun _ => { cls := Value.none, data := Data.func { name := Str.ofString "_law_draw", qualname := Str.ofString "_law_draw", params := fA (hst 29), body := fB (hst 29), scope := fS (hst 29), globals := 0, closure := [], defaults := Value.none, kwdefaults := Value.none } }
noncomputable def ho32_301 : Params → Obj := fun _ => { cls := Value.type "code", data := Data.fields #[Value.str (Str.ofString "_law_draw") 573, Value.str (Str.ofString "_law_draw") 574, Value.str (Str.ofString "/claim/cut.py") 575, Value.int 158 0, Value.int 2 0, Value.int 0 0, Value.int 0 0, Value.int 3 0, Value.ref 296, Value.bool true, Value.int 181 0, Value.ref 297, Value.none, Value.ref 298, Value.ref 299, Value.ref 300, Value.int 578 0, Value.int 158 0, Value.str (Str.ofString "/claim/cut.py") 579] }
noncomputable def ho32_302 : Params → Obj := fun _ => { cls := Value.type "function", data := Data.func { name := Str.ofString "_law_draw", qualname := Str.ofString "_law_draw", params := fA (hst 29), body := fB (hst 29), scope := fS (hst 29), globals := 3, closure := [], defaults := Value.none, kwdefaults := Value.none, pyModule := Value.str (Str.ofString "law_rr0075_01") 571, code := Value.ref 301 } }
noncomputable def ho32_303 : Params → Obj := fun _ => { cls := Value.type "tuple", data := Data.seq #[] }
noncomputable def ho32_304 : Params → Obj := fun _ => { cls := Value.none, data := Data.fields #[] }
noncomputable def ho32_305 : Params → Obj := fun _ => { cls := Value.none, data := Data.func { name := Str.ofString "_law_ids", qualname := Str.ofString "_law_ids", params := fA (hst 30), body := fB (hst 30), scope := fS (hst 30), globals := 0, closure := [], defaults := Value.none, kwdefaults := Value.none } }
noncomputable def ho32_306 : Params → Obj := fun _ => { cls := Value.type "code", data := Data.fields #[Value.str (Str.ofString "_law_ids") 581, Value.str (Str.ofString "_law_ids") 582, Value.str (Str.ofString "/claim/cut.py") 583, Value.int 160 0, Value.int 1 0, Value.int 0 0, Value.int 0 0, Value.int 3 0, Value.ref 303, Value.bool true, Value.int 181 0, Value.ref 304, Value.none, Value.none, Value.none, Value.ref 305, Value.int 584 0, Value.int 160 0, Value.str (Str.ofString "/claim/cut.py") 585] }
noncomputable def ho32_307 : Params → Obj := fun _ => { cls := Value.type "function", data := Data.func { name := Str.ofString "_law_ids", qualname := Str.ofString "_law_ids", params := fA (hst 30), body := fB (hst 30), scope := fS (hst 30), globals := 3, closure := [], defaults := Value.none, kwdefaults := Value.none, pyModule := Value.str (Str.ofString "law_rr0075_01") 571, code := Value.ref 306 } }
noncomputable def ho32_308 : Params → Obj := fun _ => { cls := Value.type "tuple", data := Data.seq #[] }
noncomputable def ho32_309 : Params → Obj := fun _ => { cls := Value.none, data := Data.fields #[] }
noncomputable def ho32_310 : Params → Obj := fun _ => { cls := Value.none, data := Data.func { name := Str.ofString "_law_stands", qualname := Str.ofString "_law_stands", params := fA (hst 31), body := fB (hst 31), scope := fS (hst 31), globals := 0, closure := [], defaults := Value.none, kwdefaults := Value.none } }
noncomputable def ho32_311 : Params → Obj := fun _ => { cls := Value.type "code", data := Data.fields #[Value.str (Str.ofString "_law_stands") 587, Value.str (Str.ofString "_law_stands") 588, Value.str (Str.ofString "/claim/cut.py") 589, Value.int 162 0, Value.int 6 0, Value.int 0 0, Value.int 0 0, Value.int 3 0, Value.ref 308, Value.bool true, Value.int 181 0, Value.ref 309, Value.none, Value.none, Value.none, Value.ref 310, Value.int 590 0, Value.int 162 0, Value.str (Str.ofString "/claim/cut.py") 591] }
noncomputable def ho32_312 : Params → Obj := fun _ => { cls := Value.type "function", data := Data.func { name := Str.ofString "_law_stands", qualname := Str.ofString "_law_stands", params := fA (hst 31), body := fB (hst 31), scope := fS (hst 31), globals := 3, closure := [], defaults := Value.none, kwdefaults := Value.none, pyModule := Value.str (Str.ofString "law_rr0075_01") 571, code := Value.ref 311 } }
noncomputable def ho32_313 : Params → Obj := fun _ => { cls := Value.type "tuple", data := Data.seq #[] }
noncomputable def ho32_314 : Params → Obj := fun _ => { cls := Value.none, data := Data.fields #[] }
noncomputable def ho32_315 : Params → Obj := fun _ => { cls := Value.none, data := Data.func { name := Str.ofString "law", qualname := Str.ofString "law", params := fA (hst 32), body := fB (hst 32), scope := fS (hst 32), globals := 0, closure := [], defaults := Value.none, kwdefaults := Value.none } }
noncomputable def ho32_316 : Params → Obj := fun _ => { cls := Value.type "code", data := Data.fields #[Value.str (Str.ofString "law") 593, Value.str (Str.ofString "law") 594, Value.str (Str.ofString "/claim/cut.py") 595, Value.int 167 0, Value.int 1 0, Value.int 0 0, Value.int 0 0, Value.int 3 0, Value.ref 313, Value.bool true, Value.int 181 0, Value.ref 314, Value.none, Value.none, Value.none, Value.ref 315, Value.int 596 0, Value.int 167 0, Value.str (Str.ofString "/claim/cut.py") 597] }
noncomputable def ho32_317 : Params → Obj := fun _ => { cls := Value.type "function", data := Data.func { name := Str.ofString "law", qualname := Str.ofString "law", params := fA (hst 32), body := fB (hst 32), scope := fS (hst 32), globals := 3, closure := [], defaults := Value.none, kwdefaults := Value.none, pyModule := Value.str (Str.ofString "law_rr0075_01") 571, code := Value.ref 316 } }
noncomputable def ht8 (P : Params) : BT := .node (boot_o_0 P) (.node (ho8_1 P) (.node (ho8_3 P) (.node (ho8_7 P) (.node (ho8_15 P) (.node (ho8_31 P) (.node (ho8_63 P) .nil .nil) (.node (ho8_95 P) .nil .nil)) (.node (ho8_47 P) (.node (ho8_79 P) .nil .nil) .nil)) (.node (ho8_23 P) (.node (ho8_39 P) (.node (ho8_71 P) .nil .nil) (.node (ho8_103 P) .nil .nil)) (.node (ho8_55 P) (.node (ho8_87 P) .nil .nil) .nil))) (.node (ho8_11 P) (.node (ho8_19 P) (.node (ho8_35 P) (.node (ho8_67 P) .nil .nil) (.node (ho8_99 P) .nil .nil)) (.node (ho8_51 P) (.node (ho8_83 P) .nil .nil) .nil)) (.node (ho8_27 P) (.node (ho8_43 P) (.node (ho8_75 P) .nil .nil) .nil) (.node (ho8_59 P) (.node (ho8_91 P) .nil .nil) .nil)))) (.node (ho8_5 P) (.node (ho8_9 P) (.node (ho8_17 P) (.node (ho8_33 P) (.node (ho8_65 P) .nil .nil) (.node (ho8_97 P) .nil .nil)) (.node (ho8_49 P) (.node (ho8_81 P) .nil .nil) .nil)) (.node (ho8_25 P) (.node (ho8_41 P) (.node (ho8_73 P) .nil .nil) (.node (ho8_105 P) .nil .nil)) (.node (ho8_57 P) (.node (ho8_89 P) .nil .nil) .nil))) (.node (ho8_13 P) (.node (ho8_21 P) (.node (ho8_37 P) (.node (ho8_69 P) .nil .nil) (.node (ho8_101 P) .nil .nil)) (.node (ho8_53 P) (.node (ho8_85 P) .nil .nil) .nil)) (.node (ho8_29 P) (.node (ho8_45 P) (.node (ho8_77 P) .nil .nil) .nil) (.node (ho8_61 P) (.node (ho8_93 P) .nil .nil) .nil))))) (.node (ho8_2 P) (.node (ho8_4 P) (.node (ho8_8 P) (.node (ho8_16 P) (.node (ho8_32 P) (.node (ho8_64 P) .nil .nil) (.node (ho8_96 P) .nil .nil)) (.node (ho8_48 P) (.node (ho8_80 P) .nil .nil) .nil)) (.node (ho8_24 P) (.node (ho8_40 P) (.node (ho8_72 P) .nil .nil) (.node (ho8_104 P) .nil .nil)) (.node (ho8_56 P) (.node (ho8_88 P) .nil .nil) .nil))) (.node (ho8_12 P) (.node (ho8_20 P) (.node (ho8_36 P) (.node (ho8_68 P) .nil .nil) (.node (ho8_100 P) .nil .nil)) (.node (ho8_52 P) (.node (ho8_84 P) .nil .nil) .nil)) (.node (ho8_28 P) (.node (ho8_44 P) (.node (ho8_76 P) .nil .nil) .nil) (.node (ho8_60 P) (.node (ho8_92 P) .nil .nil) .nil)))) (.node (ho8_6 P) (.node (ho8_10 P) (.node (ho8_18 P) (.node (ho8_34 P) (.node (ho8_66 P) .nil .nil) (.node (ho8_98 P) .nil .nil)) (.node (ho8_50 P) (.node (ho8_82 P) .nil .nil) .nil)) (.node (ho8_26 P) (.node (ho8_42 P) (.node (ho8_74 P) .nil .nil) (.node (ho8_106 P) .nil .nil)) (.node (ho8_58 P) (.node (ho8_90 P) .nil .nil) .nil))) (.node (ho8_14 P) (.node (ho8_22 P) (.node (ho8_38 P) (.node (ho8_70 P) .nil .nil) (.node (ho8_102 P) .nil .nil)) (.node (ho8_54 P) (.node (ho8_86 P) .nil .nil) .nil)) (.node (ho8_30 P) (.node (ho8_46 P) (.node (ho8_78 P) .nil .nil) .nil) (.node (ho8_62 P) (.node (ho8_94 P) .nil .nil) .nil)))))
noncomputable def ht25 (P : Params) : BT := .node (boot_o_0 P) (.node (ho8_1 P) (.node (ho25_3 P) (.node (ho8_7 P) (.node (ho8_15 P) (.node (ho8_31 P) (.node (ho8_63 P) (.node (ho25_127 P) .nil .nil) (.node (ho25_191 P) .nil .nil)) (.node (ho8_95 P) (.node (ho25_159 P) .nil .nil) (.node (ho25_223 P) .nil .nil))) (.node (ho8_47 P) (.node (ho8_79 P) (.node (ho25_143 P) .nil .nil) (.node (ho25_207 P) .nil .nil)) (.node (ho25_111 P) (.node (ho25_175 P) .nil .nil) (.node (ho25_239 P) .nil .nil)))) (.node (ho8_23 P) (.node (ho8_39 P) (.node (ho8_71 P) (.node (ho25_135 P) .nil .nil) (.node (ho25_199 P) .nil .nil)) (.node (ho8_103 P) (.node (ho25_167 P) .nil .nil) (.node (ho25_231 P) .nil .nil))) (.node (ho8_55 P) (.node (ho8_87 P) (.node (ho25_151 P) .nil .nil) (.node (ho25_215 P) .nil .nil)) (.node (ho25_119 P) (.node (ho25_183 P) .nil .nil) .nil)))) (.node (ho8_11 P) (.node (ho8_19 P) (.node (ho8_35 P) (.node (ho8_67 P) (.node (ho25_131 P) .nil .nil) (.node (ho25_195 P) .nil .nil)) (.node (ho8_99 P) (.node (ho25_163 P) .nil .nil) (.node (ho25_227 P) .nil .nil))) (.node (ho8_51 P) (.node (ho8_83 P) (.node (ho25_147 P) .nil .nil) (.node (ho25_211 P) .nil .nil)) (.node (ho25_115 P) (.node (ho25_179 P) .nil .nil) .nil))) (.node (ho8_27 P) (.node (ho8_43 P) (.node (ho8_75 P) (.node (ho25_139 P) .nil .nil) (.node (ho25_203 P) .nil .nil)) (.node (ho25_107 P) (.node (ho25_171 P) .nil .nil) (.node (ho25_235 P) .nil .nil))) (.node (ho8_59 P) (.node (ho8_91 P) (.node (ho25_155 P) .nil .nil) (.node (ho25_219 P) .nil .nil)) (.node (ho25_123 P) (.node (ho25_187 P) .nil .nil) .nil))))) (.node (ho8_5 P) (.node (ho8_9 P) (.node (ho8_17 P) (.node (ho8_33 P) (.node (ho8_65 P) (.node (ho25_129 P) .nil .nil) (.node (ho25_193 P) .nil .nil)) (.node (ho8_97 P) (.node (ho25_161 P) .nil .nil) (.node (ho25_225 P) .nil .nil))) (.node (ho8_49 P) (.node (ho8_81 P) (.node (ho25_145 P) .nil .nil) (.node (ho25_209 P) .nil .nil)) (.node (ho25_113 P) (.node (ho25_177 P) .nil .nil) .nil))) (.node (ho8_25 P) (.node (ho8_41 P) (.node (ho8_73 P) (.node (ho25_137 P) .nil .nil) (.node (ho25_201 P) .nil .nil)) (.node (ho8_105 P) (.node (ho25_169 P) .nil .nil) (.node (ho25_233 P) .nil .nil))) (.node (ho8_57 P) (.node (ho8_89 P) (.node (ho25_153 P) .nil .nil) (.node (ho25_217 P) .nil .nil)) (.node (ho25_121 P) (.node (ho25_185 P) .nil .nil) .nil)))) (.node (ho8_13 P) (.node (ho8_21 P) (.node (ho8_37 P) (.node (ho8_69 P) (.node (ho25_133 P) .nil .nil) (.node (ho25_197 P) .nil .nil)) (.node (ho8_101 P) (.node (ho25_165 P) .nil .nil) (.node (ho25_229 P) .nil .nil))) (.node (ho8_53 P) (.node (ho8_85 P) (.node (ho25_149 P) .nil .nil) (.node (ho25_213 P) .nil .nil)) (.node (ho25_117 P) (.node (ho25_181 P) .nil .nil) .nil))) (.node (ho8_29 P) (.node (ho8_45 P) (.node (ho8_77 P) (.node (ho25_141 P) .nil .nil) (.node (ho25_205 P) .nil .nil)) (.node (ho25_109 P) (.node (ho25_173 P) .nil .nil) (.node (ho25_237 P) .nil .nil))) (.node (ho8_61 P) (.node (ho8_93 P) (.node (ho25_157 P) .nil .nil) (.node (ho25_221 P) .nil .nil)) (.node (ho25_125 P) (.node (ho25_189 P) .nil .nil) .nil)))))) (.node (ho8_2 P) (.node (ho8_4 P) (.node (ho8_8 P) (.node (ho8_16 P) (.node (ho8_32 P) (.node (ho8_64 P) (.node (ho25_128 P) .nil .nil) (.node (ho25_192 P) .nil .nil)) (.node (ho8_96 P) (.node (ho25_160 P) .nil .nil) (.node (ho25_224 P) .nil .nil))) (.node (ho8_48 P) (.node (ho8_80 P) (.node (ho25_144 P) .nil .nil) (.node (ho25_208 P) .nil .nil)) (.node (ho25_112 P) (.node (ho25_176 P) .nil .nil) .nil))) (.node (ho8_24 P) (.node (ho8_40 P) (.node (ho8_72 P) (.node (ho25_136 P) .nil .nil) (.node (ho25_200 P) .nil .nil)) (.node (ho8_104 P) (.node (ho25_168 P) .nil .nil) (.node (ho25_232 P) .nil .nil))) (.node (ho8_56 P) (.node (ho8_88 P) (.node (ho25_152 P) .nil .nil) (.node (ho25_216 P) .nil .nil)) (.node (ho25_120 P) (.node (ho25_184 P) .nil .nil) .nil)))) (.node (ho25_12 P) (.node (ho8_20 P) (.node (ho8_36 P) (.node (ho8_68 P) (.node (ho25_132 P) .nil .nil) (.node (ho25_196 P) .nil .nil)) (.node (ho8_100 P) (.node (ho25_164 P) .nil .nil) (.node (ho25_228 P) .nil .nil))) (.node (ho8_52 P) (.node (ho8_84 P) (.node (ho25_148 P) .nil .nil) (.node (ho25_212 P) .nil .nil)) (.node (ho25_116 P) (.node (ho25_180 P) .nil .nil) .nil))) (.node (ho8_28 P) (.node (ho8_44 P) (.node (ho8_76 P) (.node (ho25_140 P) .nil .nil) (.node (ho25_204 P) .nil .nil)) (.node (ho25_108 P) (.node (ho25_172 P) .nil .nil) (.node (ho25_236 P) .nil .nil))) (.node (ho8_60 P) (.node (ho8_92 P) (.node (ho25_156 P) .nil .nil) (.node (ho25_220 P) .nil .nil)) (.node (ho25_124 P) (.node (ho25_188 P) .nil .nil) .nil))))) (.node (ho8_6 P) (.node (ho8_10 P) (.node (ho8_18 P) (.node (ho8_34 P) (.node (ho8_66 P) (.node (ho25_130 P) .nil .nil) (.node (ho25_194 P) .nil .nil)) (.node (ho8_98 P) (.node (ho25_162 P) .nil .nil) (.node (ho25_226 P) .nil .nil))) (.node (ho8_50 P) (.node (ho8_82 P) (.node (ho25_146 P) .nil .nil) (.node (ho25_210 P) .nil .nil)) (.node (ho25_114 P) (.node (ho25_178 P) .nil .nil) .nil))) (.node (ho8_26 P) (.node (ho8_42 P) (.node (ho8_74 P) (.node (ho25_138 P) .nil .nil) (.node (ho25_202 P) .nil .nil)) (.node (ho8_106 P) (.node (ho25_170 P) .nil .nil) (.node (ho25_234 P) .nil .nil))) (.node (ho8_58 P) (.node (ho8_90 P) (.node (ho25_154 P) .nil .nil) (.node (ho25_218 P) .nil .nil)) (.node (ho25_122 P) (.node (ho25_186 P) .nil .nil) .nil)))) (.node (ho8_14 P) (.node (ho8_22 P) (.node (ho8_38 P) (.node (ho8_70 P) (.node (ho25_134 P) .nil .nil) (.node (ho25_198 P) .nil .nil)) (.node (ho8_102 P) (.node (ho25_166 P) .nil .nil) (.node (ho25_230 P) .nil .nil))) (.node (ho8_54 P) (.node (ho8_86 P) (.node (ho25_150 P) .nil .nil) (.node (ho25_214 P) .nil .nil)) (.node (ho25_118 P) (.node (ho25_182 P) .nil .nil) .nil))) (.node (ho8_30 P) (.node (ho8_46 P) (.node (ho8_78 P) (.node (ho25_142 P) .nil .nil) (.node (ho25_206 P) .nil .nil)) (.node (ho25_110 P) (.node (ho25_174 P) .nil .nil) (.node (ho25_238 P) .nil .nil))) (.node (ho8_62 P) (.node (ho8_94 P) (.node (ho25_158 P) .nil .nil) (.node (ho25_222 P) .nil .nil)) (.node (ho25_126 P) (.node (ho25_190 P) .nil .nil) .nil))))))
noncomputable def ht32 (P : Params) : BT := .node (boot_o_0 P) (.node (ho8_1 P) (.node (ho32_3 P) (.node (ho8_7 P) (.node (ho8_15 P) (.node (ho8_31 P) (.node (ho8_63 P) (.node (ho25_127 P) (.node (ho32_255 P) .nil .nil) .nil) (.node (ho25_191 P) .nil .nil)) (.node (ho8_95 P) (.node (ho25_159 P) (.node (ho32_287 P) .nil .nil) .nil) (.node (ho25_223 P) .nil .nil))) (.node (ho8_47 P) (.node (ho8_79 P) (.node (ho25_143 P) (.node (ho32_271 P) .nil .nil) .nil) (.node (ho25_207 P) .nil .nil)) (.node (ho25_111 P) (.node (ho25_175 P) (.node (ho32_303 P) .nil .nil) .nil) (.node (ho25_239 P) .nil .nil)))) (.node (ho8_23 P) (.node (ho8_39 P) (.node (ho8_71 P) (.node (ho25_135 P) (.node (ho32_263 P) .nil .nil) .nil) (.node (ho25_199 P) .nil .nil)) (.node (ho8_103 P) (.node (ho25_167 P) (.node (ho32_295 P) .nil .nil) .nil) (.node (ho25_231 P) .nil .nil))) (.node (ho8_55 P) (.node (ho8_87 P) (.node (ho25_151 P) (.node (ho32_279 P) .nil .nil) .nil) (.node (ho25_215 P) .nil .nil)) (.node (ho25_119 P) (.node (ho25_183 P) (.node (ho32_311 P) .nil .nil) .nil) (.node (ho32_247 P) .nil .nil))))) (.node (ho8_11 P) (.node (ho8_19 P) (.node (ho8_35 P) (.node (ho8_67 P) (.node (ho25_131 P) (.node (ho32_259 P) .nil .nil) .nil) (.node (ho25_195 P) .nil .nil)) (.node (ho8_99 P) (.node (ho25_163 P) (.node (ho32_291 P) .nil .nil) .nil) (.node (ho25_227 P) .nil .nil))) (.node (ho8_51 P) (.node (ho8_83 P) (.node (ho25_147 P) (.node (ho32_275 P) .nil .nil) .nil) (.node (ho25_211 P) .nil .nil)) (.node (ho25_115 P) (.node (ho25_179 P) (.node (ho32_307 P) .nil .nil) .nil) (.node (ho32_243 P) .nil .nil)))) (.node (ho8_27 P) (.node (ho8_43 P) (.node (ho8_75 P) (.node (ho25_139 P) (.node (ho32_267 P) .nil .nil) .nil) (.node (ho25_203 P) .nil .nil)) (.node (ho25_107 P) (.node (ho25_171 P) (.node (ho32_299 P) .nil .nil) .nil) (.node (ho25_235 P) .nil .nil))) (.node (ho8_59 P) (.node (ho8_91 P) (.node (ho25_155 P) (.node (ho32_283 P) .nil .nil) .nil) (.node (ho25_219 P) .nil .nil)) (.node (ho25_123 P) (.node (ho25_187 P) (.node (ho32_315 P) .nil .nil) .nil) (.node (ho32_251 P) .nil .nil)))))) (.node (ho8_5 P) (.node (ho8_9 P) (.node (ho8_17 P) (.node (ho8_33 P) (.node (ho8_65 P) (.node (ho25_129 P) (.node (ho32_257 P) .nil .nil) .nil) (.node (ho25_193 P) .nil .nil)) (.node (ho8_97 P) (.node (ho25_161 P) (.node (ho32_289 P) .nil .nil) .nil) (.node (ho25_225 P) .nil .nil))) (.node (ho8_49 P) (.node (ho8_81 P) (.node (ho25_145 P) (.node (ho32_273 P) .nil .nil) .nil) (.node (ho25_209 P) .nil .nil)) (.node (ho25_113 P) (.node (ho25_177 P) (.node (ho32_305 P) .nil .nil) .nil) (.node (ho32_241 P) .nil .nil)))) (.node (ho8_25 P) (.node (ho8_41 P) (.node (ho8_73 P) (.node (ho25_137 P) (.node (ho32_265 P) .nil .nil) .nil) (.node (ho25_201 P) .nil .nil)) (.node (ho8_105 P) (.node (ho25_169 P) (.node (ho32_297 P) .nil .nil) .nil) (.node (ho25_233 P) .nil .nil))) (.node (ho8_57 P) (.node (ho8_89 P) (.node (ho25_153 P) (.node (ho32_281 P) .nil .nil) .nil) (.node (ho25_217 P) .nil .nil)) (.node (ho25_121 P) (.node (ho25_185 P) (.node (ho32_313 P) .nil .nil) .nil) (.node (ho32_249 P) .nil .nil))))) (.node (ho8_13 P) (.node (ho8_21 P) (.node (ho8_37 P) (.node (ho8_69 P) (.node (ho25_133 P) (.node (ho32_261 P) .nil .nil) .nil) (.node (ho25_197 P) .nil .nil)) (.node (ho8_101 P) (.node (ho25_165 P) (.node (ho32_293 P) .nil .nil) .nil) (.node (ho25_229 P) .nil .nil))) (.node (ho8_53 P) (.node (ho8_85 P) (.node (ho25_149 P) (.node (ho32_277 P) .nil .nil) .nil) (.node (ho25_213 P) .nil .nil)) (.node (ho25_117 P) (.node (ho25_181 P) (.node (ho32_309 P) .nil .nil) .nil) (.node (ho32_245 P) .nil .nil)))) (.node (ho8_29 P) (.node (ho8_45 P) (.node (ho8_77 P) (.node (ho25_141 P) (.node (ho32_269 P) .nil .nil) .nil) (.node (ho25_205 P) .nil .nil)) (.node (ho25_109 P) (.node (ho25_173 P) (.node (ho32_301 P) .nil .nil) .nil) (.node (ho25_237 P) .nil .nil))) (.node (ho8_61 P) (.node (ho8_93 P) (.node (ho25_157 P) (.node (ho32_285 P) .nil .nil) .nil) (.node (ho25_221 P) .nil .nil)) (.node (ho25_125 P) (.node (ho25_189 P) (.node (ho32_317 P) .nil .nil) .nil) (.node (ho32_253 P) .nil .nil))))))) (.node (ho8_2 P) (.node (ho8_4 P) (.node (ho8_8 P) (.node (ho8_16 P) (.node (ho8_32 P) (.node (ho8_64 P) (.node (ho25_128 P) (.node (ho32_256 P) .nil .nil) .nil) (.node (ho25_192 P) .nil .nil)) (.node (ho8_96 P) (.node (ho25_160 P) (.node (ho32_288 P) .nil .nil) .nil) (.node (ho25_224 P) .nil .nil))) (.node (ho8_48 P) (.node (ho8_80 P) (.node (ho25_144 P) (.node (ho32_272 P) .nil .nil) .nil) (.node (ho25_208 P) .nil .nil)) (.node (ho25_112 P) (.node (ho25_176 P) (.node (ho32_304 P) .nil .nil) .nil) (.node (ho32_240 P) .nil .nil)))) (.node (ho8_24 P) (.node (ho8_40 P) (.node (ho8_72 P) (.node (ho25_136 P) (.node (ho32_264 P) .nil .nil) .nil) (.node (ho25_200 P) .nil .nil)) (.node (ho8_104 P) (.node (ho25_168 P) (.node (ho32_296 P) .nil .nil) .nil) (.node (ho25_232 P) .nil .nil))) (.node (ho8_56 P) (.node (ho8_88 P) (.node (ho25_152 P) (.node (ho32_280 P) .nil .nil) .nil) (.node (ho25_216 P) .nil .nil)) (.node (ho25_120 P) (.node (ho25_184 P) (.node (ho32_312 P) .nil .nil) .nil) (.node (ho32_248 P) .nil .nil))))) (.node (ho32_12 P) (.node (ho8_20 P) (.node (ho8_36 P) (.node (ho8_68 P) (.node (ho25_132 P) (.node (ho32_260 P) .nil .nil) .nil) (.node (ho25_196 P) .nil .nil)) (.node (ho8_100 P) (.node (ho25_164 P) (.node (ho32_292 P) .nil .nil) .nil) (.node (ho25_228 P) .nil .nil))) (.node (ho8_52 P) (.node (ho8_84 P) (.node (ho25_148 P) (.node (ho32_276 P) .nil .nil) .nil) (.node (ho25_212 P) .nil .nil)) (.node (ho25_116 P) (.node (ho25_180 P) (.node (ho32_308 P) .nil .nil) .nil) (.node (ho32_244 P) .nil .nil)))) (.node (ho8_28 P) (.node (ho8_44 P) (.node (ho8_76 P) (.node (ho25_140 P) (.node (ho32_268 P) .nil .nil) .nil) (.node (ho25_204 P) .nil .nil)) (.node (ho25_108 P) (.node (ho25_172 P) (.node (ho32_300 P) .nil .nil) .nil) (.node (ho25_236 P) .nil .nil))) (.node (ho8_60 P) (.node (ho8_92 P) (.node (ho25_156 P) (.node (ho32_284 P) .nil .nil) .nil) (.node (ho25_220 P) .nil .nil)) (.node (ho25_124 P) (.node (ho25_188 P) (.node (ho32_316 P) .nil .nil) .nil) (.node (ho32_252 P) .nil .nil)))))) (.node (ho8_6 P) (.node (ho8_10 P) (.node (ho8_18 P) (.node (ho8_34 P) (.node (ho8_66 P) (.node (ho25_130 P) (.node (ho32_258 P) .nil .nil) .nil) (.node (ho25_194 P) .nil .nil)) (.node (ho8_98 P) (.node (ho25_162 P) (.node (ho32_290 P) .nil .nil) .nil) (.node (ho25_226 P) .nil .nil))) (.node (ho8_50 P) (.node (ho8_82 P) (.node (ho25_146 P) (.node (ho32_274 P) .nil .nil) .nil) (.node (ho25_210 P) .nil .nil)) (.node (ho25_114 P) (.node (ho25_178 P) (.node (ho32_306 P) .nil .nil) .nil) (.node (ho32_242 P) .nil .nil)))) (.node (ho8_26 P) (.node (ho8_42 P) (.node (ho8_74 P) (.node (ho25_138 P) (.node (ho32_266 P) .nil .nil) .nil) (.node (ho25_202 P) .nil .nil)) (.node (ho8_106 P) (.node (ho25_170 P) (.node (ho32_298 P) .nil .nil) .nil) (.node (ho25_234 P) .nil .nil))) (.node (ho8_58 P) (.node (ho8_90 P) (.node (ho25_154 P) (.node (ho32_282 P) .nil .nil) .nil) (.node (ho25_218 P) .nil .nil)) (.node (ho25_122 P) (.node (ho25_186 P) (.node (ho32_314 P) .nil .nil) .nil) (.node (ho32_250 P) .nil .nil))))) (.node (ho8_14 P) (.node (ho8_22 P) (.node (ho8_38 P) (.node (ho8_70 P) (.node (ho25_134 P) (.node (ho32_262 P) .nil .nil) .nil) (.node (ho25_198 P) .nil .nil)) (.node (ho8_102 P) (.node (ho25_166 P) (.node (ho32_294 P) .nil .nil) .nil) (.node (ho25_230 P) .nil .nil))) (.node (ho8_54 P) (.node (ho8_86 P) (.node (ho25_150 P) (.node (ho32_278 P) .nil .nil) .nil) (.node (ho25_214 P) .nil .nil)) (.node (ho25_118 P) (.node (ho25_182 P) (.node (ho32_310 P) .nil .nil) .nil) (.node (ho32_246 P) .nil .nil)))) (.node (ho8_30 P) (.node (ho8_46 P) (.node (ho8_78 P) (.node (ho25_142 P) (.node (ho32_270 P) .nil .nil) .nil) (.node (ho25_206 P) .nil .nil)) (.node (ho25_110 P) (.node (ho25_174 P) (.node (ho32_302 P) .nil .nil) .nil) (.node (ho25_238 P) .nil .nil))) (.node (ho8_62 P) (.node (ho8_94 P) (.node (ho25_158 P) (.node (ho32_286 P) .nil .nil) .nil) (.node (ho25_222 P) .nil .nil)) (.node (ho25_126 P) (.node (ho25_190 P) .nil .nil) (.node (ho32_254 P) .nil .nil)))))))
noncomputable abbrev hpw : Program := PySem.Challenge.pw_rr0075_01
noncomputable abbrev hb : List Stmt := behindTheImports hpw
noncomputable abbrev hb1 : List Stmt := hb.take 9
noncomputable abbrev hb2 : List Stmt := (hb.drop 9).take 17
noncomputable abbrev hb3 : List Stmt := (hb.drop 9).drop 17
theorem hb_eq : hb1 ++ (hb2 ++ hb3) = hb := by rw [List.take_append_drop, List.take_append_drop]
noncomputable abbrev henv : Env := { scope := hpw.main.scope, locals := mainNs, globals := mainNs, cells := [], code := .ref 13, frame := some 14 }
abbrev hp0 : Pos := ⟨0, 0, 0, 0⟩
noncomputable abbrev hs0 (w : World) (os : OsState) : SharedT := ⟨bootTree w.params, 11, {}, Array.mk [], boot_drawn, boot_toks, os⟩
noncomputable def hsa (w : World) (os : OsState) : SharedT := ((topGoT treeTable hpw w 11 (some (.ref 6)) 12 (hs0 w os) (topStub hpw)).getD (hs0 w os, topStub hpw)).1
noncomputable def hs8 (w : World) (os : OsState) : SharedT := ⟨ht8 w.params, 107, {}, Array.mk [], {}, 312, os⟩
noncomputable def hs25 (w : World) (os : OsState) : SharedT := ⟨ht25 w.params, 240, {}, Array.mk [], {}, 495, os⟩
noncomputable def hs32 (w : World) (os : OsState) : SharedT := ⟨ht32 w.params, 318, {}, Array.mk [], {}, 599, os⟩
theorem hgo (w : World) : (fun os => topGoT treeTable hpw w 11 (some (.ref 6)) 12 (hs0 w os) (topStub hpw)) = fun os => some (hsa w os, ⟨denote treeTable (.body hb henv), .body hb henv, hp0, [topFrame hp0]⟩) := by kernel_rfl
theorem hblk (w : World) : (fun os => segRunT treeTable hpw w 11 (some (.ref 6)) 1 1 (hsa w os) (blockOf hb henv (.body hb henv) hp0 [topFrame hp0])) = fun os => some (.next, hsa w os, .body hb henv, hp0) := by kernel_rfl
theorem hrun1 (w : World) : (fun os => segRunT treeTable hpw w 11 (some (.ref 6)) 1 2000 (hsa w os) (piecesOf hb1 henv (.body hb henv) hp0 [topFrame hp0])) = fun os => some (.next, hs8 w os, .body hb henv, ⟨17, 0, 18, 8⟩) := by kernel_rfl
theorem hrun2 (w : World) : (fun os => segRunT treeTable hpw w 11 (some (.ref 6)) 1 1000 (hs8 w os) (piecesOf hb2 henv (.body hb henv) ⟨17, 0, 18, 8⟩ [topFrame hp0])) = fun os => some (.next, hs25 w os, .body hb henv, ⟨74, 0, 124, 80⟩) := by kernel_rfl
set_option maxRecDepth 100000
def has : List Addr := [nat_lit 2, nat_lit 3, nat_lit 15, nat_lit 17, nat_lit 18, nat_lit 20, nat_lit 21, nat_lit 22, nat_lit 29, nat_lit 30, nat_lit 31, nat_lit 32, nat_lit 35, nat_lit 42, nat_lit 43, nat_lit 44, nat_lit 47, nat_lit 54, nat_lit 55, nat_lit 56, nat_lit 59, nat_lit 66, nat_lit 67, nat_lit 68, nat_lit 71, nat_lit 78, nat_lit 79, nat_lit 80, nat_lit 83, nat_lit 90, nat_lit 91, nat_lit 92, nat_lit 95, nat_lit 102, nat_lit 103, nat_lit 104, nat_lit 107, nat_lit 109, nat_lit 110, nat_lit 112, nat_lit 113, nat_lit 114, nat_lit 116, nat_lit 117, nat_lit 119, nat_lit 120, nat_lit 121, nat_lit 123, nat_lit 124, nat_lit 126, nat_lit 127, nat_lit 128, nat_lit 130, nat_lit 131, nat_lit 133, nat_lit 134, nat_lit 135, nat_lit 137, nat_lit 138, nat_lit 140, nat_lit 141, nat_lit 142, nat_lit 144, nat_lit 145, nat_lit 147, nat_lit 148, nat_lit 149, nat_lit 151, nat_lit 152, nat_lit 154, nat_lit 155, nat_lit 163, nat_lit 165, nat_lit 166, nat_lit 168, nat_lit 169, nat_lit 170, nat_lit 172, nat_lit 173, nat_lit 175, nat_lit 176, nat_lit 177, nat_lit 179, nat_lit 180, nat_lit 182, nat_lit 183, nat_lit 184, nat_lit 186, nat_lit 187, nat_lit 189, nat_lit 190, nat_lit 191, nat_lit 193, nat_lit 194, nat_lit 196, nat_lit 197, nat_lit 198, nat_lit 200, nat_lit 201, nat_lit 203, nat_lit 204, nat_lit 205, nat_lit 207, nat_lit 208, nat_lit 210, nat_lit 211, nat_lit 212, nat_lit 214, nat_lit 215, nat_lit 217, nat_lit 218, nat_lit 219, nat_lit 221, nat_lit 222, nat_lit 224, nat_lit 225, nat_lit 226, nat_lit 228, nat_lit 229, nat_lit 231, nat_lit 232, nat_lit 233, nat_lit 234, nat_lit 235, nat_lit 236, nat_lit 237, nat_lit 247, nat_lit 249, nat_lit 250, nat_lit 252, nat_lit 253, nat_lit 254, nat_lit 256, nat_lit 257, nat_lit 259, nat_lit 260, nat_lit 261, nat_lit 263, nat_lit 264, nat_lit 266, nat_lit 267, nat_lit 268, nat_lit 270, nat_lit 271, nat_lit 273, nat_lit 274, nat_lit 275, nat_lit 277, nat_lit 278, nat_lit 280, nat_lit 281, nat_lit 282, nat_lit 284, nat_lit 285, nat_lit 287, nat_lit 288, nat_lit 289, nat_lit 290, nat_lit 291, nat_lit 292, nat_lit 293, nat_lit 296, nat_lit 298, nat_lit 299, nat_lit 301, nat_lit 302, nat_lit 303, nat_lit 306, nat_lit 307, nat_lit 308, nat_lit 311, nat_lit 312, nat_lit 313, nat_lit 316, nat_lit 317]
theorem has_eq : ∀ P, has = (hd.heap_39 P).map (·.1) := fun _ => by kernel_rfl
noncomputable abbrev hrow : RowW := OpenRow.toRowW (OpenLaw.row PySem.Challenge.rw_rr0075_01)
noncomputable abbrev hXt : Shared → Bool := fun s => xlAt hd.view_39 [] s && recOk (RowW.records hrow) s
theorem hrun3 (w : World) : (fun os => topRunT treeTable hpw w 11 (some (.ref 6)) 1000 (hs25 w os) (restOf hb3 henv (.body hb henv) ⟨74, 0, 124, 80⟩ [topFrame hp0])) = fun os => some (hs32 w os) := by kernel_rfl
theorem hlook1 (w : World) : (fun os => (topLooks hpw hd.view_39 [] hXt (Hook.obs (kHook hd.heap_39 has has_eq)) (boot_heap w.params) (hs32 w os).abs).1) = fun _ => true := by kernel_rfl
theorem hlook2 (w : World) : (fun os => (topLooks hpw hd.view_39 [] hXt (Hook.obs (kHook hd.heap_39 has has_eq)) (boot_heap w.params) (hs32 w os).abs).2.1) = fun _ => openGood hd.view_39 [] := by kernel_rfl
theorem hlook3 (w : World) : (fun os => (topLooks hpw hd.view_39 [] hXt (Hook.obs (kHook hd.heap_39 has has_eq)) (boot_heap w.params) (hs32 w os).abs).2.2) = fun _ => Hook.val (kHook hd.heap_39 has has_eq) w := by kernel_rfl
theorem hleft : LeftO PySem.Challenge.pw_rr0075_01 hd.view_39 [] hXt (Hook.obs (kHook hd.heap_39 has has_eq)) (Hook.val (kHook hd.heap_39 has has_eq)) (12 + (1 + (2000 + (1000 + 1000)))) :=
  left_of (by kernel_rfl) (by decide) (fun _ => by kernel_rfl) (fun _ => by kernel_rfl) fun w os => by
    refine ⟨(hs32 w os).abs, ?_, Prod.ext (congrFun (hlook1 w) os) (Prod.ext (congrFun (hlook2 w) os) (congrFun (hlook3 w) os))⟩
    have k := top_pieces hb_eq (congrFun (hgo w) os) (congrFun (hblk w) os) (congrFun (hrun1 w) os) (congrFun (hrun2 w) os) (congrFun (hrun3 w) os)
    have e0 : SharedT.abs (hs0 w os) = ⟨boot_heap w.params, Array.mk [], boot_drawn, boot_toks, os⟩ := by
      show Shared.mk (absHeap (bootTree w.params) 11 {}) _ _ _ _ = _
      rw [boot_abs]
    rw [e0] at k
    exact k
theorem hsaid : OpenLaw.wellSaid PySem.Challenge.rw_rr0075_01 = true := by kernel_rfl
theorem mem_appl {p : Addr × Obj} {l r : List (Addr × Obj)} (h : List.Mem p l) : List.Mem p (l ++ r) := List.mem_append.mpr (.inl h)
theorem mem_appr {p : Addr × Obj} {l r : List (Addr × Obj)} (h : List.Mem p r) : List.Mem p (l ++ r) := List.mem_append.mpr (.inr h)
theorem hkept : Mine.hd.heap_39 = Mine.hd.heap_39 ∧ PySem.Challenge.rw_rr0075_01 = PySem.Challenge.rw_rr0075_01 := by k_fill; exact ⟨rfl, rfl⟩
local macro_rules | `(tactic| news_mem) => `(tactic| k_mem)
local macro_rules | `(tactic| k_mem) => `(tactic| first | (with_reducible_and_instances refine mem_appl ?_; k_mem) | (with_reducible_and_instances refine mem_appr ?_; k_mem))
local macro_rules | `(tactic| k_mem) => `(tactic| with_reducible_and_instances assumption)

-- P1
theorem offP1 : True := by w_top off; trivial
section

section
variable {w : World} {mean : ExcName → Option Value} {mg mb : Str → Option Value} {dp un : Nat} {gd : Option (List Code)} {cn : Str} {cs : Scope} {a : Addr} {ccd : Value} {cl : List (Str × Addr)} {outer : List Env} {A₀ : Around} {base h₀ : Heap} {L : Addr} {m : Str → Option Value} {s : Shared} {Q E : Value → Shared → Prop} {news : List (Addr × Obj)}
def b32 (i : Int) : List UInt8 := [UInt8.ofNat i.toNat, 0, 0, 0]
theorem rshift_zero {prog : Program} {w : World} {A : Around} {E : Value → Shared → Prop} {s : Shared} {i n : Int} {t u : Tok} {Q : Value → Shared → Prop} (h0 : 0 ≤ i) (h1 : i < 256) (hn : 8 ≤ n)
    (h : Q (.int 0 s.toks) { s with toks := s.toks + 1 }) : wpAny (model prog w) A (binaryOp .RShift (.int i t) (.int n u)) Q E s := by
  refine rshift_int (by omega) ?_
  have e : i.fdiv (2 ^ n.toNat) = 0 := by
    have hp : (256 : Int) ≤ 2 ^ n.toNat := by
      have h8 : n.toNat = 8 + (n.toNat - 8) := by omega
      rw [h8, Int.pow_add]
      have := kbt_pos (n.toNat - 8)
      have h9 : (2 : Int) ^ 8 = 256 := rfl
      rw [h9]
      omega
    rw [Int.fdiv_eq_ediv_of_nonneg _ (by omega)]
    exact Int.ediv_eq_zero_of_lt h0 (by omega)
  rw [e]
  exact h
theorem and_zero255 : Builtin.bitAnd 0 255 = 0 := by rw [bitAnd_m8]; rfl
theorem bytes4_K {prog : Program} {w : World} {A : Around} {E : Value → Shared → Prop} {s : Shared} {h₀ : Heap} {L : Addr} {m : Str → Option Value} {news : List (Addr × Obj)} {l : Addr} {x0 x1 x2 x3 i : Int} {t0 t1 t2 t3 : Tok} {n : Nat} {Q : Value → Shared → Prop}
    (F : Fr h₀ L s.heap m) (N : News h₀ L s.heap ((l, listOf #[.int x0 t0, .int x1 t1, .int x2 t2, .int x3 t3] n) :: news)) (e0 : x0 = i) (e1 : x1 = 0) (e2 : x2 = 0) (e3 : x3 = 0) (hi0 : 0 ≤ i) (hi1 : i < 256) (hh : A.handled = none)
    (h : ∀ h' t k, Fr h₀ L h' m → News h₀ L h' news → Q (.bytes (b32 i).toArray t) { s with heap := h', toks := k }) : wpAny (model prog w) A (call (.type "bytes") [.ref l]) Q E s := by
  subst e0 e1 e2 e3
  refine bytes_K (vs := [.int x0 t0, .int 0 t1, .int 0 t2, .int 0 t3]) (ns := [x0, 0, 0, 0]) F N (News.isList N (List.Mem.head _)) (by l_intsW) ?_ (by rw [sizeLine_eq]; show 4 ≤ _; omega) hh ?_
  · intro n hn
    simp only [List.mem_cons, List.not_mem_nil, or_false] at hn
    omega
  · intro h' t k F' N' _
    exact h h' t k F' (fun p hp => N' p (.tail _ hp))
local macro_rules | `(tactic| walk_at "binaryOp RShift int int") => `(tactic| refine rshift_zero (by assumption) (by assumption) (by decide) ?_)
local macro_rules | `(tactic| walk_at "call type:bytes") => `(tactic| (k_here; (refine' bytes4_K (by k_asm) (by k_asm) (by assumption) and_zero255 and_zero255 rfl (by assumption) (by assumption) rfl ?_); intro h' t' k' F' N'))
set_option maxHeartbeats 4000000 in
theorem put32_ok (B : Below A₀ base outer h₀) (F : Fr h₀ L s.heap m) (X : (Mine.hd.heap_39 w.params).In h₀) (N : News h₀ L s.heap news) (T : Top Mine.hd.view_39 (looseW Mine.hd.view_39 []) mean mg mb h₀) (hk : cs.kind = .function) (hd : dp + 3 < recursionLimit) (hu : un + 30 < cLine)
  {i : Int} {ti : Tok} (hi0 : 0 ≤ i) (hi1 : i < 256)
  (hret : ∀ (t : Tok) (h' : Heap) (tk' : Nat), Fr h₀ L h' m → News h₀ L h' news → Q (.bytes (b32 i).toArray t) { s with heap := h', toks := tk' }) :
  wpAny (model PySem.Challenge.rw_rr0075_01.row.prog w) (ktrTop dp un gd cn cs L a ccd cl outer) (call (.ref 113) [.int i ti]) Q E s := by
  have e1 : Builtin.bitAnd i 255 = i := by rw [bitAnd_m8]; omega
  refine wpAny_call ?_
  k_dflt cell_enter
  k_steps
  exact hret _ _ _ (by assumption) (by assumption)

def b64 (i : Int) : List UInt8 := b32 i ++ b32 0
theorem mask_small {i : Int} (h0 : 0 ≤ i) (h1 : i < 256) : Builtin.bitAnd i 4294967295 = i := by rw [bitAnd_m32]; omega
theorem and_max {prog : Program} {w : World} {A : Around} {E : Value → Shared → Prop} {s : Shared} {i : Int} {t u : Tok} {Q : Value → Shared → Prop} (h0 : 0 ≤ i) (h1 : i < 256)
    (h : Q (.int i s.toks) { s with toks := s.toks + 1 }) : wpAny (model prog w) A (binaryOp .BitAnd (.int i t) (.int 4294967295 u)) Q E s := and_int (by rw [mask_small h0 h1]; exact h)
local macro_rules | `(tactic| walk_at "binaryOp BitAnd int int") => `(tactic| refine and_max (by assumption) (by assumption) ?_)
local macro_rules | `(tactic| walk_at "call ref") => `(tactic| (k_here; (with_reducible show wpAny _ _ (call (Value.ref 113) [Value.int _ _]) _ _ _); k_dflt (refine' put32_ok ?k1 ?k2 ?k3 ?k4 ?k5 ?k6 ?k7 ?k8 ?k9 ?k10 ?_; (case k1 => k_asm); (case k2 => k_asm); (case k3 => k_asm); (case k4 => k_asm); (case k5 => k_asm); (case k6 => exact rfl); (case k7 => ktr_room); (case k8 => ktr_units); (case k9 => first | assumption | decide); (case k10 => first | assumption | decide)); intro t9 h9 tk9 F9 N9))
set_option maxHeartbeats 4000000 in
theorem put64_ok (B : Below A₀ base outer h₀) (F : Fr h₀ L s.heap m) (X : (Mine.hd.heap_39 w.params).In h₀) (N : News h₀ L s.heap news) (T : Top Mine.hd.view_39 (looseW Mine.hd.view_39 []) mean mg mb h₀) (hk : cs.kind = .function) (hd : dp + 5 < recursionLimit) (hu : un + 50 < cLine)
  {i : Int} {ti : Tok} (hi0 : 0 ≤ i) (hi1 : i < 256)
  (hret : ∀ (t : Tok) (h' : Heap) (tk' : Nat), Fr h₀ L h' m → News h₀ L h' news → Q (.bytes (b64 i).toArray t) { s with heap := h', toks := tk' }) :
  wpAny (model PySem.Challenge.rw_rr0075_01.row.prog w) (ktrTop dp un gd cn cs L a ccd cl outer) (call (.ref 120) [.int i ti]) Q E s := by
  refine wpAny_call ?_
  k_dflt cell_enter
  k_steps
  exact hret _ _ _ (by assumption) (by assumption)

theorem lshift_zero {prog : Program} {w : World} {A : Around} {E : Value → Shared → Prop} {s : Shared} {n : Int} {t u : Tok} {Q : Value → Shared → Prop} (hn : 0 ≤ n) (hn2 : n ≤ 1000000)
    (h : Q (.int 0 s.toks) { s with toks := s.toks + 1 }) : wpAny (model prog w) A (binaryOp .LShift (.int 0 t) (.int n u)) Q E s := by
  refine lshift_int_small hn hn2 (by decide) ?_
  rw [Int.zero_mul]
  exact h
theorem or_zero {prog : Program} {w : World} {A : Around} {E : Value → Shared → Prop} {s : Shared} {i : Int} {t u : Tok} {Q : Value → Shared → Prop}
    (h : Q (.int i s.toks) { s with toks := s.toks + 1 }) : wpAny (model prog w) A (binaryOp .BitOr (.int i t) (.int 0 u)) Q E s := by
  refine or_int ?_
  have e : Builtin.bitOr i 0 = i := by
    rw [bitOr_and]
    have := bitAnd_range i (y := 0) (by decide)
    omega
  rw [e]
  exact h
local macro_rules | `(tactic| walk_at "binaryOp LShift int int") => `(tactic| (refine lshift_zero (by decide) (by decide) ?_; (try dsimp only)))
local macro_rules | `(tactic| walk_at "binaryOp BitOr int int") => `(tactic| (refine or_zero ?_; (try dsimp only)))
theorem bytes_item {prog : Program} {w : World} {A : Around} {E : Value → Shared → Prop} {s : Shared} {Q : Value → Shared → Prop} {x : List UInt8} {i k : Int} {t ui : Tok} {value slice : PySem.Expr} (hfit : x.length ≤ 1000) (h0 : 0 ≤ i) (h1 : i < (x.length : Int)) (e : (((x.getD i.toNat 0).toNat : Nat) : Int) = k)
    (h : Q (.int k s.toks) { s with toks := s.toks + 1 })
    (hs : subscripted slice false (.bytes x.toArray t) (.int i ui) = operate [.bytes x.toArray t, .int i ui] (getItem (.bytes x.toArray t) (.int i ui)) := by with_unfolding_all rfl)
    (ht : ∀ r, letTemporaryGo value (.bytes x.toArray t) r = pure () := by intro _; with_unfolding_all rfl) : wpAny (model prog w) A (subscriptTail value slice (.bytes x.toArray t) (.int i ui)) Q E s :=
  bytes_item_K (by omega) h0 h1 e h hs ht
local macro_rules | `(tactic| walk_at "subscriptTail") => `(tactic| (k_here; (with_reducible show wpAny _ _ (subscriptTail _ _ (Value.bytes (List.toArray _) _) (Value.int _ _)) _ _ _); k_dflt (refine' bytes_item ?f ?a ?b ?e ?_; (case f => assumption); (case a => omega); (case b => omega); (case e => assumption)); (try dsimp only)))
set_option maxHeartbeats 4000000 in
theorem read32_ok (B : Below A₀ base outer h₀) (F : Fr h₀ L s.heap m) (X : (Mine.hd.heap_39 w.params).In h₀) (N : News h₀ L s.heap news) (T : Top Mine.hd.view_39 (looseW Mine.hd.view_39 []) mean mg mb h₀) (hk : cs.kind = .function)  (hd : dp + 3 < recursionLimit) (hu : un + 30 < cLine)
  {x : List UInt8} {tx ta : Tok} {p c : Int} (h0 : 0 ≤ p) (h1 : p + 4 ≤ (x.length : Int)) (hx : x.length ≤ 1000) (z0 : (((x.getD p.toNat 0).toNat : Nat) : Int) = c) (z1 : (((x.getD (p + 1).toNat 0).toNat : Nat) : Int) = 0) (z2 : (((x.getD (p + 2).toNat 0).toNat : Nat) : Int) = 0) (z3 : (((x.getD (p + 3).toNat 0).toNat : Nat) : Int) = 0)
  (hret : ∀ (t : Tok) (h' : Heap) (tk' : Nat), Fr h₀ L h' m → News h₀ L h' news → Q (.int c t) { s with heap := h', toks := tk' }) :
  wpAny (model PySem.Challenge.rw_rr0075_01.row.prog w) (ktrTop dp un gd cn cs L a ccd cl outer) (call (.ref 127) [.bytes x.toArray tx, .int p ta]) Q E s := by
  refine wpAny_call ?_
  k_dflt cell_enter
  k_steps
  exact hret _ _ _ (by assumption) (by assumption)
local macro_rules | `(tactic| walk_at "call ref") => `(tactic| (k_here; (with_reducible show wpAny _ _ (call (Value.ref 127) [Value.bytes _ _, Value.int _ _]) _ _ _); k_dflt (refine' read32_ok ?k1 ?k2 ?k3 ?k4 ?k5 ?k6 ?k7 ?k8 ?k9 ?k10 ?k11 ?k12 ?k13 ?k14 ?k15 ?_; (case k1 => k_asm); (case k2 => k_asm); (case k3 => k_asm); (case k4 => k_asm); (case k5 => k_asm); (case k6 => exact rfl); (case k7 => ktr_room); (case k8 => ktr_units); (case k9 => decide); (case k10 => omega); (case k11 => assumption); (case k12 => assumption); (case k13 => assumption); (case k14 => assumption); (case k15 => assumption)); intro t9 h9 tk9 F9 N9))
set_option maxHeartbeats 4000000 in
theorem read64_ok (B : Below A₀ base outer h₀) (F : Fr h₀ L s.heap m) (X : (Mine.hd.heap_39 w.params).In h₀) (N : News h₀ L s.heap news) (T : Top Mine.hd.view_39 (looseW Mine.hd.view_39 []) mean mg mb h₀) (hk : cs.kind = .function)  (hd : dp + 5 < recursionLimit) (hu : un + 50 < cLine)
  {x : List UInt8} {tx ta : Tok} {c : Int} (h1 : 8 ≤ (x.length : Int)) (hx : x.length ≤ 1000)
  (z0 : (((x.getD (0 : Int).toNat 0).toNat : Nat) : Int) = c) (z1 : (((x.getD ((0 : Int) + 1).toNat 0).toNat : Nat) : Int) = 0) (z2 : (((x.getD ((0 : Int) + 2).toNat 0).toNat : Nat) : Int) = 0) (z3 : (((x.getD ((0 : Int) + 3).toNat 0).toNat : Nat) : Int) = 0)
  (z4 : (((x.getD ((0 : Int) + 4).toNat 0).toNat : Nat) : Int) = 0) (z5 : (((x.getD ((0 : Int) + 4 + 1).toNat 0).toNat : Nat) : Int) = 0) (z6 : (((x.getD ((0 : Int) + 4 + 2).toNat 0).toNat : Nat) : Int) = 0) (z7 : (((x.getD ((0 : Int) + 4 + 3).toNat 0).toNat : Nat) : Int) = 0)
  (hret : ∀ (t : Tok) (h' : Heap) (tk' : Nat), Fr h₀ L h' m → News h₀ L h' news → Q (.int c t) { s with heap := h', toks := tk' }) :
  wpAny (model PySem.Challenge.rw_rr0075_01.row.prog w) (ktrTop dp un gd cn cs L a ccd cl outer) (call (.ref 134) [.bytes x.toArray tx, .int 0 ta]) Q E s := by
  refine wpAny_call ?_
  k_dflt cell_enter
  k_steps
  exact hret _ _ _ (by assumption) (by assumption)
end

end

-- P2
theorem offP2 : True := by w_top off; trivial
section

section
variable {w : World} {mean : ExcName → Option Value} {mg mb : Str → Option Value} {dp un : Nat} {gd : Option (List Code)} {cn : Str} {cs : Scope} {a : Addr} {ccd : Value} {cl : List (Str × Addr)} {outer : List Env} {A₀ : Around} {base h₀ : Heap} {L : Addr} {m : Str → Option Value} {s : Shared} {Q E : Value → Shared → Prop} {news : List (Addr × Obj)}
def kbD (c : List (Int × Bool)) : List (PyData × PyData) := c.map fun p => (PyData.int p.1, PyData.bool p.2)
def kbLook (c : List (Int × Bool)) (k : Int) : Option Bool := (c.find? fun p => decide (p.1 = k)).map (·.2)
theorem kbD_lookup (k : Int) : ∀ c : List (Int × Bool), PySem.Spec.lookup (PyData.int k) (kbD c) = (kbLook c k).map PyData.bool
  | [] => rfl
  | (i, v) :: c => by
    show (if PySem.Spec.same (PyData.int i) (PyData.int k) = true then some (PyData.bool v) else PySem.Spec.lookup (PyData.int k) (kbD c)) = _
    rw [PyProof.V.same_int, kbD_lookup k c]
    unfold kbLook
    rw [List.find?_cons]
    by_cases h : i = k
    · simp [h]
    · simp [h]
def winF (ns : List Int) (D : List (Int × Bool)) : Bool := decide (ns = [] ∨ ns.length < 2 * (ns.filter fun n => kbLook D n == some true).length)
def VoteIs (r : Int) (b : Bool) : Prop := (r = 1 ∨ r = 2 ∨ r = 3) ∧ (r = 3 ↔ b = true)
theorem kb_notin {prog : Program} {w : World} {A : Around} {E : Value → Shared → Prop} {s : Shared} {d : Addr} {D : List (Int × Bool)} {i : Int} {t : Tok} {b : Bool} {Q : Value → Shared → Prop} (T : IntTab prog w s.heap d (kbD D)) (hb : b = !(kbLook D i).isSome)
    (h : Q (.bool b) { s with toks := s.toks + 1 }) : wpAny (model prog w) A (compareOp .NotIn (.int i t) (.ref d)) Q E s := by
  refine notin_intTab T ?_
  rw [kbD_lookup, Option.isSome_map, ← hb]
  exact h
theorem kb_item {prog : Program} {w : World} {A : Around} {E : Value → Shared → Prop} {s : Shared} {d : Addr} {D : List (Int × Bool)} {i : Int} {t : Tok} {b : Bool} {value slice : PySem.Expr} {Q : Value → Shared → Prop} (T : IntTab prog w s.heap d (kbD D)) (hb : kbLook D i = some b)
    (h : Q (.bool b) { s with toks := s.toks + 1 })
    (hs : subscripted slice false (.ref d) (.int i t) = operate [.ref d, .int i t] (getItem (.ref d) (.int i t)) := by with_unfolding_all rfl) (hg : ∀ r, letTemporaryGo value (.ref d) r = pure () := by intro _; with_unfolding_all rfl) :
    wpAny (model prog w) A (subscriptTail value slice (.ref d) (.int i t)) Q E s := by
  refine item_intTab T (dv := PyData.bool b) (by rw [kbD_lookup, hb]; rfl) (fun v hv => ?_) hs hg
  obtain rfl := Flat.bool_inv hv
  exact h
local macro_rules | `(tactic| walk_at "compareOp NotIn int ref") => `(tactic| (k_here; k_dflt (refine kb_notin (by k_tabat) (by simp only [*]; rfl) ?_); (try dsimp only)))
local macro_rules | `(tactic| walk_at "subscriptTail") => `(tactic| (k_here; (with_reducible show wpAny _ _ (subscriptTail _ _ (Value.ref _) (Value.int _ _)) _ _ _); k_dflt (refine kb_item (by k_tabat) (by assumption) ?_); (try dsimp only)))
set_option maxHeartbeats 4000000 in
theorem maj_ok (B : Below A₀ base outer h₀) (F : Fr h₀ L s.heap m) (X : (Mine.hd.heap_39 w.params).In h₀) (N : News h₀ L s.heap news) (T : Top Mine.hd.view_39 (looseW Mine.hd.view_39 []) mean mg mb h₀) (hk : cs.kind = .function) (hd : dp + 3 < recursionLimit) (hu : un + 30 < cLine)
  {l d : Addr} {vs : List Value} {ns : List Int} {nn : Nat} {o : Obj} {kvs : List (Int × Value)} {D : List (Int × Bool)} (hl : (l, listOf vs.toArray nn) ∈ news) (hi : IntsAre vs ns) (hlen : ns.length ≤ 8)
  (hdm : (d, o) ∈ news) (hlo : (d == sysModules) = false) (hdo : o.IsDictOf (PySem.intKind PySem.Challenge.rw_rr0075_01.row.prog w) kvs) (hf : FlatPairs PyData.int kvs (kbD D))
  (hret : ∀ (r : Int) (t : Tok) (h' : Heap) (tk' : Nat), Fr h₀ L h' m → News h₀ L h' news → VoteIs r (winF ns D) → Q (.int r t) { s with heap := h', toks := tk' }) :
  wpAny (model PySem.Challenge.rw_rr0075_01.row.prog w) (ktrTop dp un gd cn cs L a ccd cl outer) (call (.ref 148) [.ref l, .ref d]) Q E s := by
  refine wpAny_call ?_
  k_dflt cell_enter
  (repeat' ((fail_if_success (with_reducible show wpAny _ _ (exec (Stmt.For _ _ _ _ _) _) _ _ _)); (first | (k_unfold; (try dsimp only)) | (k_end; kc_close) | walk1 | (dsimp only; walk1) | (leave1; (try dsimp only)) | fail "no step")))
  · rename Fr _ _ _ _ => F1
    with_unfolding_all refine' For_invVF F1 ?k1 ?k2 ?_
    case k1 => exact rfl
    case k2 => exact rfl
    (repeat' ((fail_if_success (with_reducible show wpAny _ _ (pyIter _) _ _ _)); (first | (k_unfold; (try dsimp only)) | (k_end; kc_close) | walk1 | (dsimp only; walk1) | (leave1; (try dsimp only)) | fail "no step")))
    rename Fr _ _ _ _ => F2
    rename News _ _ _ _ => N2
    refine' kst_listL (σ := (Int × Tok) × (Int × Tok)) (fun _ => news) (fun c => [(Str.ofString "granted", .int c.1.1 c.1.2), (Str.ofString "missing", .int c.2.1 c.2.2)]) (fun _ => True) [] (fun pre c => c.1.1 = ((pre.filter fun n => kbLook D n == some true).length : Int) ∧ c.2.1 = ((pre.filter fun n => kbLook D n == none).length : Int)) ((0, ?t1), (0, ?t2)) rfl (fun _ => hl) hi F2 N2 trivial ?kk ⟨rfl, rfl⟩ ?turn ?done
    case kk => kst_all
    case turn =>
      rintro ⟨⟨gr, tg⟩, ⟨mi, tm⟩⟩ pre post n t u h9 tk9 own e9 hn9 hoff9 - ⟨hg9, hm9⟩ F3 N3
      dsimp only at hg9 hm9
      rcases hb : kbLook D n with _ | _ | _
      · (repeat' ((fail_if_success (with_reducible show InvEndN _ _ _ _ _ _ _)); (first | (k_unfold; (try dsimp only)) | (k_end; kc_close) | walk1 | (dsimp only; walk1) | (leave1; (try dsimp only)) | fail "no step")))
        refine kst_end ((gr, _), (mi + 1, _)) (by assumption) (by assumption) (fun p hp => List.mem_append.mpr (.inl hp)) (fun p hp => List.mem_append.mpr (.inr hp)) rfl trivial (by kst_all) (fun z z1 z2 z3 => by (have g1 := z2 _ (.head _)); (have g2 := z2 _ (.tail _ (.head _))); simp [z1, g1, g2, kstB]) ?_
        simp [hb, hg9, hm9]
      · (repeat' ((fail_if_success (with_reducible show InvEndN _ _ _ _ _ _ _)); (first | (k_unfold; (try dsimp only)) | (k_end; kc_close) | walk1 | (dsimp only; walk1) | (leave1; (try dsimp only)) | fail "no step")))
        refine kst_end ((gr, _), (mi, _)) (by assumption) (by assumption) (fun p hp => List.mem_append.mpr (.inl hp)) (fun p hp => List.mem_append.mpr (.inr hp)) rfl trivial (by kst_all) (fun z z1 z2 z3 => by (have g1 := z2 _ (.head _)); (have g2 := z2 _ (.tail _ (.head _))); simp [z1, g1, g2, kstB]) ?_
        simp [hb, hg9, hm9]
      · (repeat' ((fail_if_success (with_reducible show InvEndN _ _ _ _ _ _ _)); (first | (k_unfold; (try dsimp only)) | (k_end; kc_close) | walk1 | (dsimp only; walk1) | (leave1; (try dsimp only)) | fail "no step")))
        refine kst_end ((gr + 1, _), (mi, _)) (by assumption) (by assumption) (fun p hp => List.mem_append.mpr (.inl hp)) (fun p hp => List.mem_append.mpr (.inr hp)) rfl trivial (by kst_all) (fun z z1 z2 z3 => by (have g1 := z2 _ (.head _)); (have g2 := z2 _ (.tail _ (.head _))); simp [z1, g1, g2, kstB]) ?_
        simp [hb, hg9, hm9]
    case done =>
      rintro ⟨⟨gr, tg⟩, ⟨mi, tm⟩⟩ u h9 tk9 - ⟨hg9, hm9⟩ F3 N3
      dsimp only at hg9 hm9
      have hne : ns ≠ [] := by rintro rfl; simp at *
      (repeat' ((first | (k_unfold; (try dsimp only)) | (k_end; kc_close) | walk1 | (dsimp only; walk1) | (leave1; (try dsimp only)) | fail "no step")))
      all_goals (refine hret _ _ _ _ (by assumption) (by assumption) ⟨by omega, ?_⟩)
      all_goals (rw [Int.fdiv_eq_ediv_of_nonneg _ (by decide)] at *; dsimp only at *)
      all_goals (simp only [winF, decide_eq_true_eq, hne, false_or])
      all_goals exact ⟨fun _ => by omega, fun _ => by first | trivial | omega⟩
  · refine hret _ _ _ _ (by assumption) (by assumption) ⟨by omega, ?_⟩
    have hn : ns = [] := List.eq_nil_of_length_eq_zero (by omega)
    simp [winF, hn]
local macro_rules | `(tactic| walk_at "call ref") => `(tactic| (k_here; (with_reducible show wpAny _ _ (call (Value.ref 148) [Value.ref _, Value.ref _]) _ _ _); k_dflt (refine' maj_ok ?k1 ?k2 ?k3 ?k4 ?k5 ?k6 ?k7 ?k8 ?k9 ?k10 ?k11 ?k12 ?k13 ?k14 ?k15 ?_; (case k1 => k_asm); (case k2 => k_asm); (case k3 => k_asm); (case k4 => k_asm); (case k5 => k_asm); (case k6 => exact rfl); (case k7 => ktr_room); (case k8 => ktr_units); (case k9 => assumption); (case k10 => assumption); (case k11 => assumption); (case k12 => assumption); (case k13 => assumption); (case k14 => assumption); (case k15 => assumption)); intro r9 t9 h9 tk9 F9 N9 V9))
set_option maxHeartbeats 4000000 in
theorem joint_ok (B : Below A₀ base outer h₀) (F : Fr h₀ L s.heap m) (X : (Mine.hd.heap_39 w.params).In h₀) (N : News h₀ L s.heap news) (T : Top Mine.hd.view_39 (looseW Mine.hd.view_39 []) mean mg mb h₀) (hk : cs.kind = .function) (hd : dp + 5 < recursionLimit) (hu : un + 50 < cLine)
  {l l2 d : Addr} {vs vs2 : List Value} {ns ns2 : List Int} {nn nn2 : Nat} {o : Obj} {kvs : List (Int × Value)} {D : List (Int × Bool)} (hl : (l, listOf vs.toArray nn) ∈ news) (hi : IntsAre vs ns) (hlen : ns.length ≤ 8)
  (hl2 : (l2, listOf vs2.toArray nn2) ∈ news) (hi2 : IntsAre vs2 ns2) (hlen2 : ns2.length ≤ 8)
  (hdm : (d, o) ∈ news) (hlo : (d == sysModules) = false) (hdo : o.IsDictOf (PySem.intKind PySem.Challenge.rw_rr0075_01.row.prog w) kvs) (hf : FlatPairs PyData.int kvs (kbD D))
  (hret : ∀ (r : Int) (t : Tok) (h' : Heap) (tk' : Nat), Fr h₀ L h' m → News h₀ L h' news → VoteIs r (winF ns D && winF ns2 D) → Q (.int r t) { s with heap := h', toks := tk' }) :
  wpAny (model PySem.Challenge.rw_rr0075_01.row.prog w) (ktrTop dp un gd cn cs L a ccd cl outer) (call (.ref 155) [.ref l, .ref l2, .ref d]) Q E s := by
  refine wpAny_call ?_
  k_dflt cell_enter
  (repeat' ((first | (k_unfold; (try dsimp only)) | (k_end; kc_close) | walk1 | (dsimp only; walk1) | (leave1; (try dsimp only)) | fail "no step")))
  all_goals (refine hret _ _ _ _ (by assumption) (by assumption) ?_)
  all_goals (rename VoteIs _ (winF ns2 D) => V2; rename VoteIs _ (winF ns D) => V1; obtain ⟨v1a, v1b⟩ := V1; obtain ⟨v2a, v2b⟩ := V2; refine ⟨by omega, ?_⟩; rw [Bool.and_eq_true, ← v1b, ← v2b]; omega)
local macro_rules | `(tactic| walk_at "call ref") => `(tactic| (k_here; (with_reducible show wpAny _ _ (call (Value.ref 155) [Value.ref _, Value.ref _, Value.ref _]) _ _ _); k_dflt (refine' joint_ok ?k1 ?k2 ?k3 ?k4 ?k5 ?k6 ?k7 ?k8 ?k9 ?k10 ?k11 ?l9 ?l10 ?l11 ?k12 ?k13 ?k14 ?k15 ?_; (case k1 => k_asm); (case k2 => k_asm); (case k3 => k_asm); (case k4 => k_asm); (case k5 => k_asm); (case k6 => exact rfl); (case k7 => ktr_room); (case k8 => ktr_units); (case k9 => assumption); (case k10 => assumption); (case k11 => assumption); (case l9 => assumption); (case l10 => assumption); (case l11 => assumption); (case k12 => assumption); (case k13 => assumption); (case k14 => assumption); (case k15 => assumption)); intro r9 t9 h9 tk9 F9 N9 V9))
set_option maxHeartbeats 4000000 in
theorem vote_ok (B : Below A₀ base outer h₀) (F : Fr h₀ L s.heap m) (X : (Mine.hd.heap_39 w.params).In h₀) (N : News h₀ L s.heap news) (T : Top Mine.hd.view_39 (looseW Mine.hd.view_39 []) mean mg mb h₀) (hk : cs.kind = .function) (hd : dp + 7 < recursionLimit) (hu : un + 70 < cLine)
  {c cd l l2 d : Addr} {vs vs2 : List Value} {ns ns2 : List Int} {nn nn2 : Nat} {o : Obj} {kvs : List (Int × Value)} {D : List (Int × Bool)} {k1 k2 k3 k4 k5 : Int} {u1 u2 u3 u4 u5 : Tok} {v3 v4 v5 : Value} {nc : Nat} (hc : (c, instObj 235 cd) ∈ news) (hcd : (cd, dictOf [⟨k1, .str (Str.ofString "voters") u1, .ref l⟩, ⟨k2, .str (Str.ofString "outgoing") u2, .ref l2⟩, ⟨k3, .str (Str.ofString "learners") u3, v3⟩, ⟨k4, .str (Str.ofString "learners_next") u4, v4⟩, ⟨k5, .str (Str.ofString "auto_leave") u5, v5⟩] nc) ∈ news)
  (hl : (l, listOf vs.toArray nn) ∈ news) (hi : IntsAre vs ns) (hlen : ns.length ≤ 8)
  (hl2 : (l2, listOf vs2.toArray nn2) ∈ news) (hi2 : IntsAre vs2 ns2) (hlen2 : ns2.length ≤ 8)
  (hdm : (d, o) ∈ news) (hlo : (d == sysModules) = false) (hdo : o.IsDictOf (PySem.intKind PySem.Challenge.rw_rr0075_01.row.prog w) kvs) (hf : FlatPairs PyData.int kvs (kbD D))
  (hret : ∀ (r : Int) (t : Tok) (h' : Heap) (tk' : Nat), Fr h₀ L h' m → News h₀ L h' news → VoteIs r (winF ns D && winF ns2 D) → Q (.int r t) { s with heap := h', toks := tk' }) :
  wpAny (model PySem.Challenge.rw_rr0075_01.row.prog w) (ktrTop dp un gd cn cs L a ccd cl outer) (call (.ref 218) [.ref c, .ref d]) Q E s := by
  refine wpAny_call ?_
  k_dflt cell_enter
  (repeat' ((first | (k_unfold; (try dsimp only)) | (k_end; kc_close) | walk1 | (dsimp only; walk1) | (leave1; (try dsimp only)) | fail "no step")))
  exact hret _ _ _ _ (by assumption) (by assumption) (by assumption)
end

end

-- P3
theorem offP3 : True := by w_top off; trivial
section

section
variable {w : World} {mean : ExcName → Option Value} {mg mb : Str → Option Value} {dp un : Nat} {gd : Option (List Code)} {cn : Str} {cs : Scope} {a : Addr} {ccd : Value} {cl : List (Str × Addr)} {outer : List Env} {A₀ : Around} {base h₀ : Heap} {L : Addr} {m : Str → Option Value} {s : Shared} {Q E : Value → Shared → Prop} {news : List (Addr × Obj)}
local macro_rules | `(tactic| walk_at "call ref") => `(tactic| (k_here; (with_reducible show wpAny _ _ (call (Value.ref 120) [Value.int _ _]) _ _ _); k_dflt (refine' put64_ok ?k1 ?k2 ?k3 ?k4 ?k5 ?k6 ?k7 ?k8 ?k9 ?k10 ?_; (case k1 => k_asm); (case k2 => k_asm); (case k3 => k_asm); (case k4 => k_asm); (case k5 => k_asm); (case k6 => exact rfl); (case k7 => ktr_room); (case k8 => ktr_units); (case k9 => first | assumption | omega); (case k10 => first | assumption | omega)); intro t9 h9 tk9 F9 N9))
set_option maxHeartbeats 4000000 in
theorem stamp_ok (B : Below A₀ base outer h₀) (F : Fr h₀ L s.heap m) (X : (Mine.hd.heap_39 w.params).In h₀) (N : News h₀ L s.heap news) (T : Top Mine.hd.view_39 (looseW Mine.hd.view_39 []) mean mg mb h₀) (hk : cs.kind = .function) (hd : dp + 7 < recursionLimit) (hu : un + 70 < cLine)
  {x dx hd : Addr} {g1 g2 g3 g4 : Int} {y1 y2 y3 y4 y5 y6 : Tok} {sp ck : Int} {gu : Bool} {ng : Nat} (hx : (x, instObj 291 dx) ∈ news) (hdx : (dx, dictOf [⟨g1, .str (Str.ofString "span") y1, .int sp y5⟩, ⟨g2, .str (Str.ofString "clock") y2, .int ck y6⟩, ⟨g3, .str (Str.ofString "heard") y3, .ref hd⟩, ⟨g4, .str (Str.ofString "given_up") y4, .bool gu⟩] ng) ∈ news) (hi0 : 0 ≤ ck) (hi1 : ck < 256)
  (hret : ∀ (t : Tok) (h' : Heap) (tk' : Nat), Fr h₀ L h' m → News h₀ L h' news → Q (.bytes (b64 ck).toArray t) { s with heap := h', toks := tk' }) :
  wpAny (model PySem.Challenge.rw_rr0075_01.row.prog w) (ktrTop dp un gd cn cs L a ccd cl outer) (call (.ref 267) [.ref x]) Q E s := by
  refine wpAny_call ?_
  k_dflt cell_enter
  (repeat' ((first | (k_unfold; (try dsimp only)) | (k_end; kc_close) | walk1 | (dsimp only; walk1) | (leave1; (try dsimp only)) | fail "no step")))
  exact hret _ _ _ (by assumption) (by assumption)
local macro_rules | `(tactic| walk_at "call ref") => `(tactic| (k_here; (with_reducible show wpAny _ _ (call (Value.ref 218) [Value.ref _, Value.ref _]) _ _ _); k_dflt (refine' vote_ok ?k1 ?k2 ?k3 ?k4 ?k5 ?k6 ?k7 ?k8 ?c1 ?c2 ?k9 ?k10 ?k11 ?l9 ?l10 ?l11 ?k12 ?k13 ?k14 ?k15 ?_; (case k1 => k_asm); (case k2 => k_asm); (case k3 => k_asm); (case k4 => k_asm); (case k5 => k_asm); (case k6 => exact rfl); (case k7 => ktr_room); (case k8 => ktr_units); (case c1 => k_mem); (case c2 => k_mem); (case k9 => k_mem); (case k10 => assumption); (case k11 => assumption); (case l9 => k_mem); (case l10 => assumption); (case l11 => assumption); (case k12 => k_mem); (case k13 => assumption); (case k14 => assumption); (case k15 => assumption)); intro r9 t9 h9 tk9 F9 N9 V9))

theorem sort_top {prog : Program} {w : World} {A : Around} {E : Value → Shared → Prop} {s : Shared} {h₀ : Heap} {L D : Addr} {m : Str → Option Value} {news : List (Addr × Obj)} {vs : List Value} {ns : List Int} {n : Nat} {Q : Value → Shared → Prop}
    (F : Fr h₀ L s.heap m) (N : News h₀ L s.heap ((D, listOf vs.toArray n) :: news)) (hne : ∀ q ∈ news, q.1 ≠ D) (hI : IntsAre vs ns) (h64 : vs.length < 64)
    (h : ∀ vs' ns' e h', Fr h₀ L h' m → News h₀ L h' ((D, listOf vs'.toArray e) :: news) → IntsAre vs' ns' → ns'.Perm ns → ns'.Pairwise (· ≤ ·) → Q .none { s with heap := h' }) :
    wpAny (model prog w) A (call (.builtin "list.sort") [.ref D]) Q E s := by
  have z := N _ (List.Mem.head _)
  have ho : s.heap.get? D = some (seqObj "list" vs.toArray n) := z.1
  obtain ⟨oL, es, ep, hL, r⟩ := F.ns
  have hold : ∀ out b o, b ≠ D → s.heap.get? b = some o → (sortedHeap s.heap D vs out).get? b = some o := fun out b o hb e => (sortedHeap_old hb (Heap.lt_size e)).trans e
  refine wpAny_call_entry PyProof.Rows.slot_list_sort ⟨_, z.1, rfl⟩ PyProof.Rows.entry_list_sort (list_sort_tree ho hI h64 fun out ns' a1 a2 a3 => ⟨.none, rfl, ?_⟩) (PyProof.Rows.args_list_sort _)
  obtain ⟨e, he⟩ := sortedHeap_at (vs := vs) (out := out) ho
  refine h out.toList ns' e _ ⟨⟨oL, es, ep, hold _ _ _ (Ne.symm z.2.1) hL, r⟩, fun b o hb => hold _ _ _ (fun q => ?_) (F.keep b o hb), F.above⟩ (fun p hp => ?_) a1 a2 a3
  · rw [q, z.2.2] at hb; cases hb
  · rcases List.mem_cons.mp hp with rfl | hp
    · exact ⟨he, z.2⟩
    · exact ⟨hold _ _ _ (hne p hp) (N p (.tail _ hp)).1, (N p (.tail _ hp)).2⟩
theorem flat_keys {kvs : List (Int × Value)} {H : List (Int × Int)} (hf : FlatPairs PyData.int kvs (kdfD H)) : kvs.map (·.1) = H.map (·.1) := by
  generalize hD : kdfD H = D at hf
  induction hf generalizing H with
  | nil =>
    cases H with
    | nil => rfl
    | cons q H => simp [kdfD] at hD
  | cons _ _ ih =>
    cases H with
    | nil => simp [kdfD] at hD
    | cons q H =>
      simp only [kdfD, List.map_cons, List.cons.injEq, Prod.mk.injEq, PyData.int.injEq] at hD
      rw [List.map_cons, List.map_cons, hD.1.1, ih hD.2]
theorem ints_of_keys : ∀ (vs : List Value) (ks : List Int), vs.length = ks.length → (∀ (j : Nat) (v : Value), vs[j]? = some v → ∃ (k : Int) (t : Tok), ks[j]? = some k ∧ v = Value.int k t) → IntsAre vs ks
  | [], [], _, _ => .nil
  | [], _ :: _, h, _ => absurd h (by simp)
  | _ :: _, [], h, _ => absurd h (by simp)
  | v :: vs, k :: ks, h, hj => by
    obtain ⟨k', t, hk, rfl⟩ := hj 0 v rfl
    cases hk
    exact .cons _ _ (ints_of_keys vs ks (by simpa using h) fun j v hv => hj (j + 1) v hv)
theorem sorted_dict {prog : Program} {w : World} {A : Around} {E : Value → Shared → Prop} {s : Shared} {h₀ : Heap} {L d : Addr} {m : Str → Option Value} {news : List (Addr × Obj)} {H : List (Int × Int)} {Q : Value → Shared → Prop}
    (hh : A.handled = none) (F : Fr h₀ L s.heap m) (N : News h₀ L s.heap news) (Ta : IntTab prog w s.heap d (kdfD H)) (hn : H.length < 64)
    (h : ∀ B vs' ns' e h' tk, Fr h₀ L h' m → News h₀ L h' ((B, listOf vs'.toArray e) :: news) → (∀ q ∈ news, q.1 < B) → IntsAre vs' ns' → ns'.Perm (H.map (·.1)) → ns'.Pairwise (· ≤ ·) → Q (.ref B) { s with heap := h', toks := tk }) :
    wpAny (model prog w) A (call (.builtin "sorted") [.ref d]) Q E s := by
  obtain ⟨lo, kvs, hD, hf⟩ := Ta
  obtain ⟨ep, hat⟩ := hD.dictAt
  have hlen : kvs.length = H.length := by rw [← hf.length, kdfD_length]
  refine kdu_sorted (kdl_dict (knd := PySem.intKind prog w) (kvs := kvs) (ep := ep) lo) hh F N hat (by rw [sizeLine_eq]; omega) fun B h' tk vs F' N' l1 hl hv => ?_
  have hI : IntsAre vs (H.map (·.1)) := by
    rw [← flat_keys hf]
    refine ints_of_keys _ _ (by rw [hl, List.length_map]) fun j v e => ?_
    obtain ⟨k, x, hx, hk⟩ := hv j v e
    obtain ⟨t, rfl⟩ := Flat.int_inv (kdl_flat_int hk)
    exact ⟨k, t, by rw [List.getElem?_map, hx]; rfl, rfl⟩
  refine sort_top F' N' (fun q hq => Nat.ne_of_lt (l1 q hq)) hI (by rw [hl, hlen]; exact hn) fun vs' ns' e h'' F'' N'' a1 a2 a3 => ?_
  exact h B vs' ns' e h'' tk F'' N'' l1 a1 a2 a3
def kbPut (c : List (Int × Bool)) (k : Int) (v : Bool) : List (Int × Bool) :=
  if c.any (fun p => decide (p.1 = k)) then c.map (fun p => if decide (p.1 = k) then (p.1, v) else p) else c ++ [(k, v)]
theorem kbPut_len (c : List (Int × Bool)) (k : Int) (v : Bool) : (kbPut c k v).length ≤ c.length + 1 := by
  unfold kbPut
  split
  · rw [List.length_map]; omega
  · rw [List.length_append]; simp
theorem kbD_any (c : List (Int × Bool)) (k : Int) : ((kbD c).any fun p => PySem.Spec.same p.1 (PyData.int k)) = c.any fun p => decide (p.1 = k) := by
  induction c with
  | nil => rfl
  | cons p c ih =>
    show (PySem.Spec.same (PyData.int p.1) (PyData.int k) || (kbD c).any fun p => PySem.Spec.same p.1 (PyData.int k)) = (decide (p.1 = k) || c.any fun p => decide (p.1 = k))
    rw [ih, PyProof.V.same_int]
theorem kbD_put (c : List (Int × Bool)) (k : Int) (v : Bool) : putD (PyData.int k) (PyData.bool v) (kbD c) = kbD (kbPut c k v) := by
  unfold putD kbPut
  rw [kbD_any]
  by_cases hc : (c.any fun p => decide (p.1 = k)) = true
  · rw [if_pos hc, if_pos hc]
    unfold kbD
    rw [List.map_map, List.map_map]
    refine List.map_congr_left fun p _ => ?_
    show (if PySem.Spec.same (PyData.int p.1) (PyData.int k) = true then (PyData.int p.1, PyData.bool v) else (PyData.int p.1, PyData.bool p.2)) = (fun p : Int × Bool => (PyData.int p.1, PyData.bool p.2)) (if decide (p.1 = k) = true then (p.1, v) else p)
    rw [PyProof.V.same_int]
    by_cases hp : p.1 = k
    · rw [if_pos (decide_eq_true hp), if_pos (decide_eq_true hp)]
    · rw [if_neg (by simp [hp]), if_neg (by simp [hp])]
  · rw [if_neg hc, if_neg hc]
    unfold kbD
    rw [List.map_append]
    rfl
theorem kbLook_map (c : List (Int × Bool)) (k : Int) (v : Bool) (j : Int) : kbLook (c.map (fun p => if decide (p.1 = k) then (p.1, v) else p)) j = if j = k then (if c.any (fun p => decide (p.1 = k)) then some v else none) else kbLook c j := by
  unfold kbLook
  induction c with
  | nil => simp
  | cons p c ih =>
    rw [List.map_cons, List.find?_cons, List.find?_cons, List.any_cons]
    by_cases h1 : p.1 = k
    · by_cases h2 : j = k
      · simp [h1, h2]
      · have h3 : ¬ k = j := fun e => h2 e.symm
        simp only [h1, decide_true, if_true, h2, if_false, h3, decide_false]
        rw [ih]; simp [h2]
    · by_cases h2 : j = k
      · subst h2
        simp only [h1, decide_false, Bool.false_eq_true, if_false, if_true, Bool.false_or]
        rw [ih]; simp
      · by_cases h3 : p.1 = j
        · simp [h1, h2, h3]
        · simp only [h1, h2, h3, decide_false, Bool.false_eq_true, if_false]
          rw [ih]; simp [h2]
theorem kbLook_put (c : List (Int × Bool)) (k : Int) (v : Bool) (j : Int) : kbLook (kbPut c k v) j = if j = k then some v else kbLook c j := by
  unfold kbPut
  by_cases hc : (c.any fun p => decide (p.1 = k)) = true
  · rw [if_pos hc, kbLook_map, if_pos hc]
  · rw [if_neg hc]
    have hn : ∀ p ∈ c, ¬ p.1 = k := by
      intro p hp e
      exact hc (List.any_eq_true.mpr ⟨p, hp, by simp [e]⟩)
    unfold kbLook
    rw [List.find?_append]
    by_cases hj : j = k
    · subst hj
      have : c.find? (fun p => decide (p.1 = j)) = none := List.find?_eq_none.mpr fun p hp => by simpa using hn p hp
      rw [this]; simp
    · cases hf : c.find? (fun p => decide (p.1 = j)) with
      | some p => simp [hj]
      | none =>
        have h3 : ¬ k = j := fun e => hj e.symm
        simp [hj, h3]
theorem kb_setItem {prog : Program} {w : World} {A : Around} {E : Value → Shared → Prop} {s : Shared} {h₀ : Heap} {L d : Addr} {m : Str → Option Value} {news : List (Addr × Obj)} {o : Obj} {kvs : List (Int × Value)} {c : List (Int × Bool)} {k : Int} {tk : Tok} {b : Bool} {Q : Unit → Shared → Prop}
    (F : Fr h₀ L s.heap m) (N : News h₀ L s.heap ((d, o) :: news)) (hne : ∀ p ∈ news, p.1 ≠ d) (hd : o.IsDictOf (PySem.intKind prog w) kvs) (hf : FlatPairs PyData.int kvs (kbD c)) (hc : c.length ≤ 1000)
    (h : ∀ h' o' kvs', Fr h₀ L h' m → News h₀ L h' ((d, o') :: news) → o'.IsDictOf (PySem.intKind prog w) kvs' → FlatPairs PyData.int kvs' (kbD (kbPut c k b)) → Q () { s with heap := h', toks := s.toks + 1 }) :
    wpAny (model prog w) A (setItem (.ref d) (.int k tk) (.bool b)) Q E s :=
  setItem_K PyProof.V.same_int (intKind_is _ _ _ _) (PyProof.V.Flat.bool b) F N (UpdF.head hne) hd hf (fun h' o' F' N' a e => h h' o' _ F' N' a (by rw [← kbD_put]; exact e)) (by unfold kbD; rw [List.length_map, sizeLine_eq]; omega)
theorem kdf_getItem {prog : Program} {w : World} {A : Around} {E : Value → Shared → Prop} {s : Shared} {d : Addr} {c : List (Int × Int)} {k : Int} {tk : Tok} {Q : Value → Shared → Prop} (T : IntTab prog w s.heap d (kdfD c)) (hk : kdfHas c k = true) (h : ∀ t, Q (.int (kdfLook c k 0) t) { s with toks := s.toks + 1 }) :
    wpAny (model prog w) A (getItem (.ref d) (.int k tk)) Q E s :=
  getItem_tab PyProof.V.same_int (intKind_is _ _ _ _) T (kdfD_item hk) (fun v hv => by
    obtain ⟨t, ht⟩ := PyProof.V.Flat.int_inv hv
    rw [ht]
    exact h t)
local macro_rules | `(tactic| walk_at "getItem ref int") => `(tactic| (k_here; k_dflt (refine kdf_getItem (by k_tabat) (by assumption) ?_); intro _; (try dsimp only)))
def winG (ns : List Int) (g : Int → Bool) : Bool := decide (ns = [] ∨ ns.length < 2 * (ns.filter g).length)
def nearG (H : List (Int × Int)) (ck sp nid : Int) (j : Int) : Bool := j == nid || (kdfHas H j && decide (ck - kdfLook H j 0 < sp - 1))
theorem vote_bool {r : Int} {b : Bool} (V : VoteIs r b) : b = (r == 3) := by
  rw [Bool.eq_iff_iff, ← V.2, beq_iff_eq]
theorem win_near {D : List (Int × Bool)} {g : Int → Bool} (h : ∀ j, (kbLook D j == some true) = g j) (ns : List Int) : winF ns D = winG ns g := by
  unfold winF winG
  have e : (fun n => kbLook D n == some true) = g := funext h
  rw [e]
local macro_rules | `(tactic| walk_at "call builtin:sorted") => `(tactic| (k_here; k_dflt (refine sorted_dict rfl (by k_asm) (by k_asm) (by k_tabat) (by omega) ?_); intro B9 vs9 ns9 e9 h9 tk9 F9 N9 l9 I9 P9 S9))
local macro_rules | `(tactic| walk_at "subscriptTail") => `(tactic| (k_here; (with_reducible show wpAny _ _ (subscriptTail _ _ (Value.ref _) (Value.int _ _)) _ _ _); k_dflt (refine kdf_item (by k_tabat) (by assumption) ?_); intro _; (try dsimp only)))
local macro_rules | `(tactic| walk_at "setItem") => `(tactic| (k_here; k_dflt (refine kb_setItem (by k_asm) (by k_asm) (by assumption) (by k_asm) (by k_asm) (by omega) ?_); intro h9 o9 kvs9 F9 N9 d9 f9; (try dsimp only)))
set_option maxHeartbeats 4000000 in
theorem holds_ok (B : Below A₀ base outer h₀) (F : Fr h₀ L s.heap m) (X : (Mine.hd.heap_39 w.params).In h₀) (N : News h₀ L s.heap news) (T : Top Mine.hd.view_39 (looseW Mine.hd.view_39 []) mean mg mb h₀) (hk : cs.kind = .function) (hdd : dp + 9 < recursionLimit) (hu : un + 90 < cLine)
  {x dx hd : Addr} {g1 g2 g3 g4 : Int} {y1 y2 y3 y4 y5 y6 : Tok} {sp ck : Int} {gu : Bool} {ng : Nat} (hx : (x, instObj 291 dx) ∈ news) (hdx : (dx, dictOf [⟨g1, .str (Str.ofString "span") y1, .int sp y5⟩, ⟨g2, .str (Str.ofString "clock") y2, .int ck y6⟩, ⟨g3, .str (Str.ofString "heard") y3, .ref hd⟩, ⟨g4, .str (Str.ofString "given_up") y4, .bool gu⟩] ng) ∈ news) (hi0 : 0 ≤ ck) (hi1 : ck < 256)
  {oh : Obj} {hkvs : List (Int × Value)} {H : List (Int × Int)} (hhm : (hd, oh) ∈ news) (hhlo : (hd == sysModules) = false) (hdoh : oh.IsDictOf (PySem.intKind PySem.Challenge.rw_rr0075_01.row.prog w) hkvs) (hhf : FlatPairs PyData.int hkvs (kdfD H)) (hHl : H.length ≤ 50)
  {c cd l l2 : Addr} {vs vs2 : List Value} {ns ns2 : List Int} {nn nn2 : Nat} {k1 k2 k3 k4 k5 : Int} {u1 u2 u3 u4 u5 : Tok} {v3 v4 v5 : Value} {nc : Nat} (hc : (c, instObj 235 cd) ∈ news) (hcd : (cd, dictOf [⟨k1, .str (Str.ofString "voters") u1, .ref l⟩, ⟨k2, .str (Str.ofString "outgoing") u2, .ref l2⟩, ⟨k3, .str (Str.ofString "learners") u3, v3⟩, ⟨k4, .str (Str.ofString "learners_next") u4, v4⟩, ⟨k5, .str (Str.ofString "auto_leave") u5, v5⟩] nc) ∈ news)
  (hl : (l, listOf vs.toArray nn) ∈ news) (hi : IntsAre vs ns) (hlen : ns.length ≤ 8)
  (hl2 : (l2, listOf vs2.toArray nn2) ∈ news) (hi2 : IntsAre vs2 ns2) (hlen2 : ns2.length ≤ 8) {nid : Int} {tn : Tok}
  (hret : ∀ (h' : Heap) (tk' : Nat), Fr h₀ L h' m → News h₀ L h' news → Q (.bool (!gu && (winG ns (nearG H ck sp nid) && winG ns2 (nearG H ck sp nid)))) { s with heap := h', toks := tk' }) :
  wpAny (model PySem.Challenge.rw_rr0075_01.row.prog w) (ktrTop dp un gd cn cs L a ccd cl outer) (call (.ref 288) [.ref x, .ref c, .int nid tn]) Q E s := by
  refine wpAny_call ?_
  k_dflt cell_enter
  (repeat' ((fail_if_success (with_reducible show wpAny _ _ (exec (Stmt.For _ _ _ _ _) _) _ _ _)); (first | (k_unfold; (try dsimp only)) | (k_end; kc_close) | walk1 | (dsimp only; walk1) | (leave1; (try dsimp only)) | fail "no step")))
  rename Fr _ _ _ _ => F1
  with_unfolding_all refine' For_invVF F1 ?k1 ?k2 ?_
  case k1 => exact rfl
  case k2 => exact rfl
  (repeat' ((fail_if_success (with_reducible show wpAny _ _ (pyIter _) _ _ _)); (first | (k_unfold; (try dsimp only)) | (k_end; kc_close) | walk1 | (dsimp only; walk1) | (leave1; (try dsimp only)) | fail "no step")))
  rename Fr _ _ _ _ => F2
  rename News _ _ _ _ => N2
  rename IntsAre _ _ => I2
  rename_i d9 _ o9 l1 lo9 _ _ di9 df9 _ _ B9 vs9 ns9 e9 h9 tk9 l9 P9 S9
  dsimp only
  have hB : d9 < B9 := l9 (d9, o9) (.head _)
  have N4 : News _ _ h9 ((d9, o9) :: (B9, listOf vs9.toArray e9) :: news) := fun p hp => by
    rcases List.mem_cons.mp hp with rfl | hp
    · exact N2 _ (.tail _ (.head _))
    · rcases List.mem_cons.mp hp with rfl | hp
      · exact N2 _ (.head _)
      · exact N2 _ (.tail _ (.tail _ hp))
  clear N2 F1
  have hlen9 : ns9.length ≤ 50 := by rw [P9.length_eq, List.length_map]; exact hHl
  refine' kst_listL (σ := Obj × List (Int × Value) × List (Int × Bool)) (fun c => (d9, c.1) :: (B9, listOf vs9.toArray e9) :: news) (fun _ => []) (fun c => c.1.IsDictOf (PySem.intKind PySem.Challenge.rw_rr0075_01.row.prog w) c.2.1 ∧ FlatPairs PyData.int c.2.1 (kbD c.2.2)) [] (fun pre c => c.2.2.length ≤ pre.length ∧ ∀ j, kbLook c.2.2 j = if j ∈ pre then some (decide (ck - kdfLook H j 0 < sp - 1)) else none) (o9, [], []) rfl (fun _ => .tail _ (.head _)) I2 F2 N4 ⟨di9, df9⟩ (fun p hp => (nomatch hp)) ⟨Nat.le_refl _, fun j => by simp [kbLook]⟩ ?turn ?done
  case turn =>
    rintro ⟨o8, kvs8, D8⟩ pre post n t u h8 tk8 own e8 hn8 hoff8 ⟨di8, df8⟩ ⟨hl8, hk8⟩ F3 N3
    dsimp only at hl8 hk8 di8 df8
    have N5 : News _ _ h8 ((d9, o8) :: (B9, listOf vs9.toArray e9) :: (news ++ own)) := N3
    clear N3 N4 F2
    have hpre : pre.length < ns9.length := by rw [e8]; simp
    have hne8 : ∀ p ∈ (B9, listOf vs9.toArray e9) :: (news ++ own), p.1 ≠ d9 := by
      intro p hp
      rcases List.mem_cons.mp hp with rfl | hp
      · exact Nat.ne_of_gt hB
      · rcases List.mem_append.mp hp with hp | hp
        · exact Nat.ne_of_lt (l1 p hp)
        · exact fun e => hoff8 p hp d9 (.head _) e
    have hhas : kdfHas H n = true := by
      have : n ∈ H.map (·.1) := P9.mem_iff.mp hn8
      obtain ⟨q, hq, rfl⟩ := List.mem_map.mp this
      exact List.any_eq_true.mpr ⟨q, hq, by simp⟩
    (repeat' ((fail_if_success (with_reducible show InvEndN _ _ _ _ _ _ _)); (first | (k_unfold; (try dsimp only)) | (k_end; kc_close) | walk1 | (dsimp only; walk1) | (leave1; (try dsimp only)) | fail "no step")))
    refine' kst_end (?oo, ?kk, kbPut D8 n (decide (ck - kdfLook H n 0 < sp - 1))) ?F ?N ?hn ?ho ?ha ?hf ?hk ?hr ?hp
    case hf => exact ⟨by assumption, by assumption⟩
    case F => assumption
    case N => assumption
    case ho => exact (fun p hp => .tail _ (.tail _ (List.mem_append.mpr (.inr hp))))
    case ha => exact rfl
    case hk => exact (fun p hp => (nomatch hp))
    case hr => exact (fun z z1 z2 z3 => by simp [z1, kstB])
    case hn =>
      intro p hp
      rcases List.mem_cons.mp hp with rfl | hp
      · exact .head _
      · rcases List.mem_cons.mp hp with rfl | hp
        · exact .tail _ (.head _)
        · exact .tail _ (.tail _ (List.mem_append.mpr (.inl hp)))
    refine ⟨?_, ?_⟩
    · have := kbPut_len D8 n (decide (ck - kdfLook H n 0 < sp - 1))
      simp only [List.length_append, List.length_singleton]
      omega
    · intro j
      rw [kbLook_put, hk8]
      by_cases h1 : j = n
      · subst h1; simp
      · by_cases h2 : j ∈ pre
        · simp [h1, h2]
        · simp [h1, h2]
  case done =>
    rintro ⟨o8, kvs8, D8⟩ u h8 tk8 ⟨di8, df8⟩ ⟨hl8, hk8⟩ F3 N3
    dsimp only at hl8 hk8 di8 df8
    have hne8 : ∀ p ∈ (B9, listOf vs9.toArray e9) :: news, p.1 ≠ d9 := by
      intro p hp
      rcases List.mem_cons.mp hp with rfl | hp
      · exact Nat.ne_of_gt hB
      · exact Nat.ne_of_lt (l1 p hp)
    have hg : ∀ j, (kbLook (kbPut D8 nid true) j == some true) = nearG H ck sp nid j := by
      intro j
      rw [kbLook_put, hk8]
      unfold nearG
      by_cases h1 : j = nid
      · simp [h1]
      · have hm : (j ∈ ns9) ↔ kdfHas H j = true := by
          rw [P9.mem_iff, List.mem_map]
          unfold kdfHas
          rw [List.any_eq_true]
          constructor
          · rintro ⟨q, hq, e⟩; exact ⟨q, hq, by simp [e]⟩
          · rintro ⟨q, hq, e⟩; exact ⟨q, hq, by simpa using e⟩
        by_cases h2 : j ∈ ns9
        · have h3 := hm.mp h2
          simp [h1, h2, h3]
        · have h3 : kdfHas H j = false := by
            cases hh : kdfHas H j with
            | false => rfl
            | true => exact absurd (hm.mpr hh) h2
          simp [h1, h2, h3]
    rw [← win_near hg ns, ← win_near hg ns2] at hret
    clear N4 F2
    (repeat' ((first | (k_unfold; (try dsimp only)) | (k_end; kc_close) | walk1 | (dsimp only; walk1) | (leave1; (try dsimp only)) | fail "no step")))
    · have e1 : gu = true := by assumption
      have e2 : (!gu && (winF ns (kbPut D8 nid true) && winF ns2 (kbPut D8 nid true))) = !gu := by rw [e1]; rfl
      rw [e2] at hret
      refine hret _ _ (by assumption) (fun p hp => ?_)
      rename News h₀ _ _ _ => N6
      exact N6 p (.tail _ (.tail _ hp))
    · have e1 : gu = false := by assumption
      rename VoteIs _ _ => V1
      rw [e1, Bool.not_false, Bool.true_and, vote_bool V1] at hret
      refine hret _ _ (by assumption) (fun p hp => ?_)
      rename News h₀ _ _ _ => N6
      exact N6 p (.tail _ (.tail _ hp))
end

end

-- P4a
theorem offP4a : True := by w_top off; trivial
section

theorem all_ne_of_lt {news : List (Addr × Obj)} {L d : Nat} (h : ∀ p ∈ news, p.1 < L) (hd : L ≤ d) : ∀ p ∈ news, p.1 ≠ d := fun p hp e => Nat.lt_irrefl _ (Nat.lt_of_lt_of_le (h p hp) (e ▸ hd))
inductive Tups (news : List (Addr × Obj)) : List Value → List (Int × Int) → Prop
  | nil : Tups news [] []
  | cons {t : Addr} {a b : Int} {ta tb : Tok} {n : Nat} {vs : List Value} {S : List (Int × Int)} : (t, ({ cls := .type "tuple", data := .seq #[.int a ta, .int b tb] n } : Obj)) ∈ news → Tups news vs S → Tups news (.ref t :: vs) ((a, b) :: S)
theorem Tups.length {news : List (Addr × Obj)} {vs : List Value} {S : List (Int × Int)} (h : Tups news vs S) : vs.length = S.length := by
  induction h with
  | nil => rfl
  | cons _ _ ih => simp [ih]
theorem Tups.get {news : List (Addr × Obj)} {vs : List Value} {S : List (Int × Int)} (h : Tups news vs S) : ∀ {i : Nat} {v : Value}, vs[i]? = some v → ∃ t a b ta tb n, v = .ref t ∧ S[i]? = some (a, b) ∧ (t, ({ cls := .type "tuple", data := .seq #[.int a ta, .int b tb] n } : Obj)) ∈ news := by
  induction h with
  | nil => intro i v e; simp at e
  | cons hm _ ih =>
    intro i v e
    cases i with
    | zero =>
      have e' : Value.ref _ = v := Option.some.inj e
      exact ⟨_, _, _, _, _, _, e'.symm, rfl, hm⟩
    | succ i => exact ih e
theorem Tups.mono {news news' : List (Addr × Obj)} {vs : List Value} {S : List (Int × Int)} (h : Tups news vs S) (hs : ∀ q ∈ news, q ∈ news') : Tups news' vs S := by
  induction h with
  | nil => exact .nil
  | cons hm _ ih => exact .cons (hs _ hm) ih
theorem ints_snoc {vs : List Value} {ns : List Int} (h : IntsAre vs ns) (n : Int) (t : Tok) : IntsAre (vs ++ [.int n t]) (ns ++ [n]) := by
  induction h with
  | nil => exact .cons _ _ .nil
  | cons _ _ _ ih => exact .cons _ _ ih
def picked' (S : List (Int × Int)) (p : Int → Int → Bool) : List Int := (S.filter fun q => p q.1 q.2).map (·.1)
theorem picked_snoc (S : List (Int × Int)) (p : Int → Int → Bool) (a b : Int) : picked' (S ++ [(a, b)]) p = picked' S p ++ (if p a b then [a] else []) := by
  unfold picked'
  rw [List.filter_append, List.map_append]
  cases h : p a b <;> simp [h]
theorem picked_len (S : List (Int × Int)) (p : Int → Int → Bool) : (picked' S p).length ≤ S.length := by
  unfold picked'
  rw [List.length_map]
  exact List.length_filter_le _ _
def nearL (nid now span : Int) (S : List (Int × Int)) : List Int := [nid] ++ picked' S (fun _ b => decide (now - b + 2 ≤ span))
def keepG (q : Int → Bool) (l : List Int) (k : Int) : List Int := if q k = true then l ++ [k] else l
theorem keepG_fold (q : Int → Bool) : ∀ (ns l : List Int), ns.foldl (keepG q) l = l ++ ns.filter q
  | [], l => by simp
  | n :: ns, l => by
    rw [List.foldl_cons, keepG_fold q ns, List.filter_cons]
    unfold keepG
    cases h : q n <;> simp
theorem keepG_grows (q : Int → Bool) : KPfGrows (keepG q) := by
  intro l k
  unfold keepG
  split
  · simp
  · omega
section
variable {prog : Program} {w : World} {A : Around} {E : Value → Shared → Prop} {s : Shared} {h₀ : Heap} {L : Addr} {m : Str → Option Value} {env : Env} {news : List (Addr × Obj)}
theorem comp_pairs {ct iter : PySem.Expr} {x y : Str} {pe px py tp : Pos} {tk : Nat} {scope : Scope} {cl : List (Str × Addr)} {pos : Pos} {Q : Value → Shared → Prop} {ax : Addr} {k : Nat} {vs : List Value} {S : List (Int × Int)} (p : Int → Int → Bool)
    (hh : A.handled = none) (F : Fr h₀ L s.heap m) (N : News h₀ L s.heap news) (hm : (ax, listOf vs.toArray k) ∈ news) (hT : Tups news vs S) (hsz : S.length ≤ 1000)
    (hclos : closureFor scope env = pure cl) (hcell : ∀ z ∈ scope.names, z.2 ≠ .cell) (hkind : scope.kind = .function) (hnames : ∀ z ∈ scope.names, z.2 = .local → scope.names.lookup z.1 = some .local)
    (hx : scope.names.lookup x = some .local) (hy : scope.names.lookup y = some .local) (hxy : x ≠ y) (hd : (x == ("__debug__" : Str)) = false)
    (hit : ∀ (Q' : Value → Shared → Prop) (E' : Value → Shared → Prop), Q' (.ref ax) s → wpAny (model prog w) A (eval iter env) Q' E' s)
    (turn : ∀ (a b : Int) (C : Addr) (oC : Obj) (m₂ : Str → Option Value) (h : Heap) (tk : Nat) (ta tb : Tok) (Q' : Bool → Shared → Prop) (E' : Value → Shared → Prop), LCg.NsObj oC m₂ → m₂ x = some (.int a ta) → m₂ y = some (.int b tb) → Fr h₀ L h m → News h₀ L h ((C, oC) :: news) →
      (∀ tk', Q' (p a b) { s with heap := h, toks := tk' }) → wpAny (model prog w) A (isTrue ct (compEnvC scope cl C env) (eval ct (compEnvC scope cl C env))) Q' E' { s with heap := h, toks := tk })
    (fin : ∀ D h tk ys, Fr h₀ L h m → News h₀ L h ((D, listOf ys.toArray ys.length) :: news) → (∀ q ∈ news, q.1 < D) → IntsAre ys (picked' S p) → Q (.ref D) { s with heap := h, toks := tk })
    (hs : ∀ x, foldedSetIterable iter env x = pure x := by intro _; rfl) :
    wpAny (model prog w) A (eval (.ListComp (.Name x pe) [⟨.Tuple [.Name x px, .Name y py] tk tp, iter, [ct], 0⟩] scope pos) env) Q E s := by
  rw [eval_ListComp]
  refine wpAny_comprehension_free (use := none) rfl hs hclos hkind hnames (hit _ _ ?_)
  have hol : s.heap.get? ax = some (listOf vs.toArray k) := (N _ hm).1
  have hls : s.heap.IsList ax vs.toArray := ⟨_, hol, rfl, k, rfl⟩
  refine wpAny_pyIter_list hls ?_
  have hlenS := hT.length
  refine wpAny_newObj_type (wpAny_newFunctionEnv hcell (by intro z hz; simp at hz) (fun h₁ hns₁ hsb₁ => ?_) hkind)
  dsimp only at hns₁ hsb₁ ⊢
  generalize hH1 : s.heap.push { cls := .type "list_iterator", data := .fields #[.ref ax, .int 0 0] } = H1 at hns₁ hsb₁ ⊢
  generalize hH2 : H1.push { cls := .type "list", dict := none, data := .seq ([] : List Value).toArray } = H2 at hns₁ hsb₁ ⊢
  have hs1 : H1.objs.size = s.heap.objs.size + 1 := by rw [← hH1, Heap.size_push]
  have hs2 : H2.objs.size = H1.objs.size + 1 := by rw [← hH2, Heap.size_push]
  have lt1 : ∀ b : Nat, b < s.heap.objs.size → b < H1.objs.size ∧ b < H2.objs.size := fun b hb => ⟨by omega, by omega⟩
  have low : ∀ b o, s.heap.get? b = some o → b < s.heap.objs.size := fun b o e => Heap.lt_size e
  have none₀ : ∀ b : Nat, s.heap.objs.size ≤ b → h₀.get? b = none := fun b hb => by
    cases e : h₀.get? b with
    | none => rfl
    | some o' => exact absurd (low b o' (F.keep b o' e)) (Nat.not_lt.mpr hb)
  have up1 : ∀ b o, s.heap.get? b = some o → H1.get? b = some o := fun b o e => by rw [← hH1]; exact Heap.get?_push_of_some _ e
  have up2 : ∀ b o, H1.get? b = some o → H2.get? b = some o := fun b o e => by rw [← hH2]; exact Heap.get?_push_of_some _ e
  have old : ∀ b o, s.heap.get? b = some o → h₁.get? b = some o := fun b o e =>
    hsb₁.extBut b o (Nat.ne_of_lt (lt1 b (low b o e)).2) (Heap.get?_push_of_some _ (up2 b o (up1 b o e)))
  -- the three addresses: the iterator, the list, the frame
  have hIC : (s.heap.objs.size : Addr) ≠ H2.objs.size := Nat.ne_of_lt (show s.heap.objs.size < H2.objs.size by omega)
  have hDC : (H1.objs.size : Addr) ≠ H2.objs.size := Nat.ne_of_lt (show H1.objs.size < H2.objs.size by omega)
  have hID : (s.heap.objs.size : Addr) ≠ H1.objs.size := Nat.ne_of_lt (show s.heap.objs.size < H1.objs.size by omega)
  have hD₁ : h₁.get? H1.objs.size = some { cls := .type "list", dict := none, data := .seq ([] : List Value).toArray } :=
    hsb₁.extBut _ _ hDC (Heap.get?_push_of_some _ (by rw [← hH2]; exact Heap.get?_push_size _ rfl))
  have hI₁ : h₁.IsListIter s.heap.objs.size ax 0 :=
    ⟨_, hsb₁.extBut _ _ hIC (Heap.get?_push_of_some _ (up2 _ _ (by rw [← hH1]; exact Heap.get?_push_size _ rfl))), rfl, rfl⟩
  have hL₀ : L < s.heap.objs.size := F.ns.lt
  have hLC : H2.objs.size ≠ L := Nat.ne_of_gt (lt1 L hL₀).2
  have hLD : H1.objs.size ≠ L := Nat.ne_of_gt (lt1 L hL₀).1
  have hLI : L ≠ s.heap.objs.size := Nat.ne_of_lt hL₀
  have nwlt : ∀ q ∈ news, q.1 < s.heap.objs.size := fun q hq => low _ _ (N q hq).1
  have W := Walks.list (prog := prog) (w := w) hh s.heap.objs.size ax (Nat.ne_of_lt (low _ _ hol)) vs.toArray
  have loop : ∀ s₃ : Shared, s₃ = { s with heap := h₁, toks := s.toks + ([] : List (Str × Value)).length } →
      codeAny (model prog w) A (.compLoop (.ListComp (.Name x pe) [⟨.Tuple [.Name x px, .Name y py] tk tp, iter, [ct], 0⟩] scope pos) 0 (.ref s.heap.objs.size) (.ref H1.objs.size) (compEnvC scope cl H2.objs.size env))
        (compPost (model prog w) A E none Q (.ref H1.objs.size) H2.objs.size) s₃ := by
    rintro s₃ rfl
    refine kct_loop
      (fun j s' => ∃ h' tk i ys m', s' = { s with heap := h', toks := tk } ∧ i ≤ vs.length ∧ j = vs.length + 1 - i ∧ ys.length ≤ i ∧ IntsAre ys (picked' (S.take i) p) ∧ (h'.IsListIter s.heap.objs.size ax i ∧ h'.IsList ax vs.toArray) ∧
        Fr h₀ L h' m ∧ h'.Ns H2.objs.size m' ∧ h'.get? H1.objs.size = some { cls := .type "list", data := .seq ys.toArray ys.length } ∧ News h₀ L h' news) ?_ (vs.length + 1)
      ⟨h₁, _, 0, [], _, rfl, Nat.zero_le _, rfl, Nat.le_refl _, .nil, ⟨hI₁, hls.at fun o e => old _ o e⟩, F.keeps old, hns₁, hD₁, fun q hq => ⟨old _ _ (N q hq).1, (N q hq).2⟩⟩
    rintro j s' ⟨h', tk', i, ys, m', rfl, hi, rfl, hyl, hyI, hst, F', hn', hD', N'⟩
    by_cases hlt : i < vs.length
    · refine W.item i _ _ _ (by simpa using hlt) hst fun v h₂ tk₂ hP hst₂ hk₂ => ?_
      have hP' : vs[i]? = some v := by simpa using hP
      obtain ⟨t, a, b, ta, tb, n9, rfl, hSi, htm⟩ := hT.get hP'
      have F₂ : Fr h₀ L h₂ m := LCg.fr_but F' hk₂ hLI (none₀ _ (Nat.le_refl _))
      have N₂ : News h₀ L h₂ news := LCg.news_but N' hk₂ fun q hq => Nat.ne_of_lt (nwlt q hq)
      have hD₂ : h₂.get? H1.objs.size = some { cls := .type "list", data := .seq ys.toArray ys.length } := hk₂ _ _ (by simpa using Ne.symm hID) hD'
      have hn₂ : h₂.Ns H2.objs.size m' := hn'.at' fun o e => hk₂ _ o (by simpa using Ne.symm hIC) e
      have htup : IsTup h₂ t #[.int a ta, .int b tb] := ⟨_, (N₂ _ htm).1, rfl, n9, rfl⟩
      refine wpAny_letOwnedTupleGo_listiter hst₂.1 ?_
      refine assign_Tuple_tuple hh htup rfl rfl fun h₅ he => ?_
      have he' : ∀ b o, h₂.get? b = some o → h₅.get? b = some o := fun b o e => he b o (Nat.ne_of_lt (Heap.lt_size e)) e
      refine assignInOrder_cons (wpAny_assign_Name (wpAny_storeName_local (lookup_relabel_local hx) (hn₂.at' fun o e => he' _ o e) (fun h₆ hn₆ hs₆ => ?_) (by simp [compEnvC, relabel, hkind])))
      refine assignInOrder_cons (wpAny_assign_Name (wpAny_storeName_local (lookup_relabel_local hy) hn₆ (fun h₃ hn₃ hs₃ => ?_) (by simp [compEnvC, relabel, hkind])))
      refine assignInOrder_nil ?_
      have old3 : ∀ b o, b ≠ H2.objs.size → h₂.get? b = some o → h₃.get? b = some o := fun b o hb e => hs₃.extBut b o hb (hs₆.extBut b o hb (he' b o e))
      have hC₀ : h₀.get? H2.objs.size = none := none₀ _ (by omega)
      have F₃ : Fr h₀ L h₃ m := ((F₂.keeps he').change hs₆ hLC hC₀).change hs₃ hLC hC₀
      have N₃ : News h₀ L h₃ news := fun q hq => ⟨old3 _ _ (Nat.ne_of_lt (lt1 _ (nwlt q hq)).2) (N₂ q hq).1, (N₂ q hq).2⟩
      have hst₃ : h₃.IsListIter s.heap.objs.size ax (i + 1) ∧ h₃.IsList ax vs.toArray :=
        ⟨by obtain ⟨o', q, r⟩ := hst₂.1; exact ⟨o', old3 _ _ hIC q, r⟩, by obtain ⟨o', q, r⟩ := hst₂.2; exact ⟨o', old3 _ _ (Nat.ne_of_lt (lt1 _ (low _ _ hol)).2) q, r⟩⟩
      have hD₃ := old3 _ _ hDC hD₂
      have hSt : S.take (i + 1) = S.take i ++ [(a, b)] := by rw [List.take_add_one, hSi]; rfl
      obtain ⟨oC, heC, hoC⟩ := LCg.ns_obj hn₃
      have N₄ : News h₀ L h₃ ((H2.objs.size, oC) :: news) := fun q hq => by
        rcases List.mem_cons.mp hq with rfl | hq
        · exact ⟨heC, hLC, hC₀⟩
        · exact N₃ q hq
      refine turn a b H2.objs.size oC _ h₃ _ ta tb _ _ hoC (by simp [hxy]) (by simp) F₃ N₄ (fun tk₇ => ?_)
      cases hp : p a b with
      | true =>
        rw [if_pos rfl]
        refine wpAny_Name (wpAny_loadName_local (v := .int a ta) (by simp [compEnvC, relabel, hkind]) (lookup_relabel_local hx) hn₃ (by simp [hxy]) ?_) hd
        refine append_at (hsz := by show ys.toArray.size ≤ sizeLine; rw [List.size_toArray, sizeLine_eq]; omega) hD₃ fun h₈ hs₈ hD₈ => ?_
        have old8 : ∀ b o, b ≠ H1.objs.size → h₃.get? b = some o → h₈.get? b = some o := fun b o hb e => hs₈.extBut b o hb e
        refine ⟨vs.length + 1 - (i + 1), by omega, h₈, tk₇, i + 1, ys ++ [.int a ta], _, rfl, hlt, rfl, by rw [List.length_append, List.length_singleton]; omega, ?_,
          ⟨by obtain ⟨o', q, r⟩ := hst₃.1; exact ⟨o', old8 _ _ hID q, r⟩, by obtain ⟨o', q, r⟩ := hst₃.2; exact ⟨o', old8 _ _ (Nat.ne_of_lt (lt1 _ (low _ _ hol)).1) q, r⟩⟩,
          F₃.change hs₈ hLD (none₀ _ (by omega)), hn₃.sameBut hs₈ (Ne.symm hDC), ?_, fun q hq => ⟨old8 _ _ (Nat.ne_of_lt (lt1 _ (nwlt q hq)).1) (N₃ q hq).1, (N₃ q hq).2⟩⟩
        · rw [hSt, picked_snoc, hp, if_pos rfl]
          exact ints_snoc hyI a ta
        · exact hD₈.trans (congrArg some (LCg.lst_snoc ys (.int a ta)))
      | false =>
        rw [if_neg Bool.false_ne_true]
        refine ⟨vs.length + 1 - (i + 1), by omega, h₃, tk₇, i + 1, ys, _, rfl, hlt, rfl, by omega, ?_, hst₃, F₃, hn₃, hD₃, N₃⟩
        rw [hSt, picked_snoc, hp, if_neg Bool.false_ne_true, List.append_nil]
        exact hyI
    · have hin : i = vs.length := by omega
      subst hin
      rw [List.take_of_length_le (by omega)] at hyI
      have hsz9 : vs.toArray.size = vs.length := by simp
      refine W.done _ _ _ (by rw [hsz9]; exact hst) fun h₂ tk₂ hk₂ => ?_
      have F₂ : Fr h₀ L h₂ m := LCg.fr_but F' hk₂ hLI (none₀ _ (Nat.le_refl _))
      have N₂ : News h₀ L h₂ news := LCg.news_but N' hk₂ fun q hq => Nat.ne_of_lt (nwlt q hq)
      have hD₂ : h₂.get? H1.objs.size = some { cls := .type "list", data := .seq ys.toArray ys.length } := hk₂ _ _ (by simpa using Ne.symm hID) hD'
      have hn₂ : h₂.Ns H2.objs.size m' := hn'.at' fun o e => hk₂ _ o (by simpa using Ne.symm hIC) e
      refine ⟨m', hn₂, fun h'' hs'' => ?_⟩
      have old9 : ∀ b o, b ≠ H2.objs.size → h₂.get? b = some o → h''.get? b = some o := fun b o hb e => hs''.extBut b o hb e
      refine fin H1.objs.size h'' tk₂ ys (F₂.change hs'' hLC (none₀ _ (by omega))) (fun q hq => ?_) (fun q hq => (lt1 _ (nwlt q hq)).1) hyI
      rcases List.mem_cons.mp hq with rfl | hq
      · exact ⟨old9 _ _ hDC hD₂, hLD, none₀ _ (by omega)⟩
      · exact ⟨old9 _ _ (Nat.ne_of_lt (lt1 _ (nwlt q hq)).2) (N₂ q hq).1, (N₂ q hq).2⟩
  exact codeAny_compStart_list (loop _ rfl) (W.self 0 _ _ _ ⟨hI₁, hls.at fun o e => old _ o e⟩ (loop _ rfl))
theorem add_ints9 {l b : Addr} {vs ws : List Value} {ns ms : List Int} {a c : Nat} {Q : Value → Shared → Prop} (F : Fr h₀ L s.heap m) (N : News h₀ L s.heap news) (ha : (l, listOf vs.toArray a) ∈ news) (hb : (b, listOf ws.toArray c) ∈ news) (hi : IntsAre vs ns) (hj : IntsAre ws ms) (hsz : ns.length + ms.length ≤ 1000)
    (h : ∀ D xs h', Fr h₀ L h' m → News h₀ L h' ((D, listOf xs.toArray 0) :: news) → (∀ q ∈ news, q.1 < D) → IntsAre xs (ns ++ ms) → Q (.ref D) { s with heap := h' }) :
    wpAny (model prog w) A (binaryOp .Add (.ref l) (.ref b)) Q E s :=
  add_arrays_ints (its := vs.toArray) (its2 := ws.toArray) (hsz := by rw [sizeLine_eq]; omega) F N (News.isList N ha) (News.isList N hb) hi hj fun h' F' N' hI => h _ (vs ++ ws) h' F' N' (fun q hq => Heap.lt_size (N q hq).1) hI
theorem len_made9 {l : Addr} {vs : List Value} {ns : List Int} {a : Nat} {Q : Value → Shared → Prop} (N : News h₀ L s.heap news) (ha : (l, listOf vs.toArray a) ∈ news) (hi : IntsAre vs ns) (hsz : ns.length ≤ 1000)
    (h : Q (.int ns.length (s.toks + 1)) { s with toks := s.toks + 1 + 1 }) : wpAny (model prog w) A (call (.builtin "len") [.ref l]) Q E s := by
  have e : vs.toArray.size = ns.length := by rw [List.size_toArray, hi.length]
  refine len_list (News.isList N ha) ?_ ?_
  · rw [e]; omega
  · rw [e]; exact h
end

end

-- P4
theorem offP4 : True := by w_top off; trivial
section

section
variable {w : World} {mean : ExcName → Option Value} {mg mb : Str → Option Value} {dp un : Nat} {gd : Option (List Code)} {cn : Str} {cs : Scope} {a : Addr} {ccd : Value} {cl : List (Str × Addr)} {outer : List Env} {A₀ : Around} {base h₀ : Heap} {L : Addr} {m : Str → Option Value} {s : Shared} {Q E : Value → Shared → Prop} {news : List (Addr × Obj)}
local macro_rules | `(tactic| k_all) => `(tactic| exact all_ne_of_lt (by assumption) (by omega))
local macro_rules | `(tactic| walk_at "call builtin:len") => `(tactic| (k_here; (with_reducible show wpAny _ _ (call (Value.builtin "len") [Value.ref _]) _ _ _); k_dflt (refine' len_made9 ?N ?m ?i ?z ?_; (case N => k_asm); (case m => k_mem); (case i => assumption); (case z => omega)); (try dsimp only)))
def stF (ns : List Int) (nid now span : Int) (S : List (Int × Int)) : Bool := decide ((ns.length : Int) < 2 * ((ns.filter fun k => (nearL nid now span S).any fun x => x == k).length : Int))
set_option maxHeartbeats 4000000 in
theorem stands1_ok (B : Below A₀ base outer h₀) (F : Fr h₀ L s.heap m) (X : (Mine.hd.heap_39 w.params).In h₀) (N : News h₀ L s.heap news) (T : Top Mine.hd.view_39 (looseW Mine.hd.view_39 []) mean mg mb h₀) (hk : cs.kind = .function) (hdd : dp + 9 < recursionLimit) (hu : un + 90 < cLine)
  {hv l sa : Addr} {vs svs : List Value} {ns : List Int} {S : List (Int × Int)} {nh nn nsv : Nat} {nid span now : Int} {t1 t2 t3 : Tok} 
  (hhv : (hv, listOf #[.ref l] nh) ∈ news) (hl : (l, listOf vs.toArray nn) ∈ news) (hi : IntsAre vs ns) (hlen : ns.length ≤ 8) 
  (hsa : (sa, listOf svs.toArray nsv) ∈ news) (hS : Tups news svs S) (hSl : S.length ≤ 50)
  (hret : ∀ (h' : Heap) (tk' : Nat), Fr h₀ L h' m → News h₀ L h' news → Q (.bool (stF ns nid now span S)) { s with heap := h', toks := tk' }) :
  wpAny (model PySem.Challenge.rw_rr0075_01.row.prog w) (ktrTop dp un gd cn cs L a ccd cl outer) (call (.ref 312) [.ref hv, .int nid t1, .int span t2, .int now t3, .ref sa, .bool false]) Q E s := by
  refine wpAny_call ?_
  k_dflt (refine' code_defC ?k1 ?k2 ?k3 ?k4 ?k5 ?kA ?kF ?kK ?k6 ?k7 ?k8 ?k9 ?kB ?kD ?_ ?c2 ?c3 ?c4; (case kA => exact rfl); (case kF => exact rfl); (case kK => assumption); (case k1 => k_asm); (case k2 => k_asm); (case k3 => k_asm); (case k4 => k_asm); (case k5 => k_asm); (case k6 => k_is); (case k7 => k_is); (case k8 => ktr_room); (case k9 => exact BindsTo.of_eq rfl); (case kB => exact rfl); (case kD => decide +kernel); (case c2 => exact rfl); (case c3 => exact rfl); (case c4 => exact rfl); k_whole; intro g' L' h' tk' cells' FG' F' N' Y' B' X' T' l1; k_cells Y'; (try simp only [List.cons_append, List.nil_append] at N'); (try dsimp only); (try k_lift B'); (try k_fold))
  (repeat' ((fail_if_success (with_reducible show wpAny _ _ (eval (Expr.ListComp _ _ _ _) _) _ _ _)); (first | (k_unfold; (try dsimp only)) | (k_end; kc_close) | walk1 | (dsimp only; walk1) | (leave1; (try dsimp only)) | fail "no step")))
  dsimp only
  rename News _ _ _ _ => N2
  rename Fr _ _ _ _ => F2
  refine' comp_pairs (fun _ b => decide (now - b + 2 ≤ span)) rfl F2 N2 ?hm (hS.mono ?hsub) (by omega) ?c1 ?c2 ?c3 ?c4 ?c5 ?c6 ?c7 ?c8 ?hit ?turn ?fin
  case hm => k_mem
  case hsub => (intro q hq; k_mem)
  case c1 => with_unfolding_all rfl
  case c2 => decide
  case c3 => rfl
  case c4 => decide
  case c5 => rfl
  case c6 => rfl
  case c7 => decide
  case c8 => decide
  case hit =>
    intro Q9 E9 h9
    ((try (first | (k_unfold; (try dsimp only)) | (k_end; kc_close) | walk1 | (dsimp only; walk1) | (leave1; (try dsimp only)) | fail "no step")); (try (first | (k_unfold; (try dsimp only)) | (k_end; kc_close) | walk1 | (dsimp only; walk1) | (leave1; (try dsimp only)) | fail "no step")); (try (first | (k_unfold; (try dsimp only)) | (k_end; kc_close) | walk1 | (dsimp only; walk1) | (leave1; (try dsimp only)) | fail "no step")))
    exact h9
  case turn =>
    intro a b C oC m₂ h tk ta tb Q9 E9 hC' hx' hy' F' N' hq
    (repeat' ((first | (k_unfold; (try dsimp only)) | (k_end; kc_close) | walk1 | (dsimp only; walk1) | (leave1; (try dsimp only)) | fail "no step")))
    exact hq _
  case fin =>
    intro D h tk ys F' N' l3 hI
    try k_lt l3
    refine' add_ints9 F' N' ?ha ?hb ?hi ?hj ?hsz ?_
    case ha => k_mem
    case hb => k_mem
    case hi => l_intsW
    case hj => exact hI
    case hsz =>
      have := picked_len S (fun _ b => decide (now - b + 2 ≤ span))
      simp only [List.length_cons, List.length_nil]
      omega
    intro D2 xs h2 F2 N2 l2 hI2
    try k_lt l2
    clear hI
    (repeat' ((fail_if_success (with_reducible show wpAny _ _ (eval (Expr.ListComp _ _ _ _) _) _ _ _)); (first | (k_unfold; (try dsimp only)) | (k_end; kc_close) | walk1 | (dsimp only; walk1) | (leave1; (try dsimp only)) | fail "no step")))
    ((try (first | (k_unfold; (try dsimp only)) | (k_end; kc_close) | walk1 | (dsimp only; walk1) | (leave1; (try dsimp only)) | fail "no step")))
    (repeat' ((fail_if_success (with_reducible show wpAny _ _ (eval (Expr.ListComp _ _ _ _) _) _ _ _)); (first | (k_unfold; (try dsimp only)) | (k_end; kc_close) | walk1 | (dsimp only; walk1) | (leave1; (try dsimp only)) | fail "no step")))
    k_dflt (refine LCt.ListComp_T (F₀ := by k_asm) (by with_unfolding_all rfl) (by decide) (by rfl) (by decide) (by rfl) ?_)
    (repeat' ((fail_if_success (with_reducible show LCt.CompSrcT _ _ _ _ _ _ _ _ _ _ _ _ _ _ _)); (first | (k_unfold; (try dsimp only)) | (k_end; kc_close) | walk1 | (dsimp only; walk1) | (leave1; (try dsimp only)) | fail "no step")))
    k_dflt (refine LCt.CompSrcT.ledger (by rfl) (by k_asm) (by k_asm) (by k_mem) (by rw [List.size_toArray, sizeLine_eq, IntsAre.length hi]; omega) ?_)
    intro g7
    refine' kci_list (keepG fun k => (nearL nid now span S).any fun x => x == k) hi (fun k' t' I' oI' C' oC' D' m' ys' l' h' tk' E' hk' hI' hC' hx' F' N' off' ne' _ => ?_) ?_ (keepG_grows _)
    · (repeat' ((fail_if_success (with_reducible show LCg.CompEnd _ _ _ _ _ _ _ _ _ _ _ _ _ _)); (first | (k_unfold; (try dsimp only)) | (k_end; kc_close) | walk1 | (dsimp only; walk1) | (leave1; (try dsimp only)) | fail "no step")))
      · exact ⟨_, _, _, rfl, F', N', off', .inr ⟨_, by k_mem, rfl, _, rfl⟩, kci_el (t := t') (if_pos (by assumption)) rfl rfl⟩
      · exact ⟨_, _, _, rfl, F', N', off', .inr ⟨_, by k_mem, rfl, _, rfl⟩, kci_no (if_neg (by first | assumption | (simp only [nearL]; simp only [*]; decide))) rfl⟩
    intro ys7 hI7 hl7 D7 h7 tk7 F7 N7 off7
    rw [keepG_fold, List.nil_append] at hI7
    have hf7 : (ns.filter fun k => (nearL nid now span S).any fun x => x == k).length ≤ 8 := Nat.le_trans (List.length_filter_le _ _) hlen
    (repeat' ((fail_if_success (with_reducible show LCg.CompEnd _ _ _ _ _ _ _ _ _ _ _ _ _ _)); (first | (k_unfold; (try dsimp only)) | (k_end; kc_close) | walk1 | (dsimp only; walk1) | (leave1; (try dsimp only)) | fail "no step")))
    rename Fr _ _ _ _ => F8
    rename News _ _ _ _ => N8
    refine ⟨_, _, _, rfl, F8, fun p hp => N8 p (.tail _ hp), by assumption, .inr ⟨_, by k_mem, rfl, _, rfl⟩, ?_⟩
    (repeat' ((first | (k_unfold; (try dsimp only)) | (k_end; kc_close) | walk1 | (dsimp only; walk1) | (leave1; (try dsimp only)) | fail "no step")))
    rename News h₀ _ _ _ => N6
    exact hret _ _ (by assumption) (fun p hp => N6 p (by repeat (first | exact hp | refine List.Mem.tail _ ?_)))
set_option maxHeartbeats 4000000 in
theorem stands2_ok (B : Below A₀ base outer h₀) (F : Fr h₀ L s.heap m) (X : (Mine.hd.heap_39 w.params).In h₀) (N : News h₀ L s.heap news) (T : Top Mine.hd.view_39 (looseW Mine.hd.view_39 []) mean mg mb h₀) (hk : cs.kind = .function) (hdd : dp + 9 < recursionLimit) (hu : un + 90 < cLine)
  {hv l sa : Addr} {vs svs : List Value} {ns : List Int} {S : List (Int × Int)} {nh nn nsv : Nat} {nid span now : Int} {t1 t2 t3 : Tok} {l2 : Addr} {vs2 : List Value} {ns2 : List Int} {nn2 : Nat}
  (hhv : (hv, listOf #[.ref l, .ref l2] nh) ∈ news) (hl : (l, listOf vs.toArray nn) ∈ news) (hi : IntsAre vs ns) (hlen : ns.length ≤ 8) (hl2 : (l2, listOf vs2.toArray nn2) ∈ news) (hi2 : IntsAre vs2 ns2) (hlen2 : ns2.length ≤ 8)
  (hsa : (sa, listOf svs.toArray nsv) ∈ news) (hS : Tups news svs S) (hSl : S.length ≤ 50)
  (hret : ∀ (h' : Heap) (tk' : Nat), Fr h₀ L h' m → News h₀ L h' news → Q (.bool (stF ns nid now span S && stF ns2 nid now span S)) { s with heap := h', toks := tk' }) :
  wpAny (model PySem.Challenge.rw_rr0075_01.row.prog w) (ktrTop dp un gd cn cs L a ccd cl outer) (call (.ref 312) [.ref hv, .int nid t1, .int span t2, .int now t3, .ref sa, .bool false]) Q E s := by
  refine wpAny_call ?_
  k_dflt (refine' code_defC ?k1 ?k2 ?k3 ?k4 ?k5 ?kA ?kF ?kK ?k6 ?k7 ?k8 ?k9 ?kB ?kD ?_ ?c2 ?c3 ?c4; (case kA => exact rfl); (case kF => exact rfl); (case kK => assumption); (case k1 => k_asm); (case k2 => k_asm); (case k3 => k_asm); (case k4 => k_asm); (case k5 => k_asm); (case k6 => k_is); (case k7 => k_is); (case k8 => ktr_room); (case k9 => exact BindsTo.of_eq rfl); (case kB => exact rfl); (case kD => decide +kernel); (case c2 => exact rfl); (case c3 => exact rfl); (case c4 => exact rfl); k_whole; intro g' L' h' tk' cells' FG' F' N' Y' B' X' T' l1; k_cells Y'; (try simp only [List.cons_append, List.nil_append] at N'); (try dsimp only); (try k_lift B'); (try k_fold))
  (repeat' ((fail_if_success (with_reducible show wpAny _ _ (eval (Expr.ListComp _ _ _ _) _) _ _ _)); (first | (k_unfold; (try dsimp only)) | (k_end; kc_close) | walk1 | (dsimp only; walk1) | (leave1; (try dsimp only)) | fail "no step")))
  dsimp only
  rename News _ _ _ _ => N2
  rename Fr _ _ _ _ => F2
  refine' comp_pairs (fun _ b => decide (now - b + 2 ≤ span)) rfl F2 N2 ?hm (hS.mono ?hsub) (by omega) ?c1 ?c2 ?c3 ?c4 ?c5 ?c6 ?c7 ?c8 ?hit ?turn ?fin
  case hm => k_mem
  case hsub => (intro q hq; k_mem)
  case c1 => with_unfolding_all rfl
  case c2 => decide
  case c3 => rfl
  case c4 => decide
  case c5 => rfl
  case c6 => rfl
  case c7 => decide
  case c8 => decide
  case hit =>
    intro Q9 E9 h9
    ((try (first | (k_unfold; (try dsimp only)) | (k_end; kc_close) | walk1 | (dsimp only; walk1) | (leave1; (try dsimp only)) | fail "no step")); (try (first | (k_unfold; (try dsimp only)) | (k_end; kc_close) | walk1 | (dsimp only; walk1) | (leave1; (try dsimp only)) | fail "no step")); (try (first | (k_unfold; (try dsimp only)) | (k_end; kc_close) | walk1 | (dsimp only; walk1) | (leave1; (try dsimp only)) | fail "no step")))
    exact h9
  case turn =>
    intro a b C oC m₂ h tk ta tb Q9 E9 hC' hx' hy' F' N' hq
    (repeat' ((first | (k_unfold; (try dsimp only)) | (k_end; kc_close) | walk1 | (dsimp only; walk1) | (leave1; (try dsimp only)) | fail "no step")))
    exact hq _
  case fin =>
    intro D h tk ys F' N' l3 hI
    try k_lt l3
    refine' add_ints9 F' N' ?ha ?hb ?hi ?hj ?hsz ?_
    case ha => k_mem
    case hb => k_mem
    case hi => l_intsW
    case hj => exact hI
    case hsz =>
      have := picked_len S (fun _ b => decide (now - b + 2 ≤ span))
      simp only [List.length_cons, List.length_nil]
      omega
    intro D2 xs h2 F2 N2 l2 hI2
    try k_lt l2
    clear hI
    (repeat' ((fail_if_success (with_reducible show wpAny _ _ (eval (Expr.ListComp _ _ _ _) _) _ _ _)); (first | (k_unfold; (try dsimp only)) | (k_end; kc_close) | walk1 | (dsimp only; walk1) | (leave1; (try dsimp only)) | fail "no step")))
    ((try (first | (k_unfold; (try dsimp only)) | (k_end; kc_close) | walk1 | (dsimp only; walk1) | (leave1; (try dsimp only)) | fail "no step")))
    (repeat' ((fail_if_success (with_reducible show wpAny _ _ (eval (Expr.ListComp _ _ _ _) _) _ _ _)); (first | (k_unfold; (try dsimp only)) | (k_end; kc_close) | walk1 | (dsimp only; walk1) | (leave1; (try dsimp only)) | fail "no step")))
    k_dflt (refine LCt.ListComp_T (F₀ := by k_asm) (by with_unfolding_all rfl) (by decide) (by rfl) (by decide) (by rfl) ?_)
    (repeat' ((fail_if_success (with_reducible show LCt.CompSrcT _ _ _ _ _ _ _ _ _ _ _ _ _ _ _)); (first | (k_unfold; (try dsimp only)) | (k_end; kc_close) | walk1 | (dsimp only; walk1) | (leave1; (try dsimp only)) | fail "no step")))
    k_dflt (refine LCt.CompSrcT.ledger (by rfl) (by k_asm) (by k_asm) (by k_mem) (by rw [List.size_toArray, sizeLine_eq, IntsAre.length hi]; omega) ?_)
    intro g7
    refine' kci_list (keepG fun k => (nearL nid now span S).any fun x => x == k) hi (fun k' t' I' oI' C' oC' D' m' ys' l' h' tk' E' hk' hI' hC' hx' F' N' off' ne' _ => ?_) ?_ (keepG_grows _)
    · (repeat' ((fail_if_success (with_reducible show LCg.CompEnd _ _ _ _ _ _ _ _ _ _ _ _ _ _)); (first | (k_unfold; (try dsimp only)) | (k_end; kc_close) | walk1 | (dsimp only; walk1) | (leave1; (try dsimp only)) | fail "no step")))
      · exact ⟨_, _, _, rfl, F', N', off', .inr ⟨_, by k_mem, rfl, _, rfl⟩, kci_el (t := t') (if_pos (by assumption)) rfl rfl⟩
      · exact ⟨_, _, _, rfl, F', N', off', .inr ⟨_, by k_mem, rfl, _, rfl⟩, kci_no (if_neg (by first | assumption | (simp only [nearL]; simp only [*]; decide))) rfl⟩
    intro ys7 hI7 hl7 D7 h7 tk7 F7 N7 off7
    rw [keepG_fold, List.nil_append] at hI7
    have hf7 : (ns.filter fun k => (nearL nid now span S).any fun x => x == k).length ≤ 8 := Nat.le_trans (List.length_filter_le _ _) hlen
    (repeat' ((fail_if_success (with_reducible show LCg.CompEnd _ _ _ _ _ _ _ _ _ _ _ _ _ _)); (first | (k_unfold; (try dsimp only)) | (k_end; kc_close) | walk1 | (dsimp only; walk1) | (leave1; (try dsimp only)) | fail "no step")))
    rename Fr _ _ _ _ => F8
    rename News _ _ _ _ => N8
    refine ⟨_, _, _, rfl, F8, fun p hp => N8 p (.tail _ hp), by assumption, .inr ⟨_, by k_mem, rfl, _, rfl⟩, ?_⟩
    (repeat' ((fail_if_success (with_reducible show wpAny _ _ (eval (Expr.ListComp _ _ _ _) _) _ _ _)); (first | (k_unfold; (try dsimp only)) | (k_end; kc_close) | walk1 | (dsimp only; walk1) | (leave1; (try dsimp only)) | fail "no step")))
    k_dflt (refine LCt.ListComp_T (F₀ := by k_asm) (by with_unfolding_all rfl) (by decide) (by rfl) (by decide) (by rfl) ?_)
    (repeat' ((fail_if_success (with_reducible show LCt.CompSrcT _ _ _ _ _ _ _ _ _ _ _ _ _ _ _)); (first | (k_unfold; (try dsimp only)) | (k_end; kc_close) | walk1 | (dsimp only; walk1) | (leave1; (try dsimp only)) | fail "no step")))
    k_dflt (refine LCt.CompSrcT.ledger (by rfl) (by k_asm) (by k_asm) (by k_mem) (by rw [List.size_toArray, sizeLine_eq, IntsAre.length hi2]; omega) ?_)
    intro g7
    refine' kci_list (keepG fun k => (nearL nid now span S).any fun x => x == k) hi2 (fun k' t' I' oI' C' oC' D' m' ys' l' h' tk' E' hk' hI' hC' hx' F' N' off' ne' _ => ?_) ?_ (keepG_grows _)
    · (repeat' ((fail_if_success (with_reducible show LCg.CompEnd _ _ _ _ _ _ _ _ _ _ _ _ _ _)); (first | (k_unfold; (try dsimp only)) | (k_end; kc_close) | walk1 | (dsimp only; walk1) | (leave1; (try dsimp only)) | fail "no step")))
      · exact ⟨_, _, _, rfl, F', N', off', .inr ⟨_, by k_mem, rfl, _, rfl⟩, kci_el (t := t') (if_pos (by assumption)) rfl rfl⟩
      · exact ⟨_, _, _, rfl, F', N', off', .inr ⟨_, by k_mem, rfl, _, rfl⟩, kci_no (if_neg (by first | assumption | (simp only [nearL]; simp only [*]; decide))) rfl⟩
    intro ys7 hI7 hl7 D7 h7 tk7 F7 N7 off7
    rw [keepG_fold, List.nil_append] at hI7
    have hf7 : (ns2.filter fun k => (nearL nid now span S).any fun x => x == k).length ≤ 8 := Nat.le_trans (List.length_filter_le _ _) hlen2
    (repeat' ((fail_if_success (with_reducible show LCg.CompEnd _ _ _ _ _ _ _ _ _ _ _ _ _ _)); (first | (k_unfold; (try dsimp only)) | (k_end; kc_close) | walk1 | (dsimp only; walk1) | (leave1; (try dsimp only)) | fail "no step")))
    rename Fr _ _ _ _ => F8
    rename News _ _ _ _ => N8
    refine ⟨_, _, _, rfl, F8, fun p hp => N8 p (.tail _ hp), by assumption, .inr ⟨_, by k_mem, rfl, _, rfl⟩, ?_⟩
    (repeat' ((first | (k_unfold; (try dsimp only)) | (k_end; kc_close) | walk1 | (dsimp only; walk1) | (leave1; (try dsimp only)) | fail "no step")))
    rename News h₀ _ _ _ => N6
    exact hret _ _ (by assumption) (fun p hp => N6 p (by repeat (first | exact hp | refine List.Mem.tail _ ?_)))
set_option maxHeartbeats 4000000 in
theorem stands0_ok (B : Below A₀ base outer h₀) (F : Fr h₀ L s.heap m) (X : (Mine.hd.heap_39 w.params).In h₀) (N : News h₀ L s.heap news) (T : Top Mine.hd.view_39 (looseW Mine.hd.view_39 []) mean mg mb h₀) (hk : cs.kind = .function) (hdd : dp + 9 < recursionLimit) (hu : un + 90 < cLine)
  {v1 v2 v3 v4 v5 : Value}
  (hret : ∀ (h' : Heap) (tk' : Nat), Fr h₀ L h' m → News h₀ L h' news → Q (.bool false) { s with heap := h', toks := tk' }) :
  wpAny (model PySem.Challenge.rw_rr0075_01.row.prog w) (ktrTop dp un gd cn cs L a ccd cl outer) (call (.ref 312) [v1, v2, v3, v4, v5, .bool true]) Q E s := by
  refine wpAny_call ?_
  k_dflt (refine' code_defC ?k1 ?k2 ?k3 ?k4 ?k5 ?kA ?kF ?kK ?k6 ?k7 ?k8 ?k9 ?kB ?kD ?_ ?c2 ?c3 ?c4; (case kA => exact rfl); (case kF => exact rfl); (case kK => assumption); (case k1 => k_asm); (case k2 => k_asm); (case k3 => k_asm); (case k4 => k_asm); (case k5 => k_asm); (case k6 => k_is); (case k7 => k_is); (case k8 => ktr_room); (case k9 => exact BindsTo.of_eq rfl); (case kB => exact rfl); (case kD => decide +kernel); (case c2 => exact rfl); (case c3 => exact rfl); (case c4 => exact rfl); k_whole; intro g' L' h' tk' cells' FG' F' N' Y' B' X' T' l1; k_cells Y'; (try simp only [List.cons_append, List.nil_append] at N'); (try dsimp only); (try k_lift B'); (try k_fold))
  (repeat' ((first | (k_unfold; (try dsimp only)) | (k_end; kc_close) | walk1 | (dsimp only; walk1) | (leave1; (try dsimp only)) | fail "no step")))
  rename News h₀ _ _ _ => N6
  exact hret _ _ (by assumption) (fun p hp => N6 p (by repeat (first | exact hp | refine List.Mem.tail _ ?_)))
end

end

-- P5
theorem offP5 : True := by w_top off; trivial
section

section
variable {w : World} {mean : ExcName → Option Value} {mg mb : Str → Option Value} {dp un : Nat} {gd : Option (List Code)} {cn : Str} {cs : Scope} {a : Addr} {ccd : Value} {cl : List (Str × Addr)} {outer : List Env} {A₀ : Around} {base h₀ : Heap} {L : Addr} {m : Str → Option Value} {s : Shared} {Q E : Value → Shared → Prop} {news : List (Addr × Obj)}
def hearF (H : List (Int × Int)) (frm c ck : Int) : List (Int × Int) := if c ≤ ck ∧ kdfLook H frm (-1) < c then kdfPut H frm c else H
theorem b64_get {c : Int} (nm : List UInt8) (h0 : 0 ≤ c) (h1 : c < 256) : ((((b64 c ++ nm).getD (0 : Int).toNat 0).toNat : Nat) : Int) = c := by
  show (((UInt8.ofNat c.toNat).toNat : Nat) : Int) = c
  rw [UInt8.toNat_ofNat']
  omega
theorem b64_len (c : Int) : (b64 c).length = 8 := rfl
theorem cut8 (c : Int) (nm : List UInt8) : KBy.picked (b64 c ++ nm).toArray (some 8) none = nm.toArray := by
  rw [KBc.picked_eq]
  have e : clipAt (b64 c ++ nm).toArray.size 8 = 8 := by
    have h := KBc.clip_lit (b64 c ++ nm).toArray.size 8
    rw [h, List.size_toArray, List.length_append, b64_len]
    omega
  simp only [Option.elim, e]
  have e2 : (b64 c ++ nm).toArray.size - 8 = nm.length := by rw [List.size_toArray, List.length_append, b64_len]; omega
  rw [e2]
  have e3 : (b64 c ++ nm).drop 8 = nm := rfl
  show (((b64 c ++ nm).drop 8).take nm.length).toArray = _
  rw [e3, List.take_length]
theorem whole8 (c : Int) (nm : List UInt8) : KBy.whole (b64 c ++ nm).toArray (some 8) none = false := by
  have e : (sliceBounds (some 8) none none (b64 c ++ nm).toArray.size).1 = 8 := by
    show max 0 (min (if (8 : Int) < 0 then _ else 8) ((b64 c ++ nm).toArray.size : Int)) = 8
    rw [if_neg (by decide), List.size_toArray, List.length_append, b64_len]
    omega
  unfold KBy.whole
  rw [e]
  rfl
theorem cut_K {prog : Program} {w : World} {A : Around} {E : Value → Shared → Prop} {s : Shared} {h₀ : Heap} {L : Addr} {m : Str → Option Value} {news : List (Addr × Obj)} {value slice : PySem.Expr} {c : Int} {nm : List UInt8} {t t8 : Tok} {Q : Value → Shared → Prop} (hF : Fr h₀ L s.heap m) (hN : News h₀ L s.heap news) (hz : nm.length ≤ 100)
    (h : ∀ h' t' k, Fr h₀ L h' m → News h₀ L h' news → Q (.bytes nm.toArray t') { s with heap := h', toks := k })
    (hs : subscripted slice false (.bytes (b64 c ++ nm).toArray t) (.ref s.heap.objs.size) = operate [.ref s.heap.objs.size, .bytes (b64 c ++ nm).toArray t] (getItem (.bytes (b64 c ++ nm).toArray t) (.ref s.heap.objs.size)) := by with_unfolding_all rfl)
    (ht : ∀ r, letTemporaryGo value (.bytes (b64 c ++ nm).toArray t) r = pure () := by intro _; with_unfolding_all rfl) :
    wpAny (model prog w) A (subscriptTail value slice (.bytes (b64 c ++ nm).toArray t) (.ref s.heap.objs.size)) Q E { s with heap := s.heap.push { cls := .type "slice", data := .fields #[.int 8 t8, .none, .none] } } :=
  KBy.slice_N hF hN (.int 8 t8) .none (whole8 c nm) (by rw [cut8, List.size_toArray]; omega) (fun h' t' k F' N' => by rw [cut8]; exact h h' t' k F' N') hs ht
local macro_rules | `(tactic| walk_at "subscriptTail") => `(tactic| (k_here; (with_reducible show wpAny _ _ (subscriptTail _ _ (Value.bytes _ _) (Value.ref _)) _ _ _); (with_reducible rename Fr _ _ _ _ => F'); (with_reducible rename News _ _ _ _ => N'); (refine cut_K (s := ⟨_, _, _, _, _⟩) F' N' (by assumption) ?_); intro _ _ _ _ _; (try dsimp only)))
local macro_rules | `(tactic| walk_at "call ref") => `(tactic| (k_here; (with_reducible show wpAny _ _ (call (Value.ref 134) [Value.bytes _ _, Value.int _ _]) _ _ _); k_dflt (refine' read64_ok ?k1 ?k2 ?k3 ?k4 ?k5 ?k6 ?k7 ?k8 ?k9 ?k10 ?k11 ?k12 ?k13 ?k14 ?k15 ?k16 ?k17 ?k18 ?_; (case k1 => k_asm); (case k2 => k_asm); (case k3 => k_asm); (case k4 => k_asm); (case k5 => k_asm); (case k6 => exact rfl); (case k7 => ktr_room); (case k8 => ktr_units); (case k9 => assumption); (case k10 => assumption); (case k11 => assumption); (case k12 => exact rfl); (case k13 => exact rfl); (case k14 => exact rfl); (case k15 => exact rfl); (case k16 => exact rfl); (case k17 => exact rfl); (case k18 => exact rfl)); intro t9 h9 tk9 F9 N9))
local macro_rules | `(tactic| walk_at "call builtin:dict.get") => `(tactic| (k_here; k_dflt (refine kdf_get2 (by k_tabat) ?_); intro _; (try dsimp only)))
local macro_rules | `(tactic| walk_at "setItem") => `(tactic| (k_here; k_dflt (refine' kdf_setItem ?F ?N ?U ?d ?f ?z ?_; (case F => k_asm); (case N => k_asm); (case U => exact UpdF.head (by assumption)); (case d => k_asm); (case f => k_asm); (case z => omega)); intro h' o' kvs' F' N' hd' hf'; (try dsimp only)))
set_option maxHeartbeats 4000000 in
theorem hear_ok (B : Below A₀ base outer h₀) (F : Fr h₀ L s.heap m) (X : (Mine.hd.heap_39 w.params).In h₀) {hd : Addr} {oh : Obj} {rest : List (Addr × Obj)} (N : News h₀ L s.heap ((hd, oh) :: rest)) (T : Top Mine.hd.view_39 (looseW Mine.hd.view_39 []) mean mg mb h₀) (hk : cs.kind = .function)  (hdd : dp + 9 < recursionLimit) (hu : un + 90 < cLine)
  {x dx : Addr} {g1 g2 g3 g4 : Int} {y1 y2 y3 y4 y5 y6 : Tok} {sp ck : Int} {gu : Bool} {ng : Nat} (hx : (x, instObj 291 dx) ∈ rest) (hdx : (dx, dictOf [⟨g1, .str (Str.ofString "span") y1, .int sp y5⟩, ⟨g2, .str (Str.ofString "clock") y2, .int ck y6⟩, ⟨g3, .str (Str.ofString "heard") y3, .ref hd⟩, ⟨g4, .str (Str.ofString "given_up") y4, .bool gu⟩] ng) ∈ rest) (hne : ∀ p ∈ rest, p.1 ≠ hd)
  {hkvs : List (Int × Value)} {H : List (Int × Int)} (hhlo : (hd == sysModules) = false) (hdoh : oh.IsDictOf (PySem.intKind PySem.Challenge.rw_rr0075_01.row.prog w) hkvs) (hhf : FlatPairs PyData.int hkvs (kdfD H)) (hHl : H.length ≤ 50)
  {frm c : Int} {tf tx : Tok} {nm : List UInt8} (hc0 : 0 ≤ c) (hc1 : c < 256) (hnm : nm.length ≤ 100)
  (hret : ∀ (t : Tok) (h' : Heap) (tk' : Nat) (oh' : Obj) (hkvs' : List (Int × Value)), Fr h₀ L h' m → News h₀ L h' ((hd, oh') :: rest) → oh'.IsDictOf (PySem.intKind PySem.Challenge.rw_rr0075_01.row.prog w) hkvs' → FlatPairs PyData.int hkvs' (kdfD (hearF H frm c ck)) → Q (.bytes nm.toArray t) { s with heap := h', toks := tk' }) :
  wpAny (model PySem.Challenge.rw_rr0075_01.row.prog w) (ktrTop dp un gd cn cs L a ccd cl outer) (call (.ref 274) [.ref x, .int frm tf, .bytes (b64 c ++ nm).toArray tx]) Q E s := by
  have hxl : (b64 c ++ nm).length ≤ 1000 := by rw [List.length_append]; show 8 + nm.length ≤ 1000; omega
  have hx8 : 8 ≤ ((b64 c ++ nm).length : Int) := by rw [List.length_append]; show (8 : Int) ≤ ((8 + nm.length : Nat) : Int); omega
  have hz0 := b64_get nm hc0 hc1
  refine wpAny_call ?_
  k_dflt cell_enter
  (repeat' ((first | (k_unfold; (try dsimp only)) | (k_end; kc_close) | walk1 | (dsimp only; walk1) | (leave1; (try dsimp only)) | fail "no step")))
  · have e : hearF H frm c ck = kdfPut H frm c := if_pos ⟨by assumption, by assumption⟩
    exact hret _ _ _ _ _ (by assumption) (by assumption) (by assumption) (by rw [e]; assumption)
  · have e : hearF H frm c ck = H := if_neg (fun hh => by have h1 := hh.1; have h2 := hh.2; omega)
    exact hret _ _ _ _ _ (by assumption) (by assumption) hdoh (by rw [e]; exact hhf)
  · have e : hearF H frm c ck = H := if_neg (fun hh => by have h1 := hh.1; have h2 := hh.2; omega)
    exact hret _ _ _ _ _ (by assumption) (by assumption) hdoh (by rw [e]; exact hhf)
set_option maxHeartbeats 4000000 in
theorem hear_short (B : Below A₀ base outer h₀) (F : Fr h₀ L s.heap m) (X : (Mine.hd.heap_39 w.params).In h₀) (N : News h₀ L s.heap news) (T : Top Mine.hd.view_39 (looseW Mine.hd.view_39 []) mean mg mb h₀) (hk : cs.kind = .function) (hdd : dp + 9 < recursionLimit) (hu : un + 90 < cLine)
  {v : Value} {frm : Int} {tf tx : Tok} {nm : List UInt8} (hnm : nm.length < 8)
  (hret : ∀ (t : Tok) (h' : Heap) (tk' : Nat), Fr h₀ L h' m → News h₀ L h' news → Q (.bytes ([] : List UInt8).toArray t) { s with heap := h', toks := tk' }) :
  wpAny (model PySem.Challenge.rw_rr0075_01.row.prog w) (ktrTop dp un gd cn cs L a ccd cl outer) (call (.ref 274) [v, .int frm tf, .bytes nm.toArray tx]) Q E s := by
  have hx9 : nm.length ≤ 1000 := by omega
  refine wpAny_call ?_
  k_dflt cell_enter
  (repeat' ((first | (k_unfold; (try dsimp only)) | (k_end; kc_close) | walk1 | (dsimp only; walk1) | (leave1; (try dsimp only)) | fail "no step")))
  exact hret _ _ _ (by assumption) (by assumption)
end

end

-- PL
theorem offPL : True := by w_top off; trivial
section

def hlook (H : List (Int × Int)) (j : Int) : Option Int := (H.find? fun p => decide (p.1 = j)).map (·.2)
theorem hlook_has (H : List (Int × Int)) (j : Int) : kdfHas H j = (hlook H j).isSome := by
  unfold kdfHas hlook
  rw [Option.isSome_map]
  induction H with
  | nil => rfl
  | cons p H ih =>
    rw [List.any_cons, List.find?_cons]
    cases h : decide (p.1 = j) with
    | true => rfl
    | false => rw [Bool.false_or]; exact ih
theorem hlook_look (H : List (Int × Int)) (j d : Int) : kdfLook H j d = (hlook H j).getD d := rfl
theorem hlook_map (c : List (Int × Int)) (k v j : Int) : hlook (c.map (fun p => if decide (p.1 = k) then (p.1, v) else p)) j = if j = k then (if c.any (fun p => decide (p.1 = k)) then some v else none) else hlook c j := by
  unfold hlook
  induction c with
  | nil => simp
  | cons p c ih =>
    rw [List.map_cons, List.find?_cons, List.find?_cons, List.any_cons]
    by_cases h1 : p.1 = k
    · by_cases h2 : j = k
      · simp [h1, h2]
      · have h3 : ¬ k = j := fun e => h2 e.symm
        simp only [h1, decide_true, if_true, h2, if_false, h3, decide_false]
        rw [ih]; simp [h2]
    · by_cases h2 : j = k
      · subst h2
        simp only [h1, decide_false, Bool.false_eq_true, if_false, if_true, Bool.false_or]
        rw [ih]; simp
      · by_cases h3 : p.1 = j
        · simp [h2, h3]
        · simp only [h1, h2, h3, decide_false, Bool.false_eq_true, if_false]
          rw [ih]; simp [h2]
theorem hlook_put (c : List (Int × Int)) (k v j : Int) : hlook (kdfPut c k v) j = if j = k then some v else hlook c j := by
  unfold kdfPut
  by_cases hc : (c.any fun p => decide (p.1 = k)) = true
  · rw [if_pos hc, hlook_map, if_pos hc]
  · rw [if_neg hc]
    have hn : ∀ p ∈ c, ¬ p.1 = k := by
      intro p hp e
      exact hc (List.any_eq_true.mpr ⟨p, hp, by simp [e]⟩)
    unfold hlook
    rw [List.find?_append]
    by_cases hj : j = k
    · subst hj
      have : c.find? (fun p => decide (p.1 = j)) = none := List.find?_eq_none.mpr fun p hp => by simpa using hn p hp
      rw [this]; simp
    · cases hf : c.find? (fun p => decide (p.1 = j)) with
      | some p => simp [hj]
      | none =>
        have h3 : ¬ k = j := fun e => hj e.symm
        simp [hj, h3]
/-- what the dict says of the story: of each who, the latest sent -/
def Heard (H : List (Int × Int)) (S : List (Int × Int)) : Prop :=
  (∀ j v, hlook H j = some v → (j, v) ∈ S) ∧ (∀ j b, (j, b) ∈ S → ∃ v, hlook H j = some v ∧ b ≤ v)
theorem heard_nil : Heard [] [] := ⟨fun j v h => by simp [hlook] at h, fun j b h => (nomatch h)⟩
theorem heard_hear {H S : List (Int × Int)} {who c ck : Int} (h : Heard H S) (h0 : 0 ≤ c) (h1 : c ≤ ck) : Heard (hearF H who c ck) (S ++ [(who, c)]) := by
  obtain ⟨ha, hb⟩ := h
  unfold hearF
  by_cases hc : c ≤ ck ∧ kdfLook H who (-1) < c
  · rw [if_pos hc]
    refine ⟨fun j v e => ?_, fun j b hm => ?_⟩
    · rw [hlook_put] at e
      by_cases hj : j = who
      · rw [if_pos hj] at e
        cases e
        rw [hj]
        exact List.mem_append.mpr (.inr (.head _))
      · rw [if_neg hj] at e
        exact List.mem_append.mpr (.inl (ha j v e))
    · rw [hlook_put]
      by_cases hj : j = who
      · rw [if_pos hj]
        refine ⟨c, rfl, ?_⟩
        rcases List.mem_append.mp hm with hm | hm
        · obtain ⟨v, e, hv⟩ := hb j b hm
          have h2 := hc.2
          rw [hlook_look, ← hj, e] at h2
          simp only [Option.getD_some] at h2
          omega
        · cases List.mem_singleton.mp hm
          exact Int.le_refl _
      · rw [if_neg hj]
        rcases List.mem_append.mp hm with hm | hm
        · exact hb j b hm
        · cases List.mem_singleton.mp hm
          exact absurd rfl hj
  · rw [if_neg hc]
    have h2 : ¬ kdfLook H who (-1) < c := fun q => hc ⟨h1, q⟩
    refine ⟨fun j v e => List.mem_append.mpr (.inl (ha j v e)), fun j b hm => ?_⟩
    rcases List.mem_append.mp hm with hm | hm
    · exact hb j b hm
    · cases List.mem_singleton.mp hm
      rw [hlook_look] at h2
      cases e : hlook H who with
      | none => rw [e] at h2; simp only [Option.getD_none] at h2; omega
      | some v => rw [e] at h2; simp only [Option.getD_some] at h2; exact ⟨v, rfl, by omega⟩
theorem near_iff {H S : List (Int × Int)} (h : Heard H S) (nid now sp j : Int) : nearG H now sp nid j = (nearL nid now sp S).any (fun x => x == j) := by
  obtain ⟨ha, hb⟩ := h
  unfold nearG nearL picked'
  rw [Bool.eq_iff_iff, Bool.or_eq_true, List.any_eq_true, hlook_has, hlook_look]
  constructor
  · rintro (e | e)
    · exact ⟨nid, List.mem_append.mpr (.inl (.head _)), by rw [beq_iff_eq] at e ⊢; exact e.symm⟩
    · rw [Bool.and_eq_true] at e
      cases hl : hlook H j with
      | none => rw [hl] at e; simp at e
      | some v =>
        rw [hl] at e
        simp only [Option.getD_some, decide_eq_true_eq] at e
        refine ⟨j, List.mem_append.mpr (.inr (List.mem_map.mpr ⟨(j, v), List.mem_filter.mpr ⟨ha j v hl, ?_⟩, rfl⟩)), by simp⟩
        simp only [decide_eq_true_eq]
        omega
  · rintro ⟨x, hx, e⟩
    rw [beq_iff_eq] at e
    subst e
    rcases List.mem_append.mp hx with hx | hx
    · left
      rw [beq_iff_eq]
      exact List.mem_singleton.mp hx
    · right
      obtain ⟨q, hq, rfl⟩ := List.mem_map.mp hx
      obtain ⟨hq1, hq2⟩ := List.mem_filter.mp hq
      obtain ⟨v, hv, hle⟩ := hb q.1 q.2 hq1
      simp only [decide_eq_true_eq] at hq2
      rw [hv]
      simp only [Option.isSome_some, Option.getD_some, Bool.true_and, decide_eq_true_eq]
      omega
theorem win_stands {H S : List (Int × Int)} (h : Heard H S) (nid now sp : Int) {ns : List Int} (hne : ns ≠ []) : winG ns (nearG H now sp nid) = stF ns nid now sp S := by
  have e : nearG H now sp nid = fun k => (nearL nid now sp S).any fun x => x == k := funext fun j => near_iff h nid now sp j
  unfold winG stF
  rw [e]
  simp only [hne, false_or]
  rw [Bool.eq_iff_iff, decide_eq_true_eq, decide_eq_true_eq]
  omega
theorem win_nil (g : Int → Bool) : winG [] g = true := by simp [winG]

end

-- P6
theorem offP6 : True := by w_top off; trivial
section

section
variable {w : World} {mean : ExcName → Option Value} {mg mb : Str → Option Value} {dp un : Nat} {gd : Option (List Code)} {cn : Str} {cs : Scope} {a : Addr} {ccd : Value} {cl : List (Str × Addr)} {outer : List Env} {A₀ : Around} {base h₀ : Heap} {L : Addr} {m : Str → Option Value} {s : Shared} {Q E : Value → Shared → Prop} {news : List (Addr × Obj)}
theorem off1_mem {D : Addr} : ∀ {l : List (Addr × Obj)}, LCg.Off1 D l → ∀ p ∈ l, p.1 ≠ D
  | [], _, _, hp => (nomatch hp)
  | _ :: _, h, p, hp => by
    rcases List.mem_cons.mp hp with rfl | hp
    · exact h.1
    · exact off1_mem h.2 p hp
def bitQ (d k : Int) : Bool := decide ((d.fdiv (2 ^ (k - 1).toNat)).fmod 2 = 1)
def idsF (d : Int) : List Int := [1, 2, 3, 4].filter (bitQ d)
theorem idsF_len (d : Int) : (idsF d).length ≤ 4 := List.length_filter_le _ _
theorem idsF_sorted (d : Int) : (idsF d).Pairwise (· < ·) := List.Pairwise.filter _ (by decide)
theorem idsF_ne {d : Int} (h0 : 1 ≤ d) (h1 : d ≤ 15) : idsF d ≠ [] := by
  have h : d = 1 ∨ d = 2 ∨ d = 3 ∨ d = 4 ∨ d = 5 ∨ d = 6 ∨ d = 7 ∨ d = 8 ∨ d = 9 ∨ d = 10 ∨ d = 11 ∨ d = 12 ∨ d = 13 ∨ d = 14 ∨ d = 15 := by omega
  rcases h with rfl | rfl | rfl | rfl | rfl | rfl | rfl | rfl | rfl | rfl | rfl | rfl | rfl | rfl | rfl <;> decide
set_option maxHeartbeats 4000000 in
theorem ids_ok (B : Below A₀ base outer h₀) (F : Fr h₀ L s.heap m) (X : (Mine.hd.heap_39 w.params).In h₀) (N : News h₀ L s.heap news) (T : Top Mine.hd.view_39 (looseW Mine.hd.view_39 []) mean mg mb h₀) (hk : cs.kind = .function) (hdd : dp + 9 < recursionLimit) (hu : un + 90 < cLine)
  {d : Int} {td : Tok} (h0 : 1 ≤ d) (h1 : d ≤ 15)
  (hret : ∀ (l : Addr) (vs : List Value) (nn : Nat) (h' : Heap) (tk' : Nat), Fr h₀ L h' m → News h₀ L h' ((l, listOf vs.toArray nn) :: news) → (∀ q ∈ news, q.1 ≠ l) → IntsAre vs (idsF d) → Q (.ref l) { s with heap := h', toks := tk' }) :
  wpAny (model PySem.Challenge.rw_rr0075_01.row.prog w) (ktrTop dp un gd cn cs L a ccd cl outer) (call (.ref 307) [.int d td]) Q E s := by
  refine wpAny_call ?_
  k_dflt (refine' code_defC ?k1 ?k2 ?k3 ?k4 ?k5 ?kA ?kF ?kK ?k6 ?k7 ?k8 ?k9 ?kB ?kD ?_ ?c2 ?c3 ?c4; (case kA => exact rfl); (case kF => exact rfl); (case kK => assumption); (case k1 => k_asm); (case k2 => k_asm); (case k3 => k_asm); (case k4 => k_asm); (case k5 => k_asm); (case k6 => k_is); (case k7 => k_is); (case k8 => ktr_room); (case k9 => exact BindsTo.of_eq rfl); (case kB => exact rfl); (case kD => decide +kernel); (case c2 => exact rfl); (case c3 => exact rfl); (case c4 => exact rfl); k_whole; intro g' L' h' tk' cells' FG' F' N' Y' B' X' T' l1; k_cells Y'; (try simp only [List.cons_append, List.nil_append] at N'); (try dsimp only); (try k_lift B'); (try k_fold))
  (repeat' ((fail_if_success (with_reducible show wpAny _ _ (eval (Expr.ListComp _ _ _ _) _) _ _ _)); (first | (k_unfold; (try dsimp only)) | (k_end; kc_close) | walk1 | (dsimp only; walk1) | (leave1; (try dsimp only)) | fail "no step")))
  k_dflt (refine LCt.ListComp_T (F₀ := by k_asm) (by with_unfolding_all rfl) (by decide) (by rfl) (by decide) (by rfl) ?_)
  (repeat' ((fail_if_success (with_reducible show LCt.CompSrcT _ _ _ _ _ _ _ _ _ _ _ _ _ _ _)); (first | (k_unfold; (try dsimp only)) | (k_end; kc_close) | walk1 | (dsimp only; walk1) | (leave1; (try dsimp only)) | fail "no step")))
  k_dflt (refine LCt.CompSrcT.range (n := 4) (by rfl) (by k_asm) (by k_asm) (by assumption) (by decide) (by rfl) (by rw [sizeLine_eq]; omega) ?_)
  intro g7
  refine' kci_range (keepG (bitQ d)) (fun k' t' I' oI' C' oC' D' m' ys' l' h' tk' E' hlo' hhi' hI' hC' hx' F' N' off' ne' _ => ?_) ?_ (keepG_grows _)
  · have hk4 : k' = 1 ∨ k' = 2 ∨ k' = 3 ∨ k' = 4 := by omega
    rcases hk4 with rfl | rfl | rfl | rfl
    all_goals (repeat' ((fail_if_success (with_reducible show LCg.CompEnd _ _ _ _ _ _ _ _ _ _ _ _ _ _)); (first | (k_unfold; (try dsimp only)) | (k_end; kc_close) | walk1 | (dsimp only; walk1) | (leave1; (try dsimp only)) | fail "no step")))
    all_goals first
      | exact ⟨_, _, _, rfl, F', N', off', trivial, kci_el (t := t') (if_pos (decide_eq_true (by assumption))) rfl rfl⟩
      | exact ⟨_, _, _, rfl, F', N', off', trivial, kci_no (if_neg (by simp only [bitQ, decide_eq_true_eq]; assumption)) rfl⟩
  · intro ys7 hI7 hl7 D7 h7 tk7 F7 N7 off7
    rw [keepG_fold, List.nil_append] at hI7
    have hI8 : IntsAre ys7 (idsF d) := hI7
    have hD7 := off7.2
    (repeat' ((first | (k_unfold; (try dsimp only)) | (k_end; kc_close) | walk1 | (dsimp only; walk1) | (leave1; (try dsimp only)) | fail "no step")))
    rename News h₀ _ _ _ => N8
    refine hret D7 ys7 ys7.length _ _ (by assumption) (fun p hp => N8 p ?_) (fun q hq => off1_mem hD7 q hq) hI8
    rcases List.mem_cons.mp hp with rfl | hp
    · exact .head _
    · exact .tail _ (.tail _ hp)
theorem append_top {prog : Program} {w : World} {A : Around} {E : Value → Shared → Prop} {s : Shared} {h₀ : Heap} {L D : Addr} {m : Str → Option Value} {rest : List (Addr × Obj)} {ws : List Value} {k : Nat} {v : Value} {Q : Value → Shared → Prop}
    (F : Fr h₀ L s.heap m) (N : News h₀ L s.heap ((D, listOf ws.toArray k) :: rest)) (hne : ∀ p ∈ rest, p.1 ≠ D) (hsz : ws.length ≤ 1000)
    (h : ∀ h' k', Fr h₀ L h' m → News h₀ L h' ((D, listOf (ws ++ [v]).toArray k') :: rest) → Q .none { s with heap := h' }) : wpAny (model prog w) A (call (.builtin "list.append") [.ref D, v]) Q E s := by
  have z := N _ (List.Mem.head _)
  refine append_at (hsz := by rw [List.size_toArray, sizeLine_eq]; omega) z.1 fun h' hs hD => ?_
  refine h h' (k + 1) (F.change hs z.2.1 z.2.2) fun p hp => ?_
  rcases List.mem_cons.mp hp with rfl | hp
  · refine ⟨hD.trans ?_, z.2⟩
    rw [List.push_toArray]
  · exact ⟨hs.extBut _ _ (hne p hp) (N p (.tail _ hp)).1, (N p (.tail _ hp)).2⟩
local macro_rules | `(tactic| walk_at "call builtin:list.append") => `(tactic| (k_here; (with_reducible show wpAny _ _ (call (Value.builtin "list.append") [Value.ref _, _]) _ _ _); k_dflt (refine' append_top ?F ?N ?e ?z ?_; (case F => k_asm); (case N => k_asm); (case e => assumption); (case z => first | assumption | decide)); intro h' k' F' N'; (try dsimp only)))
set_option maxHeartbeats 4000000 in
theorem rising_ok (B : Below A₀ base outer h₀) (F : Fr h₀ L s.heap m) (X : (Mine.hd.heap_39 w.params).In h₀) (N : News h₀ L s.heap news) (T : Top Mine.hd.view_39 (looseW Mine.hd.view_39 []) mean mg mb h₀) (hk : cs.kind = .function) (hdd : dp + 9 < recursionLimit) (hu : un + 90 < cLine)
  {l : Addr} {vs : List Value} {ns : List Int} {nn : Nat} (hl : (l, listOf vs.toArray nn) ∈ news) (hi : IntsAre vs ns) (hlen : ns.length ≤ 8) (hsrt : ns.Pairwise (· < ·))
  (hret : ∀ (D : Addr) (ws : List Value) (k : Nat) (h' : Heap) (tk' : Nat), Fr h₀ L h' m → News h₀ L h' ((D, listOf ws.toArray k) :: news) → (∀ q ∈ news, q.1 < D) → IntsAre ws ns → Q (.ref D) { s with heap := h', toks := tk' }) :
  wpAny (model PySem.Challenge.rw_rr0075_01.row.prog w) (ktrTop dp un gd cn cs L a ccd cl outer) (call (.ref 141) [.ref l]) Q E s := by
  refine wpAny_call ?_
  k_dflt cell_enter
  (repeat' ((fail_if_success (with_reducible show wpAny _ _ (exec (Stmt.For _ _ _ _ _) _) _ _ _)); (first | (k_unfold; (try dsimp only)) | (k_end; kc_close) | walk1 | (dsimp only; walk1) | (leave1; (try dsimp only)) | fail "no step")))
  rename Fr _ _ _ _ => F1
  with_unfolding_all refine' For_invVF F1 ?k1 ?k2 ?_
  case k1 => exact rfl
  case k2 => exact rfl
  (repeat' ((fail_if_success (with_reducible show wpAny _ _ (pyIter _) _ _ _)); (first | (k_unfold; (try dsimp only)) | (k_end; kc_close) | walk1 | (dsimp only; walk1) | (leave1; (try dsimp only)) | fail "no step")))
  rename Fr _ _ _ _ => F2
  rename News _ _ _ _ => N2
  rename IntsAre _ _ => I2
  rename_i D9 _ l1 _ B9 vs9 ns9 c9 _ _ P9 S9 _ _ l9
  dsimp only
  have hB : (D9 : Nat) < B9 := l9.1
  have heq : ns9 = ns := P9.eq_of_pairwise (fun a b _ _ h1 h2 => Int.le_antisymm h1 h2) S9 (hsrt.imp fun h => Int.le_of_lt h)
  subst heq
  have N4 : News _ _ _ ((D9, listOf ([] : List Value).toArray 0) :: (B9, listOf vs9.toArray c9) :: news) := fun p hp => by
    rcases List.mem_cons.mp hp with rfl | hp
    · exact N2 _ (.tail _ (.head _))
    · rcases List.mem_cons.mp hp with rfl | hp
      · exact N2 _ (.head _)
      · exact N2 _ (.tail _ (.tail _ hp))
  clear N2
  refine' kst_listL (σ := List Value × Nat) (fun c => (D9, listOf c.1.toArray c.2) :: (B9, listOf vs9.toArray c9) :: news) (fun _ => []) (fun _ => True) [] (fun pre c => IntsAre c.1 pre) ([], 0) rfl (fun _ => .tail _ (.head _)) I2 F2 N4 trivial (fun p hp => (nomatch hp)) .nil ?turn ?done
  case turn =>
    rintro ⟨ws, k8⟩ pre post n t u h8 tk8 own e8 hn8 hoff8 _ hI8 F3 N3
    dsimp only at hI8
    have N5 : News _ _ h8 ((D9, listOf ws.toArray k8) :: (B9, listOf vs9.toArray c9) :: (news ++ own)) := N3
    clear N3 N4 F2
    have hws : ws.length ≤ 1000 := by rw [hI8.length]; have : pre.length ≤ ns9.length := by rw [e8]; simp
                                      omega
    have hpre : pre.length < 8 := by have : pre.length < ns9.length := by rw [e8]; simp
                                     omega
    have hne8 : ∀ p ∈ (B9, listOf vs9.toArray c9) :: (news ++ own), p.1 ≠ D9 := by
      intro p hp
      rcases List.mem_cons.mp hp with rfl | hp
      · exact Nat.ne_of_gt hB
      · rcases List.mem_append.mp hp with hp | hp
        · exact Nat.ne_of_lt (l1 p hp)
        · exact fun e => hoff8 p hp D9 (.head _) e
    rcases List.eq_nil_or_concat pre with rfl | ⟨pre', p, rfl⟩
    · cases hI8
      (repeat' ((fail_if_success (with_reducible show InvEndN _ _ _ _ _ _ _)); (first | (k_unfold; (try dsimp only)) | (k_end; kc_close) | walk1 | (dsimp only; walk1) | (leave1; (try dsimp only)) | fail "no step")))
      · refine' kst_end ([.int n t], _) ?F ?N ?hn ?ho ?ha trivial ?hk ?hr ?hp
        case N => assumption
        case F => assumption
        case ho => exact (fun p hp => .tail _ (.tail _ (List.mem_append.mpr (.inr hp))))
        case ha => exact rfl
        case hk => exact (fun p hp => (nomatch hp))
        case hr => exact (fun z z1 z2 z3 => by simp [z1, kstB])
        case hn =>
          intro p hp
          rcases List.mem_cons.mp hp with rfl | hp
          · exact .head _
          · rcases List.mem_cons.mp hp with rfl | hp
            · exact .tail _ (.head _)
            · exact .tail _ (.tail _ (List.mem_append.mpr (.inl hp)))
        exact .cons _ _ .nil
    · have hlt : p < n := by
        rw [e8] at hsrt
        simp only [List.concat_eq_append, List.append_assoc, List.cons_append, List.nil_append] at hsrt
        have := (List.pairwise_append.mp hsrt).2.1
        exact List.rel_of_pairwise_cons this (.head _)
      (repeat' ((fail_if_success (with_reducible show InvEndN _ _ _ _ _ _ _)); (first | (k_unfold; (try dsimp only)) | (k_end; kc_close) | walk1 | (dsimp only; walk1) | (leave1; (try dsimp only)) | fail "no step")))
      · refine' kst_end (ws ++ [.int n t], _) ?F2 ?N2 ?hn2 ?ho2 ?ha2 trivial ?hk2 ?hr2 ?hp2
        case N2 => assumption
        case F2 => assumption
        case ho2 => exact (fun p hp => .tail _ (.tail _ (List.mem_append.mpr (.inr hp))))
        case ha2 => exact rfl
        case hk2 => exact (fun p hp => (nomatch hp))
        case hr2 => exact (fun z z1 z2 z3 => by simp [z1, kstB])
        case hn2 =>
          intro p hp
          rcases List.mem_cons.mp hp with rfl | hp
          · exact .head _
          · rcases List.mem_cons.mp hp with rfl | hp
            · exact .tail _ (.head _)
            · exact .tail _ (.tail _ (List.mem_append.mpr (.inl hp)))
        exact ints_snoc hI8 n t
      · exfalso
        rename ((pre'.concat p).getD _ 0 = n) => hbad
        rw [List.concat_eq_append, List.length_append, List.length_singleton] at hbad
        have hidx : ((-1 : Int) + ((pre'.length + 1 : Nat) : Int)).toNat = pre'.length := by omega
        rw [hidx] at hbad
        simp at hbad
        omega
      · exfalso
        rename (¬ 0 < (pre'.concat p).length) => hbad
        simp at hbad
  case done =>
    rintro ⟨ws, k8⟩ u h8 tk8 _ hI8 F3 N3
    dsimp only at hI8
    (repeat' ((first | (k_unfold; (try dsimp only)) | (k_end; kc_close) | walk1 | (dsimp only; walk1) | (leave1; (try dsimp only)) | fail "no step")))
    rename News h₀ _ _ _ => N8
    refine hret D9 ws k8 _ _ (by assumption) (fun p hp => N8 p ?_) (fun q hq => l1 q hq) hI8
    rcases List.mem_cons.mp hp with rfl | hp
    · exact .head _
    · exact .tail _ (.tail _ hp)
end

end

-- P8
theorem offP8 : True := by w_top off; trivial
section

section
variable {w : World} {mean : ExcName → Option Value} {mg mb : Str → Option Value} {dp un : Nat} {gd : Option (List Code)} {cn : Str} {cs : Scope} {a : Addr} {ccd : Value} {cl : List (Str × Addr)} {outer : List Env} {A₀ : Around} {base h₀ : Heap} {L : Addr} {m : Str → Option Value} {s : Shared} {Q E : Value → Shared → Prop} {news : List (Addr × Obj)}
def lawFn : Stmt := PySem.Challenge.pw_rr0075_01.main.body.getLastD (.Pass ⟨0, 0, 0, 0⟩)
def lawBody : List Stmt := match lawFn with
  | .FunctionDef _ _ b _ _ _ _ _ _ _ => b
  | _ => []
def lawScope : Scope := match lawFn with
  | .FunctionDef _ _ _ _ _ _ s _ _ _ => s
  | _ => { kind := .function, names := [], isGenerator := false, isCoroutine := false, more := [] }
def lawLoop : List Stmt := match lawBody.getD 14 (.Pass ⟨0, 0, 0, 0⟩) with
  | .For _ _ b _ _ => b
  | _ => []
def lawTail : List Stmt := lawLoop.drop 4
set_option maxHeartbeats 4000000 in
theorem stands_all (B : Below A₀ base outer h₀) (F : Fr h₀ L s.heap m) (X : (Mine.hd.heap_39 w.params).In h₀) (N : News h₀ L s.heap news) (T : Top Mine.hd.view_39 (looseW Mine.hd.view_39 []) mean mg mb h₀) (hk : cs.kind = .function) (hdd : dp + 9 < recursionLimit) (hu : un + 90 < cLine)
  {hv l l2 sa : Addr} {vs vs2 svs : List Value} {ns ns2 : List Int} {S H : List (Int × Int)} {nh nn nn2 nsv : Nat} {nid span now : Int} {t1 t2 t3 : Tok} {over : Bool}
  (hhv : ((hv, listOf #[.ref l] nh) ∈ news ∧ ns2 = []) ∨ ((hv, listOf #[.ref l, .ref l2] nh) ∈ news ∧ (l2, listOf vs2.toArray nn2) ∈ news ∧ IntsAre vs2 ns2 ∧ ns2 ≠ []))
  (hl : (l, listOf vs.toArray nn) ∈ news) (hi : IntsAre vs ns) (hlen : ns.length ≤ 8) (hns : ns ≠ []) (hlen2 : ns2.length ≤ 8)
  (hsa : (sa, listOf svs.toArray nsv) ∈ news) (hS : Tups news svs S) (hSl : S.length ≤ 50) (hH : Heard H S)
  (hret : ∀ (h' : Heap) (tk' : Nat), Fr h₀ L h' m → News h₀ L h' news → Q (.bool (!over && (winG ns (nearG H now span nid) && winG ns2 (nearG H now span nid)))) { s with heap := h', toks := tk' }) :
  wpAny (model PySem.Challenge.rw_rr0075_01.row.prog w) (ktrTop dp un gd cn cs L a ccd cl outer) (call (.ref 312) [.ref hv, .int nid t1, .int span t2, .int now t3, .ref sa, .bool over]) Q E s := by
  cases over with
  | true => exact stands0_ok B F X N T hk hdd hu (fun h' tk' F' N' => hret h' tk' F' N')
  | false =>
    rcases hhv with ⟨hhv, e⟩ | ⟨hhv, hl2, hi2, hn2⟩
    · subst e
      refine stands1_ok B F X N T hk hdd hu hhv hl hi hlen hsa hS hSl (fun h' tk' F' N' => ?_)
      have := hret h' tk' F' N'
      rw [win_stands hH nid now span hns, win_nil, Bool.and_true] at this
      exact this
    · refine stands2_ok B F X N T hk hdd hu hhv hl hi hlen hl2 hi2 hlen2 hsa hS hSl (fun h' tk' F' N' => ?_)
      have := hret h' tk' F' N'
      rw [win_stands hH nid now span hns, win_stands hH nid now span hn2] at this
      exact this
theorem kst_self {m : Str → Option Value} {ps : List (Str × Value)} (hps : ∀ p ∈ ps, m p.1 = some p.2) : kstB m ps = m := funext fun z => kstB_eq hps fun _ => rfl
theorem fr_kst {h₀ h : Heap} {L : Addr} {m : Str → Option Value} {ps : List (Str × Value)} (F : Fr h₀ L h m) (hps : ∀ p ∈ ps, m p.1 = some p.2) : Fr h₀ L h (kstB m ps) := by
  rw [kst_self hps]
  exact F
theorem ne_self_bool {b : Bool} : (b != b) = false := by cases b <;> rfl
local macro_rules | `(tactic| walk_at "call ref") => `(tactic| (k_here; (with_reducible show wpAny _ _ (call (Value.ref 312) _) _ _ _); k_dflt (refine' stands_all ?k1 ?k2 ?k3 ?k4 ?k5 ?k6 ?k7 ?k8 ?k9 ?k10 ?k11 ?k12 ?k13 ?k14 ?k15 ?k16 ?k17 ?k18 ?_; (case k1 => k_asm); (case k2 => k_asm); (case k3 => k_asm); (case k4 => k_asm); (case k5 => k_asm); (case k6 => exact rfl); (case k7 => ktr_room); (case k8 => first | k_units | ktr_units); (case k9 => assumption); (case k10 => assumption); (case k11 => assumption); (case k12 => assumption); (case k13 => assumption); (case k14 => assumption); (case k15 => assumption); (case k16 => assumption); (case k17 => assumption); (case k18 => assumption)); intro h9 tk9 F9 N9))
local macro_rules | `(tactic| walk_at "call ref") => `(tactic| (k_here; (with_reducible show wpAny _ _ (call (Value.ref 288) _) _ _ _); k_dflt (refine' holds_ok ?k1 ?k2 ?k3 ?k4 ?k5 ?k6 ?k7 ?k8 ?k9 ?k10 ?k11 ?k12 ?k13 ?k14 ?k15 ?k16 ?k17 ?k18 ?k19 ?k20 ?k21 ?k22 ?k23 ?k24 ?k25 ?_; (case k1 => k_asm); (case k2 => k_asm); (case k3 => k_asm); (case k4 => k_asm); (case k5 => k_asm); (case k6 => exact rfl); (case k7 => ktr_room); (case k8 => first | k_units | ktr_units); (case k9 => assumption); (case k10 => assumption); (case k11 => assumption); (case k12 => assumption); (case k13 => assumption); (case k14 => assumption); (case k15 => assumption); (case k16 => assumption); (case k17 => assumption); (case k18 => assumption); (case k19 => assumption); (case k20 => assumption); (case k21 => assumption); (case k22 => assumption); (case k23 => assumption); (case k24 => assumption); (case k25 => assumption)); intro h9 tk9 F9 N9))
set_option maxHeartbeats 4000000 in
theorem tail_ok {fa : Addr} {cd0 : Value} {QF : Flow → Shared → Prop} (B : Below A₀ base outer h₀) (F : Fr h₀ L s.heap m) (X : (Mine.hd.heap_39 w.params).In h₀) (N : News h₀ L s.heap news) (T : Top Mine.hd.view_39 (looseW Mine.hd.view_39 []) mean mg mb h₀) (hdd : dp + 20 < recursionLimit) (hu : un + 200 < cLine)
  {x dx hd c cd hv l l2 sa : Addr} {g1 g2 g3 g4 : Int} {y1 y2 y3 y4 y5 y6 : Tok} {sp ck : Int} {gu : Bool} {ng : Nat} {k1 k2 k3 k4 k5 : Int} {u1 u2 u3 u4 u5 : Tok} {v3 v4 v5 : Value} {nc : Nat} {vs vs2 svs : List Value} {ns ns2 : List Int} {S H : List (Int × Int)} {nh nn nn2 nsv : Nat} {nid : Int} {z1 z2 z3 : Tok}
  (hps : ∀ p ∈ ([(Str.ofString "lease", .ref x), (Str.ofString "conf", .ref c), (Str.ofString "halves", .ref hv), (Str.ofString "story", .ref sa), (Str.ofString "nid", .int nid z1), (Str.ofString "span", .int sp z2), (Str.ofString "now", .int ck z3), (Str.ofString "over", .bool gu)] : List (Str × Value)), m p.1 = some p.2)
  (hx : (x, instObj 291 dx) ∈ news) (hdx : (dx, dictOf [⟨g1, .str (Str.ofString "span") y1, .int sp y5⟩, ⟨g2, .str (Str.ofString "clock") y2, .int ck y6⟩, ⟨g3, .str (Str.ofString "heard") y3, .ref hd⟩, ⟨g4, .str (Str.ofString "given_up") y4, .bool gu⟩] ng) ∈ news) (hi0 : 0 ≤ ck) (hi1 : ck < 256)
  {oh : Obj} {hkvs : List (Int × Value)} (hhm : (hd, oh) ∈ news) (hhlo : (hd == sysModules) = false) (hdoh : oh.IsDictOf (PySem.intKind PySem.Challenge.rw_rr0075_01.row.prog w) hkvs) (hhf : FlatPairs PyData.int hkvs (kdfD H)) (hHl : H.length ≤ 50)
  (hc : (c, instObj 235 cd) ∈ news) (hcd : (cd, dictOf [⟨k1, .str (Str.ofString "voters") u1, .ref l⟩, ⟨k2, .str (Str.ofString "outgoing") u2, .ref l2⟩, ⟨k3, .str (Str.ofString "learners") u3, v3⟩, ⟨k4, .str (Str.ofString "learners_next") u4, v4⟩, ⟨k5, .str (Str.ofString "auto_leave") u5, v5⟩] nc) ∈ news)
  (hl : (l, listOf vs.toArray nn) ∈ news) (hi : IntsAre vs ns) (hlen : ns.length ≤ 8) (hns : ns ≠ [])
  (hl2 : (l2, listOf vs2.toArray nn2) ∈ news) (hi2 : IntsAre vs2 ns2) (hlen2 : ns2.length ≤ 8)
  {la lb : Addr} {vsa vsb : List Value} {na nb : Nat}
  (hhv : ((hv, listOf #[.ref la] nh) ∈ news ∧ ns2 = []) ∨ ((hv, listOf #[.ref la, .ref lb] nh) ∈ news ∧ (lb, listOf vsb.toArray nb) ∈ news ∧ IntsAre vsb ns2 ∧ ns2 ≠ []))
  (hla : (la, listOf vsa.toArray na) ∈ news) (hia : IntsAre vsa ns)
  (hsa : (sa, listOf svs.toArray nsv) ∈ news) (hS : Tups news svs S) (hSl : S.length ≤ 50) (hH : Heard H S)
  (hret : ∀ (h' : Heap) (tk' : Nat), Fr h₀ L h' m → News h₀ L h' news → QF .next { s with heap := h', toks := tk' }) :
  wpAny (model PySem.Challenge.rw_rr0075_01.row.prog w) (ktrTop dp un gd (Str.ofString "law") lawScope L fa cd0 [] outer) (execs lawTail (envX (Str.ofString "law") lawScope L fa cd0 [])) QF E s := by
  have em := kst_self hps
  have F2 := fr_kst F hps
  clear F
  conv in lawTail => whnf
  conv in lawScope => whnf
  (repeat' ((first | (k_unfold; (try dsimp only)) | (k_end; kc_close) | walk1 | (dsimp only; walk1) | (leave1; (try dsimp only)) | fail "no step")))
  · exfalso
    rename (_ != _) = true => hb
    rw [ne_self_bool] at hb
    exact Bool.false_ne_true hb
  · refine hret _ _ ?_ (by assumption)
    rename Fr _ _ _ _ => F9
    rw [em] at F9
    exact F9
end

end

-- P9a
theorem offP9a : True := by w_top off; trivial
section

inductive Trips (news : List (Addr × Obj)) : List Value → List (Int × List UInt8) → Prop
  | nil : Trips news [] []
  | cons {t : Addr} {a : Int} {b : List UInt8} {ta tb tc : Tok} {n : Nat} {vs : List Value} {S : List (Int × List UInt8)} : (t, ({ cls := .type "tuple", data := .seq #[.int a ta, .bytes b.toArray tb, .bytes (b64 a).toArray tc] n } : Obj)) ∈ news → Trips news vs S → Trips news (.ref t :: vs) ((a, b) :: S)
theorem Trips.length {news : List (Addr × Obj)} {vs : List Value} {S : List (Int × List UInt8)} (h : Trips news vs S) : vs.length = S.length := by
  induction h with
  | nil => rfl
  | cons _ _ ih => simp [ih]
theorem Trips.get {news : List (Addr × Obj)} {vs : List Value} {S : List (Int × List UInt8)} (h : Trips news vs S) : ∀ {i : Nat} {v : Value}, vs[i]? = some v → ∃ t a b ta tb tc n, v = .ref t ∧ S[i]? = some (a, b) ∧ (t, ({ cls := .type "tuple", data := .seq #[.int a ta, .bytes b.toArray tb, .bytes (b64 a).toArray tc] n } : Obj)) ∈ news := by
  induction h with
  | nil => intro i v e; simp at e
  | cons hm _ ih =>
    intro i v e
    cases i with
    | zero =>
      have e' : Value.ref _ = v := Option.some.inj e
      exact ⟨_, _, _, _, _, _, _, e'.symm, rfl, hm⟩
    | succ i => exact ih e
theorem Trips.mono {news news' : List (Addr × Obj)} {vs : List Value} {S : List (Int × List UInt8)} (h : Trips news vs S) (hs : ∀ q ∈ news, q ∈ news') : Trips news' vs S := by
  induction h with
  | nil => exact .nil
  | cons hm _ ih => exact .cons (hs _ hm) ih
theorem Trips.snoc {news : List (Addr × Obj)} {vs : List Value} {S : List (Int × List UInt8)} (h : Trips news vs S) {t : Addr} {a : Int} {b : List UInt8} {ta tb tc : Tok} {n : Nat} (hm : (t, ({ cls := .type "tuple", data := .seq #[.int a ta, .bytes b.toArray tb, .bytes (b64 a).toArray tc] n } : Obj)) ∈ news) : Trips news (vs ++ [.ref t]) (S ++ [(a, b)]) := by
  induction h with
  | nil => exact .cons hm .nil
  | cons hm' _ ih => exact .cons hm' ih
theorem Tups.snoc {news : List (Addr × Obj)} {vs : List Value} {S : List (Int × Int)} (h : Tups news vs S) {t : Addr} {a b : Int} {ta tb : Tok} {n : Nat} (hm : (t, ({ cls := .type "tuple", data := .seq #[.int a ta, .int b tb] n } : Obj)) ∈ news) : Tups news (vs ++ [.ref t]) (S ++ [(a, b)]) := by
  induction h with
  | nil => exact .cons hm .nil
  | cons hm' _ ih => exact .cons hm' ih
section
variable {prog : Program} {w : World} {A : Around} {E : Value → Shared → Prop} {s : Shared} {h₀ : Heap} {m : Str → Option Value} {env : Env} {news : List (Addr × Obj)}
theorem for_trips {iter : PySem.Expr} {body : List Stmt} {x y z : Str} {px py pz tp pos : Pos} {tk : Nat} {Q : Flow → Shared → Prop} {l : Addr} {k : Nat} {vs : List Value} {BB : List (Int × List UInt8)} {ps : List (Str × Value)}
    (hh : A.handled = none) (F : Fr h₀ env.locals s.heap m) (N : News h₀ env.locals s.heap news) (hl : (l, listOf vs.toArray k) ∈ news) (hB : Trips news vs BB) (hps : ∀ p ∈ ps, m p.1 = some p.2)
    (hx : env.kindOf x = some .local) (hy : env.kindOf y = some .local) (hz : env.kindOf z = some .local) (hp : (env.scope.kind == .class || (env.scope.kind == .module && env.locals != env.globals)) = false)
    (hit : ∀ (Q' : Value → Shared → Prop) (E' : Value → Shared → Prop), Q' (.ref l) s → wpAny (model prog w) A (eval iter env) Q' E' s)
    (turn : ∀ (a : Int) (b : List UInt8) (ta tb tc : Tok) (m₁ : Str → Option Value) (s₁ : Shared) (h : Heap) (tk : Nat) (own : List (Addr × Obj)), (a, b) ∈ BB → (∀ p ∈ ps, m₁ p.1 = some p.2) →
      Fr h₀ env.locals h (fun q => if q = z then some (.bytes (b64 a).toArray tc) else if q = y then some (.bytes b.toArray tb) else if q = x then some (.int a ta) else m₁ q) → News h₀ env.locals h (own ++ news) →
      wpAny (model prog w) A (execs body env) (fun f s' => f = .next ∧ ∃ h' tk' m', s' = { s₁ with heap := h', toks := tk' } ∧ Fr h₀ env.locals h' m' ∧ News h₀ env.locals h' (own ++ news) ∧ ∀ p ∈ ps, m' p.1 = some p.2) E { s₁ with heap := h, toks := tk })
    (done : ∀ (h : Heap) (tk : Nat) (m' : Str → Option Value), Fr h₀ env.locals h m' → News h₀ env.locals h news → (∀ p ∈ ps, m' p.1 = some p.2) → Q .next { s with heap := h, toks := tk })
    (hs : ∀ x, foldedSetIterable iter env x = pure x := by intro _; rfl) (hE : PassesOwn (model prog w) A env E := by passes_own) :
    wpAny (model prog w) A (exec (.For (.Tuple [.Name x px, .Name y py, .Name z pz] tk tp) iter body [] pos) env) Q E s := by
  refine For_invT h₀ (hit _ _ ?_) hs hE
  have hol : s.heap.get? l = some (listOf vs.toArray k) := (N _ hl).1
  have hls : s.heap.IsList l vs.toArray := ⟨_, hol, rfl, k, rfl⟩
  have hne : l ≠ s.heap.objs.size := Nat.ne_of_lt (Heap.lt_size hol)
  refine wpAny_pyIter_list hls ?_
  have W := Walks.list (prog := prog) (w := w) hh s.heap.objs.size l hne vs.toArray
  refine ⟨_, _, _, _, _, _, m, news, (fun _ m₁ nx => nx = news ∧ ∀ p ∈ ps, m₁ p.1 = some p.2), rfl, W, ?_, ?_, ?_, ⟨⟨_, Heap.get?_push_size _ rfl, rfl, rfl⟩, hls.at fun o e => Heap.get?_push_of_some _ e⟩, F.push _, (fun p hp => ⟨Heap.get?_push_of_some _ (N p hp).1, (N p hp).2⟩), ?_, ⟨rfl, hps⟩, ?_, ?_⟩
  · intro hm
    rcases List.mem_cons.mp hm with e | hm
    · exact absurd F.ns.lt (e ▸ Nat.lt_irrefl _)
    · exact (N _ hl).2.1 ((List.mem_singleton.mp hm).symm)
  · intro b hb
    rw [List.mem_singleton.mp hb]
    exact next_is_new F
  · intro p hp hI
    exact absurd (Heap.lt_size (N p hp).1) ((List.mem_singleton.mp hI) ▸ Nat.lt_irrefl _)
  · intro i s' v Q' st hq
    cases v <;> first | exact wpAny_letOwnedTupleGo_listiter st.1 hq | exact wpAny_pure hq
  · rintro i v m₁ news₁ s₁ own hi hP ⟨rfl, hps₁⟩ hoff _ _ _ hst F₁ N₁
    have hP' : vs[i]? = some v := by simpa using hP
    obtain ⟨t, a, b, ta, tb, tc, n9, rfl, hSi, htm⟩ := hB.get hP'
    have htup : IsTup s₁.heap t #[.int a ta, .bytes b.toArray tb, .bytes (b64 a).toArray tc] := ⟨_, (N₁ _ (List.mem_append.mpr (.inr htm))).1, rfl, n9, rfl⟩
    refine assign_Tuple_tuple hh htup rfl rfl fun h₅ he => ?_
    have he' : ∀ b o, s₁.heap.get? b = some o → h₅.get? b = some o := fun b o e => he b o (Nat.ne_of_lt (Heap.lt_size e)) e
    have F₅ : Fr h₀ env.locals h₅ m₁ := F₁.keeps he'
    have N₅ : News h₀ env.locals h₅ (own ++ news₁) := fun q hq => ⟨he' _ _ (N₁ q hq).1, (N₁ q hq).2⟩
    refine assignInOrder_cons (wpAny_assign_Name (wpAny_storeName_local hx F₅.ns (fun h₆ hn₆ hs₆ => ?_) hp))
    have F₆ := F₅.set hn₆ hs₆
    have N₆ := N₅.set hs₆
    refine assignInOrder_cons (wpAny_assign_Name (wpAny_storeName_local hy F₆.ns (fun h₇ hn₇ hs₇ => ?_) hp))
    have F₇ := F₆.set hn₇ hs₇
    have N₇ := N₆.set hs₇
    refine assignInOrder_cons (wpAny_assign_Name (wpAny_storeName_local hz F₇.ns (fun h₈ hn₈ hs₈ => ?_) hp))
    have F₈ := F₇.set hn₈ hs₈
    have N₈ := N₇.set hs₈
    refine assignInOrder_nil ?_
    refine wpAny_mono (turn a b ta tb tc m₁ s₁ h₈ _ own (List.mem_of_getElem? hSi) hps₁ F₈ N₈) (fun f s' hf => ?_) fun _ _ e => e
    obtain ⟨rfl, h', tk', m', rfl, F', N', hm'⟩ := hf
    exact LoopStepU.intro F' N' hoff ⟨rfl, hm'⟩
  · rintro h' tk m' news' F' N' _ ⟨rfl, hps'⟩
    exact done h' tk m' F' N' hps'
end


end

-- P9b
theorem offP9b : True := by w_top off; trivial
section

section
variable {w : World} {mean : ExcName → Option Value} {mg mb : Str → Option Value} {dp un : Nat} {gd : Option (List Code)} {cn : Str} {cs : Scope} {a : Addr} {ccd : Value} {cl : List (Str × Addr)} {outer : List Env} {A₀ : Around} {base h₀ : Heap} {L : Addr} {m : Str → Option Value} {s : Shared} {Q E : Value → Shared → Prop} {news : List (Addr × Obj)}
theorem upd_front {h₀ h : Heap} {L d : Addr} {o : Obj} {news : List (Addr × Obj)} {g : Obj → List (Addr × Obj)} (N : News h₀ L h news) (U : UpdF d o news g) :
    ∃ R, News h₀ L h ((d, o) :: R) ∧ (∀ p ∈ R, p.1 ≠ d) ∧ (∀ p, p ∈ news → p.1 ≠ d → p ∈ R) ∧ ∀ (h' : Heap) (o' : Obj), News h₀ L h' ((d, o') :: R) → News h₀ L h' (g o') := by
  obtain ⟨pre, post, rfl, hg, a, b⟩ := U.split
  refine ⟨pre ++ post, fun p hp => ?_, fun p hp => ?_, fun p hp hn => ?_, fun h' o' N' => ?_⟩
  · rcases List.mem_cons.mp hp with rfl | hp
    · exact N _ (List.mem_append.mpr (.inr (.head _)))
    · rcases List.mem_append.mp hp with hp | hp
      · exact N _ (List.mem_append.mpr (.inl hp))
      · exact N _ (List.mem_append.mpr (.inr (.tail _ hp)))
  · rcases List.mem_append.mp hp with hp | hp
    · exact a p hp
    · exact b p hp
  · rcases List.mem_append.mp hp with hp | hp
    · exact List.mem_append.mpr (.inl hp)
    · rcases List.mem_cons.mp hp with rfl | hp
      · exact absurd rfl hn
      · exact List.mem_append.mpr (.inr hp)
  · rw [hg]
    intro p hp
    rcases List.mem_append.mp hp with hp | hp
    · exact N' _ (.tail _ (List.mem_append.mpr (.inl hp)))
    · rcases List.mem_cons.mp hp with rfl | hp
      · exact N' _ (.head _)
      · exact N' _ (.tail _ (List.mem_append.mpr (.inr hp)))
theorem append_upd {prog : Program} {w : World} {A : Around} {E : Value → Shared → Prop} {s : Shared} {h₀ : Heap} {L D : Addr} {m : Str → Option Value} {news : List (Addr × Obj)} {g : Obj → List (Addr × Obj)} {ws : List Value} {k : Nat} {v : Value} {Q : Value → Shared → Prop}
    (F : Fr h₀ L s.heap m) (N : News h₀ L s.heap news) (U : UpdF D (listOf ws.toArray k) news g) (hsz : ws.length ≤ 1000)
    (h : ∀ h' k', Fr h₀ L h' m → News h₀ L h' (g (listOf (ws ++ [v]).toArray k')) → Q .none { s with heap := h' }) : wpAny (model prog w) A (call (.builtin "list.append") [.ref D, v]) Q E s := by
  obtain ⟨R, NR, neR, _, back⟩ := upd_front N U
  exact append_top (rest := R) (k := k) F NR neR hsz fun h' k' F' N' => h h' k' F' (back _ _ N')
local macro_rules | `(tactic| k_all) => `(tactic| assumption)
set_option maxHeartbeats 4000000 in
theorem tick_top (B : Below A₀ base outer h₀) (F : Fr h₀ L s.heap m) (X : (Mine.hd.heap_39 w.params).In h₀) (N : News h₀ L s.heap news) (T : Top Mine.hd.view_39 (looseW Mine.hd.view_39 []) mean mg mb h₀) (hk : cs.kind = .function) (hdd : dp + 9 < recursionLimit) (hu : un + 90 < cLine)
  {x dx hd : Addr} {g1 g2 g3 g4 : Int} {y1 y2 y3 y4 y5 y6 : Tok} {sp ck : Int} {gu : Bool} {ng : Nat} {R : List (Addr × Obj)} (hnews : news = (dx, dictOf [⟨g1, .str (Str.ofString "span") y1, .int sp y5⟩, ⟨g2, .str (Str.ofString "clock") y2, .int ck y6⟩, ⟨g3, .str (Str.ofString "heard") y3, .ref hd⟩, ⟨g4, .str (Str.ofString "given_up") y4, .bool gu⟩] ng) :: R) (hx : (x, instObj 291 dx) ∈ R) (hne : ∀ p ∈ R, p.1 ≠ dx)
  (hret : ∀ (t : Tok) (h' : Heap) (tk' : Nat), Fr h₀ L h' m → News h₀ L h' ((dx, dictOf [⟨g1, .str (Str.ofString "span") y1, .int sp y5⟩, ⟨g2, .str (Str.ofString "clock") y2, .int (ck + 1) t⟩, ⟨g3, .str (Str.ofString "heard") y3, .ref hd⟩, ⟨g4, .str (Str.ofString "given_up") y4, .bool gu⟩] ng) :: R) → Q .none { s with heap := h', toks := tk' }) :
  wpAny (model PySem.Challenge.rw_rr0075_01.row.prog w) (ktrTop dp un gd cn cs L a ccd cl outer) (call (.ref 260) [.ref x]) Q E s := by
  subst hnews
  refine wpAny_call ?_
  k_dflt cell_enter
  (repeat' ((fail_if_success (with_reducible show wpAny _ _ (setAttr _ _ _) _ _ _)); (first | (k_unfold; (try dsimp only)) | (k_end; kc_close) | walk1 | (dsimp only; walk1) | (leave1; (try dsimp only)) | fail "no step")))
  k_dflt (refine' set_dict (es' := [⟨g1, .str (Str.ofString "span") y1, .int sp y5⟩, ⟨g2, .str (Str.ofString "clock") y2, .int (ck + 1) _⟩, ⟨g3, .str (Str.ofString "heard") y3, .ref hd⟩, ⟨g4, .str (Str.ofString "given_up") y4, .bool gu⟩]) (n' := ng) ?k1 ?k2 ?k3 ?k4 ?k5 ?k6 ?k7 ?k8 ?k9 ?k10 ?k11 ?k12 ?k13 ?_; (case k1 => k_asm); (case k2 => k_asm); (case k3 => k_asm); (case k4 => k_inst); (case k5 => exact rfl); (case k6 => k_is); (case k7 => k_is); (case k8 => k_is); (case k9 => k_is); (case k10 => k_get); (case k11 => with_unfolding_all exact rfl); (case k12 => k_upd); (case k13 => exact Nat.le_of_ble_eq_true rfl))
  k_dflt (try dsimp only)
  intro h8 F8 N8
  (try dsimp only)
  (repeat' ((first | (k_unfold; (try dsimp only)) | (k_end; kc_close) | walk1 | (dsimp only; walk1) | (leave1; (try dsimp only)) | fail "no step")))
  exact hret _ _ _ (by assumption) (by assumption)
set_option maxHeartbeats 4000000 in
theorem give_top (B : Below A₀ base outer h₀) (F : Fr h₀ L s.heap m) (X : (Mine.hd.heap_39 w.params).In h₀) (N : News h₀ L s.heap news) (T : Top Mine.hd.view_39 (looseW Mine.hd.view_39 []) mean mg mb h₀) (hk : cs.kind = .function) (hdd : dp + 9 < recursionLimit) (hu : un + 90 < cLine)
  {x dx hd : Addr} {g1 g2 g3 g4 : Int} {y1 y2 y3 y4 y5 y6 : Tok} {sp ck : Int} {gu : Bool} {ng : Nat} {R : List (Addr × Obj)} (hnews : news = (dx, dictOf [⟨g1, .str (Str.ofString "span") y1, .int sp y5⟩, ⟨g2, .str (Str.ofString "clock") y2, .int ck y6⟩, ⟨g3, .str (Str.ofString "heard") y3, .ref hd⟩, ⟨g4, .str (Str.ofString "given_up") y4, .bool gu⟩] ng) :: R) (hx : (x, instObj 291 dx) ∈ R) (hne : ∀ p ∈ R, p.1 ≠ dx)
  (hret : ∀ (h' : Heap) (tk' : Nat), Fr h₀ L h' m → News h₀ L h' ((dx, dictOf [⟨g1, .str (Str.ofString "span") y1, .int sp y5⟩, ⟨g2, .str (Str.ofString "clock") y2, .int ck y6⟩, ⟨g3, .str (Str.ofString "heard") y3, .ref hd⟩, ⟨g4, .str (Str.ofString "given_up") y4, .bool true⟩] ng) :: R) → Q .none { s with heap := h', toks := tk' }) :
  wpAny (model PySem.Challenge.rw_rr0075_01.row.prog w) (ktrTop dp un gd cn cs L a ccd cl outer) (call (.ref 281) [.ref x]) Q E s := by
  subst hnews
  refine wpAny_call ?_
  k_dflt cell_enter
  (repeat' ((fail_if_success (with_reducible show wpAny _ _ (setAttr _ _ _) _ _ _)); (first | (k_unfold; (try dsimp only)) | (k_end; kc_close) | walk1 | (dsimp only; walk1) | (leave1; (try dsimp only)) | fail "no step")))
  k_dflt (refine' set_dict (es' := [⟨g1, .str (Str.ofString "span") y1, .int sp y5⟩, ⟨g2, .str (Str.ofString "clock") y2, .int ck y6⟩, ⟨g3, .str (Str.ofString "heard") y3, .ref hd⟩, ⟨g4, .str (Str.ofString "given_up") y4, .bool true⟩]) (n' := ng) ?k1 ?k2 ?k3 ?k4 ?k5 ?k6 ?k7 ?k8 ?k9 ?k10 ?k11 ?k12 ?k13 ?_; (case k1 => k_asm); (case k2 => k_asm); (case k3 => k_asm); (case k4 => k_inst); (case k5 => exact rfl); (case k6 => k_is); (case k7 => k_is); (case k8 => k_is); (case k9 => k_is); (case k10 => k_get); (case k11 => with_unfolding_all exact rfl); (case k12 => k_upd); (case k13 => exact Nat.le_of_ble_eq_true rfl))
  k_dflt (try dsimp only)
  intro h8 F8 N8
  (try dsimp only)
  (repeat' ((first | (k_unfold; (try dsimp only)) | (k_end; kc_close) | walk1 | (dsimp only; walk1) | (leave1; (try dsimp only)) | fail "no step")))
  exact hret _ _ (by assumption) (by assumption)
theorem tick_ok (B : Below A₀ base outer h₀) (F : Fr h₀ L s.heap m) (X : (Mine.hd.heap_39 w.params).In h₀) (N : News h₀ L s.heap news) (T : Top Mine.hd.view_39 (looseW Mine.hd.view_39 []) mean mg mb h₀) (hk : cs.kind = .function) (hdd : dp + 9 < recursionLimit) (hu : un + 90 < cLine)
  {x dx hd : Addr} {g1 g2 g3 g4 : Int} {y1 y2 y3 y4 y5 y6 : Tok} {sp ck : Int} {gu : Bool} {ng : Nat} {g : Obj → List (Addr × Obj)} (U : UpdF dx (dictOf [⟨g1, .str (Str.ofString "span") y1, .int sp y5⟩, ⟨g2, .str (Str.ofString "clock") y2, .int ck y6⟩, ⟨g3, .str (Str.ofString "heard") y3, .ref hd⟩, ⟨g4, .str (Str.ofString "given_up") y4, .bool gu⟩] ng) news g) (hx : (x, instObj 291 dx) ∈ news) (hxn : x ≠ dx)
  (hret : ∀ (t : Tok) (h' : Heap) (tk' : Nat), Fr h₀ L h' m → News h₀ L h' (g (dictOf [⟨g1, .str (Str.ofString "span") y1, .int sp y5⟩, ⟨g2, .str (Str.ofString "clock") y2, .int (ck + 1) t⟩, ⟨g3, .str (Str.ofString "heard") y3, .ref hd⟩, ⟨g4, .str (Str.ofString "given_up") y4, .bool gu⟩] ng)) → Q .none { s with heap := h', toks := tk' }) :
  wpAny (model PySem.Challenge.rw_rr0075_01.row.prog w) (ktrTop dp un gd cn cs L a ccd cl outer) (call (.ref 260) [.ref x]) Q E s := by
  obtain ⟨R, NR, neR, hin, back⟩ := upd_front N U
  exact tick_top B F X NR T hk hdd hu rfl (hin _ hx hxn) neR fun t h' tk' F' N' => hret t h' tk' F' (back _ _ N')
theorem give_ok (B : Below A₀ base outer h₀) (F : Fr h₀ L s.heap m) (X : (Mine.hd.heap_39 w.params).In h₀) (N : News h₀ L s.heap news) (T : Top Mine.hd.view_39 (looseW Mine.hd.view_39 []) mean mg mb h₀) (hk : cs.kind = .function) (hdd : dp + 9 < recursionLimit) (hu : un + 90 < cLine)
  {x dx hd : Addr} {g1 g2 g3 g4 : Int} {y1 y2 y3 y4 y5 y6 : Tok} {sp ck : Int} {gu : Bool} {ng : Nat} {g : Obj → List (Addr × Obj)} (U : UpdF dx (dictOf [⟨g1, .str (Str.ofString "span") y1, .int sp y5⟩, ⟨g2, .str (Str.ofString "clock") y2, .int ck y6⟩, ⟨g3, .str (Str.ofString "heard") y3, .ref hd⟩, ⟨g4, .str (Str.ofString "given_up") y4, .bool gu⟩] ng) news g) (hx : (x, instObj 291 dx) ∈ news) (hxn : x ≠ dx)
  (hret : ∀ (h' : Heap) (tk' : Nat), Fr h₀ L h' m → News h₀ L h' (g (dictOf [⟨g1, .str (Str.ofString "span") y1, .int sp y5⟩, ⟨g2, .str (Str.ofString "clock") y2, .int ck y6⟩, ⟨g3, .str (Str.ofString "heard") y3, .ref hd⟩, ⟨g4, .str (Str.ofString "given_up") y4, .bool true⟩] ng)) → Q .none { s with heap := h', toks := tk' }) :
  wpAny (model PySem.Challenge.rw_rr0075_01.row.prog w) (ktrTop dp un gd cn cs L a ccd cl outer) (call (.ref 281) [.ref x]) Q E s := by
  obtain ⟨R, NR, neR, hin, back⟩ := upd_front N U
  exact give_top B F X NR T hk hdd hu rfl (hin _ hx hxn) neR fun h' tk' F' N' => hret h' tk' F' (back _ _ N')
theorem hear_upd (B : Below A₀ base outer h₀) (F : Fr h₀ L s.heap m) (X : (Mine.hd.heap_39 w.params).In h₀) (N : News h₀ L s.heap news) (T : Top Mine.hd.view_39 (looseW Mine.hd.view_39 []) mean mg mb h₀) (hk : cs.kind = .function) (hdd : dp + 9 < recursionLimit) (hu : un + 90 < cLine)
  {hd : Addr} {oh : Obj} {g : Obj → List (Addr × Obj)} (U : UpdF hd oh news g)
  {x dx : Addr} {g1 g2 g3 g4 : Int} {y1 y2 y3 y4 y5 y6 : Tok} {sp ck : Int} {gu : Bool} {ng : Nat} (hx : (x, instObj 291 dx) ∈ news) (hdx : (dx, dictOf [⟨g1, .str (Str.ofString "span") y1, .int sp y5⟩, ⟨g2, .str (Str.ofString "clock") y2, .int ck y6⟩, ⟨g3, .str (Str.ofString "heard") y3, .ref hd⟩, ⟨g4, .str (Str.ofString "given_up") y4, .bool gu⟩] ng) ∈ news) (hxn : x ≠ hd) (hdn : dx ≠ hd)
  {hkvs : List (Int × Value)} {H : List (Int × Int)} (hhlo : (hd == sysModules) = false) (hdoh : oh.IsDictOf (PySem.intKind PySem.Challenge.rw_rr0075_01.row.prog w) hkvs) (hhf : FlatPairs PyData.int hkvs (kdfD H)) (hHl : H.length ≤ 50)
  {frm c : Int} {tf tx : Tok} {bs nm : List UInt8} (hbs : bs = b64 c ++ nm) (hc0 : 0 ≤ c) (hc1 : c < 256) (hnm : nm.length ≤ 100)
  (hret : ∀ (t : Tok) (h' : Heap) (tk' : Nat) (oh' : Obj) (hkvs' : List (Int × Value)), Fr h₀ L h' m → News h₀ L h' (g oh') → oh'.IsDictOf (PySem.intKind PySem.Challenge.rw_rr0075_01.row.prog w) hkvs' → FlatPairs PyData.int hkvs' (kdfD (hearF H frm c ck)) → Q (.bytes nm.toArray t) { s with heap := h', toks := tk' }) :
  wpAny (model PySem.Challenge.rw_rr0075_01.row.prog w) (ktrTop dp un gd cn cs L a ccd cl outer) (call (.ref 274) [.ref x, .int frm tf, .bytes bs.toArray tx]) Q E s := by
  subst hbs
  obtain ⟨R, NR, neR, hin, back⟩ := upd_front N U
  exact hear_ok B F X NR T hk hdd hu (hin _ hx hxn) (hin _ hdx hdn) neR hhlo hdoh hhf hHl hc0 hc1 hnm fun t h' tk' oh' hk' F' N' => hret t h' tk' oh' hk' F' (back _ _ N')
end

end

-- P9
theorem offP9 : True := by w_top off; trivial
section

section
variable {w : World} {mean : ExcName → Option Value} {mg mb : Str → Option Value} {dp un : Nat} {gd : Option (List Code)} {cn : Str} {cs : Scope} {a : Addr} {ccd : Value} {cl : List (Str × Addr)} {outer : List Env} {A₀ : Around} {base h₀ : Heap} {L : Addr} {m : Str → Option Value} {s : Shared} {Q E : Value → Shared → Prop} {news : List (Addr × Obj)}
set_option maxHeartbeats 4000000 in
theorem draw_ok (B : Below A₀ base outer h₀) (F : Fr h₀ L s.heap m) (X : (Mine.hd.heap_39 w.params).In h₀) (N : News h₀ L s.heap news) (T : Top Mine.hd.view_39 (looseW Mine.hd.view_39 []) mean mg mb h₀) (hk : cs.kind = .function) (hdd : dp + 9 < recursionLimit) (hu : un + 90 < cLine)
  {l : Addr} {vs : List Value} {ns : List Int} {i : Int} {ti : Tok} {nn : Nat} (hl : (l, listOf vs.toArray nn) ∈ news) (hi : IntsAre vs ns) (hlen : 0 < ns.length) (hlen2 : ns.length ≤ 15) (hi0 : 0 ≤ i) (hi1 : i < 15)
  (hret : ∀ (n : Int) (t : Tok) (h' : Heap) (tk' : Nat), Fr h₀ L h' m → News h₀ L h' news → Q (.int n t) { s with heap := h', toks := tk' }) :
  wpAny (model PySem.Challenge.rw_rr0075_01.row.prog w) (ktrTop dp un gd cn cs L a ccd cl outer) (call (.ref 302) [.ref l, .int i ti]) Q E s := by
  refine wpAny_call ?_
  k_dflt cell_enter
  (repeat' ((first | (k_unfold; (try dsimp only)) | (k_end; kc_close) | walk1 | (dsimp only; walk1) | (leave1; (try dsimp only)) | fail "no step")))
  exact hret _ _ _ _ (by assumption) (by assumption)
def Ap (a b : Nat) : Prop := a ≠ b
theorem Ap.ne {a b : Nat} (h : Ap a b) : a ≠ b := h
theorem Ap.ne' {a b : Nat} (h : Ap a b) : b ≠ a := Ne.symm h
local macro_rules | `(tactic| k_ne) => `(tactic| ((refine neN ?_); (try dsimp only); first | exact Ap.ne (by assumption) | exact Ap.ne' (by assumption)))
def lawChain : List Stmt := lawLoop.drop 3
local macro_rules | `(tactic| passes_own) => `(tactic| assumption)
local macro_rules | `(tactic| k_all) => `(tactic| assumption)
local macro_rules | `(tactic| walk_at "call ref") => `(tactic| (k_here; (with_reducible show wpAny _ _ (call (Value.ref 302) _) _ _ _); k_dflt (refine' draw_ok ?k1 ?k2 ?k3 ?k4 ?k5 ?k6 ?k7 ?k8 ?k9 ?k10 ?k11 ?k12 ?k13 ?k14 ?_; (case k1 => k_asm); (case k2 => k_asm); (case k3 => k_asm); (case k4 => k_asm); (case k5 => k_asm); (case k6 => exact rfl); (case k7 => ktr_room); (case k8 => first | k_units | ktr_units); (case k9 => k_mem); (case k10 => assumption); (case k11 => assumption); (case k12 => assumption); (case k13 => omega); (case k14 => omega)); intro n9 t9 h9 tk9 F9 N9))
local macro_rules | `(tactic| walk_at "call ref") => `(tactic| (k_here; (with_reducible show wpAny _ _ (call (Value.ref 274) _) _ _ _); k_dflt (refine' hear_short ?k1 ?k2 ?k3 ?k4 ?k5 ?k6 ?k7 ?k8 ?k9 ?_; (case k1 => k_asm); (case k2 => k_asm); (case k3 => k_asm); (case k4 => k_asm); (case k5 => k_asm); (case k6 => exact rfl); (case k7 => ktr_room); (case k8 => first | k_units | ktr_units); (case k9 => decide)); intro t9 h9 tk9 F9 N9))
theorem hearF_len (H : List (Int × Int)) (a c k : Int) : (hearF H a c k).length ≤ H.length + 1 := by
  unfold hearF
  split
  · exact kdfPut_len _ _ _
  · exact Nat.le_succ _
theorem hearF_late (H : List (Int × Int)) {a c k : Int} (h : k < c) : hearF H a c k = H := if_neg (fun hh => by have h1 := hh.1; omega)
theorem ne_self_list {b : List UInt8} : (b != b) = false := by simp
theorem bytes_add9 {prog : Program} {w : World} {A : Around} {E : Value → Shared → Prop} {s : Shared} {x : Int} {c : List UInt8} {t u : Tok} {Q : Value → Shared → Prop} (hc : c.length ≤ 1000) (h : ∀ t' k, Q (.bytes (b64 x ++ c).toArray t') { s with toks := k }) :
    wpAny (model prog w) A (binaryOp .Add (.bytes (b64 x).toArray t) (.bytes c.toArray u)) Q E s :=
  bytes_add_K (by rw [List.size_toArray, List.size_toArray]; show 8 + c.length ≤ _; omega) rfl h
local macro_rules | `(tactic| walk_at "binaryOp Add bytes bytes") => `(tactic| (k_here; k_dflt (refine' bytes_add9 ?z ?_; (case z => first | omega | decide)); intro t9 k9))
local macro_rules | `(tactic| walk_at "call ref") => `(tactic| (k_here; (with_reducible show wpAny _ _ (call (Value.ref 274) _) _ _ _); k_dflt (refine' hear_upd ?k1 ?k2 ?k3 ?k4 ?k5 ?k6 ?k7 ?k8 ?k9 ?k10 ?k11 ?k12 ?k13 ?k14 ?k15 ?k16 ?k17 ?k18 ?k19 ?k20 ?k21 ?_; (case k1 => k_asm); (case k2 => k_asm); (case k3 => k_asm); (case k4 => k_asm); (case k5 => k_asm); (case k6 => exact rfl); (case k7 => ktr_room); (case k8 => first | k_units | ktr_units); (case k10 => k_mem); (case k11 => k_mem); (case k12 => exact Ap.ne (by assumption)); (case k13 => exact Ap.ne (by assumption)); (case k9 => k_updF); (case k14 => assumption); (case k15 => assumption); (case k16 => assumption); (case k17 => omega); (case k18 => exact rfl); (case k19 => omega); (case k20 => omega); (case k21 => first | omega | decide)); intro t9 h9 tk9 oh9 hk9 F9 N9 hd9 hf9; (try dsimp only at N9)))
theorem news_rot5 {h₀ h : Heap} {L : Addr} {a b c d e : Addr × Obj} {r : List (Addr × Obj)} (N : News h₀ L h (a :: b :: c :: d :: e :: r)) : News h₀ L h (b :: c :: d :: e :: a :: r) := fun p hp => by
  rcases List.mem_cons.mp hp with rfl | hp
  · exact N _ (.tail _ (.head _))
  rcases List.mem_cons.mp hp with rfl | hp
  · exact N _ (.tail _ (.tail _ (.head _)))
  rcases List.mem_cons.mp hp with rfl | hp
  · exact N _ (.tail _ (.tail _ (.tail _ (.head _))))
  rcases List.mem_cons.mp hp with rfl | hp
  · exact N _ (.tail _ (.tail _ (.tail _ (.tail _ (.head _)))))
  rcases List.mem_cons.mp hp with rfl | hp
  · exact N _ (.head _)
  exact N _ (.tail _ (.tail _ (.tail _ (.tail _ (.tail _ hp)))))
theorem len_any {prog : Program} {w : World} {A : Around} {E : Value → Shared → Prop} {s : Shared} {h₀ : Heap} {L : Addr} {news : List (Addr × Obj)} {l : Addr} {vs : List Value} {a : Nat} {Q : Value → Shared → Prop} (N : News h₀ L s.heap news) (ha : (l, listOf vs.toArray a) ∈ news) (hsz : vs.length ≤ 1000)
    (h : Q (.int vs.length (s.toks + 1)) { s with toks := s.toks + 1 + 1 }) : wpAny (model prog w) A (call (.builtin "len") [.ref l]) Q E s := by
  have e : vs.toArray.size = vs.length := List.size_toArray
  refine len_list (News.isList N ha) ?_ ?_
  · rw [e]; omega
  · rw [e]; exact h
local macro_rules | `(tactic| walk_at "call builtin:len") => `(tactic| (k_here; (with_reducible show wpAny _ _ (call (Value.builtin "len") [Value.ref _]) _ _ _); k_dflt (refine' len_any ?N ?m ?z ?_; (case N => k_asm); (case m => k_mem); (case z => omega)); (try dsimp only)))
local macro_rules | `(tactic| walk_at "call builtin:list.append") => `(tactic| (k_here; (with_reducible show wpAny _ _ (call (Value.builtin "list.append") [Value.ref _, _]) _ _ _); k_dflt (refine' append_upd ?F ?N ?U ?z ?_; (case F => k_asm); (case N => k_asm); (case U => k_updF); (case z => omega)); intro h' k' F' N'; (try dsimp only at N'); (try dsimp only)))
local macro_rules | `(tactic| walk_at "call ref") => `(tactic| (k_here; (with_reducible show wpAny _ _ (call (Value.ref 120) [Value.int _ _]) _ _ _); k_dflt (refine' put64_ok ?k1 ?k2 ?k3 ?k4 ?k5 ?k6 ?k7 ?k8 ?k9 ?k10 ?_; (case k1 => k_asm); (case k2 => k_asm); (case k3 => k_asm); (case k4 => k_asm); (case k5 => k_asm); (case k6 => exact rfl); (case k7 => ktr_room); (case k8 => first | k_units | ktr_units); (case k9 => first | assumption | omega); (case k10 => first | assumption | omega)); intro t9 h9 tk9 F9 N9))
local macro_rules | `(tactic| walk_at "call ref") => `(tactic| (k_here; (with_reducible show wpAny _ _ (call (Value.ref 267) _) _ _ _); k_dflt (refine' stamp_ok ?k1 ?k2 ?k3 ?k4 ?k5 ?k6 ?k7 ?k8 ?k9 ?k10 ?k11 ?k12 ?_; (case k1 => k_asm); (case k2 => k_asm); (case k3 => k_asm); (case k4 => k_asm); (case k5 => k_asm); (case k6 => exact rfl); (case k7 => ktr_room); (case k8 => first | k_units | ktr_units); (case k9 => k_mem); (case k10 => k_mem); (case k11 => omega); (case k12 => omega)); intro t9 h9 tk9 F9 N9))
theorem ne_allLt {d : Nat} : ∀ {l : List (Addr × Obj)}, AllLt d l → ∀ p ∈ l, p.1 ≠ d
  | [], _ => fun _ h => absurd h List.not_mem_nil
  | q :: r, h => fun p hp => by
    rcases List.mem_cons.mp hp with e | hp
    · rw [e]; exact Nat.ne_of_lt h.1
    · exact ne_allLt h.2 p hp
theorem all5_ne {d : Nat} {p1 p2 p3 p4 : Addr × Obj} {l : List (Addr × Obj)} (h : p1.1 < d ∧ p2.1 < d ∧ p3.1 < d ∧ p4.1 < d ∧ AllLt d l) : ∀ p ∈ p1 :: p2 :: p3 :: p4 :: l, p.1 ≠ d :=
  ne_allLt (show AllLt d (p1 :: p2 :: p3 :: p4 :: l) from h)
local macro_rules | `(tactic| walk_at "call ref") => `(tactic| (k_here; (with_reducible show wpAny _ _ (call (Value.ref 260) _) _ _ _); k_dflt (refine' tick_ok ?k1 ?k2 ?k3 ?k4 ?k5 ?k6 ?k7 ?k8 ?k9 ?k10 ?k11 ?_; (case k1 => k_asm); (case k2 => k_asm); (case k3 => k_asm); (case k4 => k_asm); (case k5 => k_asm); (case k6 => exact rfl); (case k7 => ktr_room); (case k8 => first | k_units | ktr_units); (case k10 => k_mem); (case k9 => k_updF); (case k11 => exact Ap.ne (by assumption))); intro t9 h9 tk9 F9 N9; (try dsimp only at N9)))
local macro_rules | `(tactic| walk_at "call ref") => `(tactic| (k_here; (with_reducible show wpAny _ _ (call (Value.ref 281) _) _ _ _); k_dflt (refine' give_ok ?k1 ?k2 ?k3 ?k4 ?k5 ?k6 ?k7 ?k8 ?k9 ?k10 ?k11 ?_; (case k1 => k_asm); (case k2 => k_asm); (case k3 => k_asm); (case k4 => k_asm); (case k5 => k_asm); (case k6 => exact rfl); (case k7 => ktr_room); (case k8 => first | k_units | ktr_units); (case k10 => k_mem); (case k9 => k_updF); (case k11 => exact Ap.ne (by assumption))); intro h9 tk9 F9 N9; (try dsimp only at N9)))
local macro_rules | `(tactic| passes_own) => `(tactic| with_unfolding_all assumption)
set_option maxHeartbeats 4000000 in
theorem fin_ok {fa : Addr} {cd0 : Value} {QF : Flow → Shared → Prop} {rest own : List (Addr × Obj)} {x dx hd c cd hv l l2 sa ba na : Addr} {g1 g2 g3 g4 : Int} {y1 y2 y3 y4 y5 y6 : Tok} {sp ck : Int} {gu : Bool} {ng : Nat} {k1 k2 k3 k4 k5 : Int} {u1 u2 u3 u4 u5 : Tok} {v3 v4 v5 : Value} {nc : Nat} {vs vs2 svs bvs : List Value} {ns ns2 : List Int} {S H : List (Int × Int)} {BB : List (Int × List UInt8)} {nh nn nn2 ks kb : Nat} {nid : Int} {z1 z2 z3 : Tok} {oh : Obj} {hkvs : List (Int × Value)}
  {la lb : Addr} {vsa vsb : List Value} {nla nlb : Nat} {add : List (Addr × Obj)}
  (B : Below A₀ base outer h₀) (F : Fr h₀ L s.heap m) (X : (Mine.hd.heap_39 w.params).In h₀)
  (N : News h₀ L s.heap ((dx, dictOf [⟨g1, .str (Str.ofString "span") y1, .int sp y5⟩, ⟨g2, .str (Str.ofString "clock") y2, .int ck y6⟩, ⟨g3, .str (Str.ofString "heard") y3, .ref hd⟩, ⟨g4, .str (Str.ofString "given_up") y4, .bool gu⟩] ng) :: (hd, oh) :: (ba, listOf bvs.toArray kb) :: (sa, listOf svs.toArray ks) :: (add ++ (rest ++ own)))) (T : Top Mine.hd.view_39 (looseW Mine.hd.view_39 []) mean mg mb h₀) (hdd : dp + 20 < recursionLimit) (hu : un + 200 < cLine)
  (hps : ∀ p ∈ ([(Str.ofString "lease", .ref x), (Str.ofString "conf", .ref c), (Str.ofString "halves", .ref hv), (Str.ofString "story", .ref sa), (Str.ofString "nid", .int nid z1), (Str.ofString "span", .int sp z2), (Str.ofString "now", .int ck z3), (Str.ofString "over", .bool gu), (Str.ofString "nums", .ref na), (Str.ofString "beats", .ref ba)] : List (Str × Value)), m p.1 = some p.2)
  (hi0 : 0 ≤ ck) (hi1 : ck < 256)
  (hx : (x, instObj 291 dx) ∈ rest) (hhlo : (hd == sysModules) = false) (hdoh : oh.IsDictOf (PySem.intKind PySem.Challenge.rw_rr0075_01.row.prog w) hkvs) (hhf : FlatPairs PyData.int hkvs (kdfD H)) (hHl : H.length ≤ 40)
  (hc : (c, instObj 235 cd) ∈ rest) (hcd : (cd, dictOf [⟨k1, .str (Str.ofString "voters") u1, .ref l⟩, ⟨k2, .str (Str.ofString "outgoing") u2, .ref l2⟩, ⟨k3, .str (Str.ofString "learners") u3, v3⟩, ⟨k4, .str (Str.ofString "learners_next") u4, v4⟩, ⟨k5, .str (Str.ofString "auto_leave") u5, v5⟩] nc) ∈ rest)
  (hl : (l, listOf vs.toArray nn) ∈ rest) (hi : IntsAre vs ns) (hlen : ns.length ≤ 8) (hns : ns ≠ [])
  (hl2 : (l2, listOf vs2.toArray nn2) ∈ rest) (hi2 : IntsAre vs2 ns2) (hlen2 : ns2.length ≤ 8)
  (hhv : ((hv, listOf #[.ref la] nh) ∈ rest ∧ ns2 = []) ∨ ((hv, listOf #[.ref la, .ref lb] nh) ∈ rest ∧ (lb, listOf vsb.toArray nlb) ∈ rest ∧ IntsAre vsb ns2 ∧ ns2 ≠ []))
  (hla : (la, listOf vsa.toArray nla) ∈ rest) (hia : IntsAre vsa ns)
  (hS : Tups (add ++ rest) svs S) (hSl : S.length ≤ 40) (hH : Heard H S)
  (hret : ∀ (h' : Heap) (tk' : Nat), Fr h₀ L h' m → News h₀ L h' ((dx, dictOf [⟨g1, .str (Str.ofString "span") y1, .int sp y5⟩, ⟨g2, .str (Str.ofString "clock") y2, .int ck y6⟩, ⟨g3, .str (Str.ofString "heard") y3, .ref hd⟩, ⟨g4, .str (Str.ofString "given_up") y4, .bool gu⟩] ng) :: (hd, oh) :: (ba, listOf bvs.toArray kb) :: (sa, listOf svs.toArray ks) :: (add ++ (rest ++ own))) → QF .next { s with heap := h', toks := tk' }) :
  wpAny (model PySem.Challenge.rw_rr0075_01.row.prog w) (ktrTop dp un gd (Str.ofString "law") lawScope L fa cd0 [] outer) (execs lawTail (envX (Str.ofString "law") lawScope L fa cd0 [])) QF E s := by
  have hin : ∀ p, p ∈ rest → p ∈ ((dx, dictOf [⟨g1, .str (Str.ofString "span") y1, .int sp y5⟩, ⟨g2, .str (Str.ofString "clock") y2, .int ck y6⟩, ⟨g3, .str (Str.ofString "heard") y3, .ref hd⟩, ⟨g4, .str (Str.ofString "given_up") y4, .bool gu⟩] ng) :: (hd, oh) :: (ba, listOf bvs.toArray kb) :: (sa, listOf svs.toArray ks) :: (add ++ (rest ++ own))) := fun p hp => .tail _ (.tail _ (.tail _ (.tail _ (List.mem_append.mpr (.inr (List.mem_append.mpr (.inl hp)))))))
  have hin2 : ∀ p, p ∈ add ++ rest → p ∈ ((dx, dictOf [⟨g1, .str (Str.ofString "span") y1, .int sp y5⟩, ⟨g2, .str (Str.ofString "clock") y2, .int ck y6⟩, ⟨g3, .str (Str.ofString "heard") y3, .ref hd⟩, ⟨g4, .str (Str.ofString "given_up") y4, .bool gu⟩] ng) :: (hd, oh) :: (ba, listOf bvs.toArray kb) :: (sa, listOf svs.toArray ks) :: (add ++ (rest ++ own))) := fun p hp => (List.mem_append.mp hp).elim (fun hp => .tail _ (.tail _ (.tail _ (.tail _ (List.mem_append.mpr (.inl hp)))))) (hin p)
  exact tail_ok B F X N T hdd hu (fun p hp => hps p (by
      rcases List.mem_cons.mp hp with rfl | hp; · exact .head _
      refine .tail _ ?_
      rcases List.mem_cons.mp hp with rfl | hp; · exact .head _
      refine .tail _ ?_
      rcases List.mem_cons.mp hp with rfl | hp; · exact .head _
      refine .tail _ ?_
      rcases List.mem_cons.mp hp with rfl | hp; · exact .head _
      refine .tail _ ?_
      rcases List.mem_cons.mp hp with rfl | hp; · exact .head _
      refine .tail _ ?_
      rcases List.mem_cons.mp hp with rfl | hp; · exact .head _
      refine .tail _ ?_
      rcases List.mem_cons.mp hp with rfl | hp; · exact .head _
      refine .tail _ ?_
      rcases List.mem_cons.mp hp with rfl | hp; · exact .head _
      exact absurd hp List.not_mem_nil)) (hin _ hx) (.head _) hi0 hi1 (.tail _ (.head _)) hhlo hdoh hhf (Nat.le_trans hHl (by decide)) (hin _ hc) (hin _ hcd) (hin _ hl) hi hlen hns (hin _ hl2) hi2 hlen2
    (hhv.imp (fun hh => ⟨hin _ hh.1, hh.2⟩) fun hh => ⟨hin _ hh.1, hin _ hh.2.1, hh.2.2⟩) (hin _ hla) hia (.tail _ (.tail _ (.tail _ (.head _)))) (hS.mono hin2) (Nat.le_trans hSl (by decide)) hH hret
def lawBeat : List Stmt := match lawChain.getD 0 (.Pass ⟨0, 0, 0, 0⟩) with
  | .If _ _ (.If _ b _ _ :: _) _ => b.drop 1
  | _ => []
theorem b64_ne {a b : Int} (ha : 0 ≤ a) (ha2 : a < 256) (hb : 0 ≤ b) (hb2 : b < 256) (h : (b64 a).toArray = (b64 b).toArray) : a = b := by
  have e : b64 a = b64 b := by simpa using h
  have h1 := b64_get [] ha ha2
  have h2 := b64_get [] hb hb2
  rw [e] at h1
  exact h1.symm.trans h2
set_option maxHeartbeats 8000000 in
theorem beat_ok {fa : Addr} {cd0 : Value} {QF : Flow → Shared → Prop} {rest own : List (Addr × Obj)} {x dx hd c hv sa ba na : Addr} {g1 g2 g3 g4 : Int} {y1 y2 y3 y4 y5 y6 : Tok} {sp ck : Int} {gu : Bool} {ng : Nat} {svs bvs : List Value} {BB : List (Int × List UInt8)} {ks kb : Nat} {nid : Int} {z1 z2 z3 : Tok} {oh : Obj}
   {nm : List UInt8} {tnm : Tok}
  (hE : PassesOwn (model PySem.Challenge.rw_rr0075_01.row.prog w) (ktrTop dp un gd (Str.ofString "law") lawScope L fa cd0 [] outer) (envX (Str.ofString "law") lawScope L fa cd0 []) E) (B : Below A₀ base outer h₀) (F : Fr h₀ L s.heap m) (X : (Mine.hd.heap_39 w.params).In h₀)
  (N : News h₀ L s.heap ((dx, dictOf [⟨g1, .str (Str.ofString "span") y1, .int sp y5⟩, ⟨g2, .str (Str.ofString "clock") y2, .int ck y6⟩, ⟨g3, .str (Str.ofString "heard") y3, .ref hd⟩, ⟨g4, .str (Str.ofString "given_up") y4, .bool gu⟩] ng) :: (hd, oh) :: (ba, listOf bvs.toArray kb) :: (sa, listOf svs.toArray ks) :: (rest ++ own))) (T : Top Mine.hd.view_39 (looseW Mine.hd.view_39 []) mean mg mb h₀) (hdd : dp + 20 < recursionLimit) (hu : un + 200 < cLine)
  (n12 : Ap dx hd) (n13 : Ap dx ba) (n14 : Ap dx sa) (n23 : Ap hd ba) (n24 : Ap hd sa) (n34 : Ap ba sa)
  (o3 : ∀ p ∈ rest ++ own, p.1 ≠ ba)
  (hps : ∀ p ∈ ([(Str.ofString "lease", .ref x), (Str.ofString "conf", .ref c), (Str.ofString "halves", .ref hv), (Str.ofString "story", .ref sa), (Str.ofString "nid", .int nid z1), (Str.ofString "span", .int sp z2), (Str.ofString "now", .int ck z3), (Str.ofString "over", .bool gu), (Str.ofString "nums", .ref na), (Str.ofString "beats", .ref ba), (Str.ofString "name", .bytes nm.toArray tnm)] : List (Str × Value)), m p.1 = some p.2)
  (hi0 : 0 ≤ ck) (hi1 : ck < 200)
  (hx : (x, instObj 291 dx) ∈ rest)
  (hB : Trips rest bvs BB) (hBl : BB.length ≤ 30) (hBB : ∀ q ∈ BB, 0 ≤ q.1 ∧ q.1 ≤ ck ∧ q.2.length ≤ 100)
  (hnext : ∀ (t : Addr) (ta tb tc : Tok) (k n' : Nat) (h' : Heap) (tk' : Nat) (m' : Str → Option Value), Fr h₀ L h' m' →
    News h₀ L h' ((dx, dictOf [⟨g1, .str (Str.ofString "span") y1, .int sp y5⟩, ⟨g2, .str (Str.ofString "clock") y2, .int ck y6⟩, ⟨g3, .str (Str.ofString "heard") y3, .ref hd⟩, ⟨g4, .str (Str.ofString "given_up") y4, .bool gu⟩] ng) :: (hd, oh) :: (ba, listOf (bvs ++ [Value.ref t]).toArray k) :: (sa, listOf svs.toArray ks) :: ((t, ({ cls := .type "tuple", data := .seq #[.int ck ta, .bytes nm.toArray tb, .bytes (b64 ck).toArray tc] n' } : Obj)) :: (rest ++ own))) →
    (∀ p ∈ rest ++ own, p.1 ≠ t) → t ≠ dx → t ≠ hd → t ≠ ba → t ≠ sa → (∀ p ∈ ([(Str.ofString "lease", .ref x), (Str.ofString "conf", .ref c), (Str.ofString "halves", .ref hv), (Str.ofString "story", .ref sa), (Str.ofString "nid", .int nid z1), (Str.ofString "span", .int sp z2), (Str.ofString "now", .int ck z3), (Str.ofString "over", .bool gu), (Str.ofString "nums", .ref na), (Str.ofString "beats", .ref ba)] : List (Str × Value)), m' p.1 = some p.2) → QF .next { s with heap := h', toks := tk' }) :
  wpAny (model PySem.Challenge.rw_rr0075_01.row.prog w) (ktrTop dp un gd (Str.ofString "law") lawScope L fa cd0 [] outer) (execs lawBeat (envX (Str.ofString "law") lawScope L fa cd0 [])) QF E s := by
  have em := kst_self hps
  rw [← em] at F
  conv in lawBeat => whnf
  conv in lawScope => whnf
  have hbl9 : bvs.length ≤ 1000 := by have := hB.length; omega
  (repeat' ((fail_if_success (with_reducible show wpAny _ _ (exec (Stmt.For _ _ _ _ _) _) _ _ _)); (fail_if_success (with_reducible show wpAny _ _ (execs [Stmt.If _ _ _ _] _) _ _ _)); (first | (k_unfold; (try dsimp only)) | (k_end; kc_close) | walk1 | (dsimp only; walk1) | (leave1; (try dsimp only)) | fail "no step")))
  rename Fr _ _ _ _ => F8
  rename News _ _ _ _ => N8
  have hBn : Trips ((dx, dictOf [⟨g1, .str (Str.ofString "span") y1, .int sp y5⟩, ⟨g2, .str (Str.ofString "clock") y2, .int ck y6⟩, ⟨g3, .str (Str.ofString "heard") y3, .ref hd⟩, ⟨g4, .str (Str.ofString "given_up") y4, .bool gu⟩] ng) :: (hd, oh) :: (ba, listOf bvs.toArray kb) :: (sa, listOf svs.toArray ks) :: (rest ++ own)) bvs BB := hB.mono (fun q hq => .tail _ (.tail _ (.tail _ (.tail _ (List.mem_append.mpr (.inl hq))))))
  refine' for_trips (ps := ([(Str.ofString "lease", .ref x), (Str.ofString "conf", .ref c), (Str.ofString "halves", .ref hv), (Str.ofString "story", .ref sa), (Str.ofString "nid", .int nid z1), (Str.ofString "span", .int sp z2), (Str.ofString "now", .int ck z3), (Str.ofString "over", .bool gu), (Str.ofString "nums", .ref na), (Str.ofString "beats", .ref ba), (Str.ofString "name", .bytes nm.toArray tnm), (Str.ofString "stamp", .bytes (b64 ck).toArray _)] : List (Str × Value))) (by rfl) F8 N8 (.tail _ (.tail _ (.head _))) hBn ?pp1 (by rfl) (by rfl) (by rfl) (by rfl) (fun Q' E' h => ld F8 (by rfl) h) ?turn ?done (by intro _; rfl) hE
  case pp1 => (repeat' first | exact List.forall_mem_nil _ | (refine List.forall_mem_cons.mpr (And.intro (by with_unfolding_all exact rfl) ?_)))
  case turn =>
    intro a b ta tb tc m₁ s₁ h₁ tk₁ own₁ hmem hps₁ F9 N9
    have em₁ := kst_self hps₁
    rw [← em₁] at F9
    clear F8 N8
    have hab := hBB _ hmem
    have hcond : ((b64 ck == b64 a) != (a == ck)) = false := by
      by_cases h : a = ck
      · rw [h]; simp
      · have h5 : ¬ b64 ck = b64 a := fun e => h (b64_ne (by omega) (by omega) (by omega) (by omega) (by rw [e]))
        have e1 : (b64 ck == b64 a) = false := beq_eq_false_iff_ne.mpr h5
        have e2 : (a == ck) = false := beq_eq_false_iff_ne.mpr h
        rw [e1, e2]; rfl
    (repeat' ((fail_if_success (with_reducible show ite _ _ _)); (first | (k_unfold; (try dsimp only)) | (k_end; kc_close) | walk1 | (dsimp only; walk1) | (leave1; (try dsimp only)) | fail "no step")))
    simp only [hcond]
    (repeat' ((fail_if_success (with_reducible show wpAny _ _ (execs [] _) _ _ _)); (first | (k_unfold; (try dsimp only)) | (k_end; kc_close) | walk1 | (dsimp only; walk1) | (leave1; (try dsimp only)) | fail "no step")))
    rename Fr _ _ _ _ => F8
    rename News _ _ _ _ => N8
    refine wpAny_execs_nil ?_
    refine wpAny_execs_nil ?_
    refine ⟨rfl, _, _, _, rfl, F8, N8, ?_⟩
    (repeat' first | exact List.forall_mem_nil _ | (refine List.forall_mem_cons.mpr (And.intro (by with_unfolding_all exact rfl) ?_)))
  case done =>
    intro h₁ tk₁ m₁ F9 N9 hps₁
    have em₁ := kst_self hps₁
    rw [← em₁] at F9
    clear F8 N8
    (repeat' ((first | (k_unfold; (try dsimp only)) | (k_end; kc_close) | walk1 | (dsimp only; walk1) | (leave1; (try dsimp only)) | fail "no step")))
    rename Fr _ _ _ _ => F8
    rename News _ _ _ _ => N8
    rename _ ∧ _ => l1
    refine' hnext _ _ _ _ _ _ _ _ _ F8 (news_rot5 N8) (ne_allLt l1.2.2.2.2) (Nat.ne_of_gt l1.1) (Nat.ne_of_gt l1.2.1) (Nat.ne_of_gt l1.2.2.1) (Nat.ne_of_gt l1.2.2.2.1) ?pq
    (repeat' first | exact List.forall_mem_nil _ | (refine List.forall_mem_cons.mpr (And.intro (by with_unfolding_all exact rfl) ?_)))

set_option maxHeartbeats 8000000 in
theorem chain_ok {fa : Addr} {cd0 : Value} {QF : Flow → Shared → Prop} {rest own : List (Addr × Obj)} {x dx hd c cd hv l l2 sa ba na : Addr} {g1 g2 g3 g4 : Int} {y1 y2 y3 y4 y5 y6 : Tok} {sp ck : Int} {gu : Bool} {ng : Nat} {k1 k2 k3 k4 k5 : Int} {u1 u2 u3 u4 u5 : Tok} {v3 v4 v5 : Value} {nc : Nat} {vs vs2 svs bvs nvs : List Value} {ns ns2 nums : List Int} {S H : List (Int × Int)} {BB : List (Int × List UInt8)} {nh nn nn2 ks kb nk : Nat} {nid iv : Int} {z1 z2 z3 ti : Tok} {oh : Obj} {hkvs : List (Int × Value)}
  {la lb : Addr} {vsa vsb : List Value} {nla nlb : Nat} {n : Int} {tw ty : Tok}
  (hE : PassesOwn (model PySem.Challenge.rw_rr0075_01.row.prog w) (ktrTop dp un gd (Str.ofString "law") lawScope L fa cd0 [] outer) (envX (Str.ofString "law") lawScope L fa cd0 []) E) (B : Below A₀ base outer h₀) (F : Fr h₀ L s.heap m) (X : (Mine.hd.heap_39 w.params).In h₀)
  (N : News h₀ L s.heap ((dx, dictOf [⟨g1, .str (Str.ofString "span") y1, .int sp y5⟩, ⟨g2, .str (Str.ofString "clock") y2, .int ck y6⟩, ⟨g3, .str (Str.ofString "heard") y3, .ref hd⟩, ⟨g4, .str (Str.ofString "given_up") y4, .bool gu⟩] ng) :: (hd, oh) :: (ba, listOf bvs.toArray kb) :: (sa, listOf svs.toArray ks) :: (rest ++ own))) (T : Top Mine.hd.view_39 (looseW Mine.hd.view_39 []) mean mg mb h₀) (hdd : dp + 20 < recursionLimit) (hu : un + 200 < cLine)
  (n12 : Ap dx hd) (n13 : Ap dx ba) (n14 : Ap dx sa) (n23 : Ap hd ba) (n24 : Ap hd sa) (n34 : Ap ba sa)
  (o1 : ∀ p ∈ rest ++ own, p.1 ≠ dx) (o2 : ∀ p ∈ rest ++ own, p.1 ≠ hd) (o3 : ∀ p ∈ rest ++ own, p.1 ≠ ba) (o4 : ∀ p ∈ rest ++ own, p.1 ≠ sa)
  (hps : ∀ p ∈ ([(Str.ofString "lease", .ref x), (Str.ofString "conf", .ref c), (Str.ofString "halves", .ref hv), (Str.ofString "story", .ref sa), (Str.ofString "nid", .int nid z1), (Str.ofString "span", .int sp z2), (Str.ofString "now", .int ck z3), (Str.ofString "over", .bool gu), (Str.ofString "nums", .ref na), (Str.ofString "beats", .ref ba), (Str.ofString "way", .int (n.fmod 8) tw), (Str.ofString "y", .int (n.fdiv 8) ty)] : List (Str × Value)), m p.1 = some p.2)
  (hi0 : 0 ≤ ck) (hi1 : ck ≤ 2 * (iv - 1)) (hv1 : 1 ≤ iv) (hv2 : iv ≤ 14)
  (hx : (x, instObj 291 dx) ∈ rest) (hhlo : (hd == sysModules) = false) (hdoh : oh.IsDictOf (PySem.intKind PySem.Challenge.rw_rr0075_01.row.prog w) hkvs) (hhf : FlatPairs PyData.int hkvs (kdfD H)) (hHl : H.length ≤ 30)
  (hc : (c, instObj 235 cd) ∈ rest) (hcd : (cd, dictOf [⟨k1, .str (Str.ofString "voters") u1, .ref l⟩, ⟨k2, .str (Str.ofString "outgoing") u2, .ref l2⟩, ⟨k3, .str (Str.ofString "learners") u3, v3⟩, ⟨k4, .str (Str.ofString "learners_next") u4, v4⟩, ⟨k5, .str (Str.ofString "auto_leave") u5, v5⟩] nc) ∈ rest)
  (hl : (l, listOf vs.toArray nn) ∈ rest) (hi : IntsAre vs ns) (hlen : ns.length ≤ 8) (hns : ns ≠ [])
  (hl2 : (l2, listOf vs2.toArray nn2) ∈ rest) (hi2 : IntsAre vs2 ns2) (hlen2 : ns2.length ≤ 8)
  (hhv : ((hv, listOf #[.ref la] nh) ∈ rest ∧ ns2 = []) ∨ ((hv, listOf #[.ref la, .ref lb] nh) ∈ rest ∧ (lb, listOf vsb.toArray nlb) ∈ rest ∧ IntsAre vsb ns2 ∧ ns2 ≠ []))
  (hla : (la, listOf vsa.toArray nla) ∈ rest) (hia : IntsAre vsa ns)
  (hna : (na, listOf nvs.toArray nk) ∈ rest) (hin : IntsAre nvs nums) (hnl : 0 < nums.length) (hnl2 : nums.length ≤ 15)
  (hS : Tups rest svs S) (hSl : S.length ≤ 30) (hH : Heard H S)
  (hB : Trips rest bvs BB) (hBl : BB.length ≤ 30) (hBB : ∀ q ∈ BB, 0 ≤ q.1 ∧ q.1 ≤ ck ∧ q.2.length ≤ 100)
  (hnext : ∀ (ck' : Int) (gu' : Bool) (y6' z3' : Tok) (oh' : Obj) (hkvs' : List (Int × Value)) (H' : List (Int × Int)) (bvs' : List Value) (kb' : Nat) (BB' : List (Int × List UInt8)) (svs' : List Value) (ks' : Nat) (S' : List (Int × Int)) (add : List (Addr × Obj)) (h' : Heap) (tk' : Nat) (m' : Str → Option Value),
    Fr h₀ L h' m' → News h₀ L h' ((dx, dictOf [⟨g1, .str (Str.ofString "span") y1, .int sp y5⟩, ⟨g2, .str (Str.ofString "clock") y2, .int ck' y6'⟩, ⟨g3, .str (Str.ofString "heard") y3, .ref hd⟩, ⟨g4, .str (Str.ofString "given_up") y4, .bool gu'⟩] ng) :: (hd, oh') :: (ba, listOf bvs'.toArray kb') :: (sa, listOf svs'.toArray ks') :: (add ++ (rest ++ own))) →
    (∀ q ∈ add, (∀ p ∈ rest ++ own, p.1 ≠ q.1) ∧ q.1 ≠ dx ∧ q.1 ≠ hd ∧ q.1 ≠ ba ∧ q.1 ≠ sa) →
    0 ≤ ck' → ck' ≤ ck + 2 → oh'.IsDictOf (PySem.intKind PySem.Challenge.rw_rr0075_01.row.prog w) hkvs' → FlatPairs PyData.int hkvs' (kdfD H') → H'.length ≤ H.length + 1 → Heard H' S' →
    Trips (add ++ rest) bvs' BB' → BB'.length ≤ BB.length + 1 → (∀ q ∈ BB', 0 ≤ q.1 ∧ q.1 ≤ ck' ∧ q.2.length ≤ 100) → Tups (add ++ rest) svs' S' → S'.length ≤ S.length + 1 →
    (∀ p ∈ ([(Str.ofString "lease", .ref x), (Str.ofString "conf", .ref c), (Str.ofString "halves", .ref hv), (Str.ofString "story", .ref sa), (Str.ofString "nid", .int nid z1), (Str.ofString "span", .int sp z2), (Str.ofString "now", .int ck' z3'), (Str.ofString "over", .bool gu'), (Str.ofString "nums", .ref na), (Str.ofString "beats", .ref ba)] : List (Str × Value)), m' p.1 = some p.2) → QF .next { s with heap := h', toks := tk' }) :
  wpAny (model PySem.Challenge.rw_rr0075_01.row.prog w) (ktrTop dp un gd (Str.ofString "law") lawScope L fa cd0 [] outer) (execs lawChain (envX (Str.ofString "law") lawScope L fa cd0 [])) QF E s := by
  have em := kst_self hps
  rw [← em] at F
  conv in lawChain => whnf
  conv in lawScope => whnf
  have xdx : Ap x dx := o1 _ (List.mem_append.mpr (.inl hx))
  have xhd : Ap x hd := o2 _ (List.mem_append.mpr (.inl hx))
  have hbl : bvs.length = BB.length := hB.length
  have hbl2 : bvs.length ≤ 30 := by omega
  have hm3 : (n.fdiv 8).fmod 3 = 0 ∨ (n.fdiv 8).fmod 3 = 1 ∨ (n.fdiv 8).fmod 3 = 2 := by
    have := fmod_lo (n.fdiv 8) (n := 3) (by decide)
    have := fmod_hi (n.fdiv 8) (n := 3) (by decide)
    omega
  have key2 : ∀ (nm : List UInt8) (t : Addr) (ta tb tc : Tok) (k n' : Nat) (h' : Heap) (tk' : Nat) (m' : Str → Option Value), nm.length ≤ 100 → Fr h₀ L h' m' →
    News h₀ L h' ((dx, dictOf [⟨g1, .str (Str.ofString "span") y1, .int sp y5⟩, ⟨g2, .str (Str.ofString "clock") y2, .int ck y6⟩, ⟨g3, .str (Str.ofString "heard") y3, .ref hd⟩, ⟨g4, .str (Str.ofString "given_up") y4, .bool gu⟩] ng) :: (hd, oh) :: (ba, listOf (bvs ++ [Value.ref t]).toArray k) :: (sa, listOf svs.toArray ks) :: ((t, ({ cls := .type "tuple", data := .seq #[.int ck ta, .bytes nm.toArray tb, .bytes (b64 ck).toArray tc] n' } : Obj)) :: (rest ++ own))) →
    (∀ p ∈ rest ++ own, p.1 ≠ t) → t ≠ dx → t ≠ hd → t ≠ ba → t ≠ sa → (∀ p ∈ ([(Str.ofString "lease", .ref x), (Str.ofString "conf", .ref c), (Str.ofString "halves", .ref hv), (Str.ofString "story", .ref sa), (Str.ofString "nid", .int nid z1), (Str.ofString "span", .int sp z2), (Str.ofString "now", .int ck z3), (Str.ofString "over", .bool gu), (Str.ofString "nums", .ref na), (Str.ofString "beats", .ref ba)] : List (Str × Value)), m' p.1 = some p.2) →
    wpAny (model PySem.Challenge.rw_rr0075_01.row.prog w) (ktrTop dp un gd (Str.ofString "law") lawScope L fa cd0 [] outer) (execs lawTail (envX (Str.ofString "law") lawScope L fa cd0 [])) QF E { s with heap := h', toks := tk' } := by
    intro nm t ta tb tc k n' h' tk' m' hnm F' N' e0 e1 e2 e3 e4 hps'
    have hB2 := (hB.mono (news' := [(t, ({ cls := .type "tuple", data := .seq #[.int ck ta, .bytes nm.toArray tb, .bytes (b64 ck).toArray tc] n' } : Obj))] ++ rest) (fun q hq => List.mem_append.mpr (.inr hq))).snoc (.head _)
    have hS2 := hS.mono (news' := [(t, ({ cls := .type "tuple", data := .seq #[.int ck ta, .bytes nm.toArray tb, .bytes (b64 ck).toArray tc] n' } : Obj))] ++ rest) (fun q hq => List.mem_append.mpr (.inr hq))
    refine fin_ok (add := [(t, ({ cls := .type "tuple", data := .seq #[.int ck ta, .bytes nm.toArray tb, .bytes (b64 ck).toArray tc] n' } : Obj))]) (BB := BB) B F' X N' T hdd hu hps' (by omega) (by omega) hx hhlo hdoh hhf (by omega) hc hcd hl hi hlen hns hl2 hi2 hlen2 hhv hla hia hS2 (by omega) hH (fun h' tk' F' N' => hnext ck gu _ _ oh hkvs H (bvs ++ [Value.ref t]) k (BB ++ [(ck, nm)]) svs ks S _ h' tk' _ F' N' (fun q hq => ?_) (by omega) (by omega) hdoh hhf (by omega) hH hB2 (by simp) (fun q hq => ?_) hS2 (by omega) hps')
    · rw [List.mem_singleton.mp hq]
      exact ⟨e0, e1, e2, e3, e4⟩
    · rcases List.mem_append.mp hq with hq | hq
      · exact hBB q hq
      · rw [List.mem_singleton.mp hq]
        exact ⟨hi0, Int.le_refl _, hnm⟩
  have hsl : svs.length = S.length := hS.length
  have hsl2 : svs.length ≤ 30 := by omega
  have key3 : ∀ (who c9 : Int) (D : Addr) (ta tb : Tok) (k n' : Nat) (oh' : Obj) (hkvs' : List (Int × Value)) (h' : Heap) (tk' : Nat) (m' : Str → Option Value), 0 ≤ c9 → c9 ≤ ck → Fr h₀ L h' m' →
    News h₀ L h' ((dx, dictOf [⟨g1, .str (Str.ofString "span") y1, .int sp y5⟩, ⟨g2, .str (Str.ofString "clock") y2, .int ck y6⟩, ⟨g3, .str (Str.ofString "heard") y3, .ref hd⟩, ⟨g4, .str (Str.ofString "given_up") y4, .bool gu⟩] ng) :: (hd, oh') :: (ba, listOf bvs.toArray kb) :: (sa, listOf (svs ++ [Value.ref D]).toArray k) :: ((D, ({ cls := .type "tuple", data := .seq #[.int who ta, .int c9 tb] n' } : Obj)) :: (rest ++ own))) →
    (∀ p ∈ rest ++ own, p.1 ≠ D) → D ≠ dx → D ≠ hd → D ≠ ba → D ≠ sa → oh'.IsDictOf (PySem.intKind PySem.Challenge.rw_rr0075_01.row.prog w) hkvs' → FlatPairs PyData.int hkvs' (kdfD (hearF H who c9 ck)) → (∀ p ∈ ([(Str.ofString "lease", .ref x), (Str.ofString "conf", .ref c), (Str.ofString "halves", .ref hv), (Str.ofString "story", .ref sa), (Str.ofString "nid", .int nid z1), (Str.ofString "span", .int sp z2), (Str.ofString "now", .int ck z3), (Str.ofString "over", .bool gu), (Str.ofString "nums", .ref na), (Str.ofString "beats", .ref ba)] : List (Str × Value)), m' p.1 = some p.2) →
    wpAny (model PySem.Challenge.rw_rr0075_01.row.prog w) (ktrTop dp un gd (Str.ofString "law") lawScope L fa cd0 [] outer) (execs lawTail (envX (Str.ofString "law") lawScope L fa cd0 [])) QF E { s with heap := h', toks := tk' } := by
    intro who c9 D ta tb k n' oh' hkvs' h' tk' m' hc0 hc1 F' N' e0 e1 e2 e3 e4 hd' hf' hps'
    have hB2 := hB.mono (news' := [(D, ({ cls := .type "tuple", data := .seq #[.int who ta, .int c9 tb] n' } : Obj))] ++ rest) (fun q hq => List.mem_append.mpr (.inr hq))
    have hS2 := (hS.mono (news' := [(D, ({ cls := .type "tuple", data := .seq #[.int who ta, .int c9 tb] n' } : Obj))] ++ rest) (fun q hq => List.mem_append.mpr (.inr hq))).snoc (.head _)
    have hl3 := hearF_len H who c9 ck
    have hH2 := heard_hear (who := who) hH hc0 hc1
    refine fin_ok (add := [(D, ({ cls := .type "tuple", data := .seq #[.int who ta, .int c9 tb] n' } : Obj))]) (BB := BB) B F' X N' T hdd hu hps' (by omega) (by omega) hx hhlo hd' hf' (by omega) hc hcd hl hi hlen hns hl2 hi2 hlen2 hhv hla hia hS2 (by rw [List.length_append]; show S.length + 1 ≤ 40; omega) hH2 (fun h' tk' F' N' => hnext ck gu _ _ oh' hkvs' (hearF H who c9 ck) bvs kb BB (svs ++ [Value.ref D]) k (S ++ [(who, c9)]) _ h' tk' _ F' N' (fun q hq => ?_) (by omega) (by omega) hd' hf' (by omega) hH2 hB2 (by omega) hBB hS2 (by simp) hps')
    rw [List.mem_singleton.mp hq]
    exact ⟨e0, e1, e2, e3, e4⟩
  have key5 : ∀ (gu' : Bool) (oh' : Obj) (hkvs' : List (Int × Value)) (h' : Heap) (tk' : Nat) (m' : Str → Option Value), Fr h₀ L h' m' →
    News h₀ L h' ((dx, dictOf [⟨g1, .str (Str.ofString "span") y1, .int sp y5⟩, ⟨g2, .str (Str.ofString "clock") y2, .int ck y6⟩, ⟨g3, .str (Str.ofString "heard") y3, .ref hd⟩, ⟨g4, .str (Str.ofString "given_up") y4, .bool gu'⟩] ng) :: (hd, oh') :: (ba, listOf bvs.toArray kb) :: (sa, listOf svs.toArray ks) :: (rest ++ own)) →
    oh'.IsDictOf (PySem.intKind PySem.Challenge.rw_rr0075_01.row.prog w) hkvs' → FlatPairs PyData.int hkvs' (kdfD H) → (∀ p ∈ ([(Str.ofString "lease", .ref x), (Str.ofString "conf", .ref c), (Str.ofString "halves", .ref hv), (Str.ofString "story", .ref sa), (Str.ofString "nid", .int nid z1), (Str.ofString "span", .int sp z2), (Str.ofString "now", .int ck z3), (Str.ofString "over", .bool gu'), (Str.ofString "nums", .ref na), (Str.ofString "beats", .ref ba)] : List (Str × Value)), m' p.1 = some p.2) →
    wpAny (model PySem.Challenge.rw_rr0075_01.row.prog w) (ktrTop dp un gd (Str.ofString "law") lawScope L fa cd0 [] outer) (execs lawTail (envX (Str.ofString "law") lawScope L fa cd0 [])) QF E { s with heap := h', toks := tk' } := by
    intro gu' oh' hkvs' h' tk' m' F' N' hd' hf' hps'
    exact fin_ok (add := []) (BB := BB) B F' X N' T hdd hu hps' (by omega) (by omega) hx hhlo hd' hf' (by omega) hc hcd hl hi hlen hns hl2 hi2 hlen2 hhv hla hia hS (by omega) hH (fun h' tk' F' N' => hnext ck gu' _ _ oh' hkvs' H bvs kb BB svs ks S [] h' tk' _ F' N' (fun q hq => absurd hq List.not_mem_nil) (by omega) (by omega) hd' hf' (by omega) hH hB (by omega) hBB hS (by omega) hps')
  ((try (first | (k_unfold; (try dsimp only)) | (k_end; kc_close) | walk1 | (dsimp only; walk1) | (leave1; (try dsimp only)) | fail "no step")); (try (first | (k_unfold; (try dsimp only)) | (k_end; kc_close) | walk1 | (dsimp only; walk1) | (leave1; (try dsimp only)) | fail "no step")))
  (repeat' ((fail_if_success (with_reducible show wpAny _ _ (exec (Stmt.For _ _ _ _ _) _) _ _ _)); (fail_if_success (with_reducible show wpAny _ _ (execs [Stmt.If _ _ _ _] _) _ _ _)); (first | (k_unfold; (try dsimp only)) | (k_end; kc_close) | walk1 | (dsimp only; walk1) | (leave1; (try dsimp only)) | fail "no step")))
  · have h2 : (n.fdiv 8).fmod 2 = 0 ∨ (n.fdiv 8).fmod 2 = 1 := by
      have := fmod_lo (n.fdiv 8) (n := 2) (by decide)
      have := fmod_hi (n.fdiv 8) (n := 2) (by decide)
      omega
    rename Fr _ _ _ _ => F1
    with_unfolding_all refine' For_invVF F1 ?ka1 ?ka2 ?_ ?ka3 ?ka4
    case ka1 => exact rfl
    case ka2 => exact rfl
    case ka3 => intro _; with_unfolding_all rfl
    case ka4 => exact hE
    (repeat' ((fail_if_success (with_reducible show wpAny _ _ (call (Value.type "range") _) _ _ _)); (first | (k_unfold; (try dsimp only)) | (k_end; kc_close) | walk1 | (dsimp only; walk1) | (leave1; (try dsimp only)) | fail "no step")))
    rcases h2 with h2 | h2
    all_goals (simp only [h2, Int.reduceAdd])
    all_goals ((repeat' ((fail_if_success (with_reducible show wpAny _ _ (execs [Stmt.If _ _ _ _] _) _ _ _)); (fail_if_success (with_reducible show UnrEnd _ _ _ _ _ _ _)); (first | (k_unfold; (try dsimp only)) | (k_end; kc_close) | walk1 | (dsimp only; walk1) | (leave1; (try dsimp only)) | fail "no step"))))
    all_goals (rename Fr _ _ _ _ => Fe; rename News _ _ _ _ => Ne; rename _ ∧ _ => le)
    · refine UnrEnd.intro Fe Ne _ (fun p hp => hp) (all5_ne le) ?_
      intro h8 tk8 F8 N8
      clear Fe Ne
      (repeat' ((fail_if_success (with_reducible show wpAny _ _ (execs [Stmt.If _ _ _ _] _) _ _ _)); (first | (k_unfold; (try dsimp only)) | (k_end; kc_close) | walk1 | (dsimp only; walk1) | (leave1; (try dsimp only)) | fail "no step")))
      refine' fin_ok (add := []) (nid := nid) (z1 := z1) (z2 := z2) (na := na) (BB := BB) B F8 X N8 T hdd hu ?ps1 (by omega) (by omega) hx hhlo hdoh hhf (by omega) hc hcd hl hi hlen hns hl2 hi2 hlen2 hhv hla hia hS (by omega) hH (fun h' tk' F' N' => hnext (ck + 1) gu _ _ oh hkvs H bvs kb BB svs ks S [] h' tk' _ F' N' (fun q hq => absurd hq List.not_mem_nil) (by omega) (by omega) hdoh hhf (by omega) hH hB (by omega) (fun q hq => ⟨(hBB q hq).1, by have := (hBB q hq).2.1; omega, (hBB q hq).2.2⟩) hS (by omega) ?ps2)
      case ps1 => (repeat' first | exact List.forall_mem_nil _ | (refine List.forall_mem_cons.mpr (And.intro (by with_unfolding_all exact rfl) ?_)))
      case ps2 => (repeat' first | exact List.forall_mem_nil _ | (refine List.forall_mem_cons.mpr (And.intro (by with_unfolding_all exact rfl) ?_)))
    · refine UnrEnd.intro Fe Ne _ (fun p hp => hp) (all5_ne le) ?_
      intro t8 h8 tk8 F8 N8
      clear Fe Ne
      (repeat' ((fail_if_success (with_reducible show wpAny _ _ (execs [Stmt.If _ _ _ _] _) _ _ _)); (fail_if_success (with_reducible show UnrEnd _ _ _ _ _ _ _)); (first | (k_unfold; (try dsimp only)) | (k_end; kc_close) | walk1 | (dsimp only; walk1) | (leave1; (try dsimp only)) | fail "no step")))
      rename Fr _ _ _ _ => Fe; rename News _ _ _ _ => Ne
      refine UnrEnd.intro Fe Ne _ (fun p hp => hp) (all5_ne le) ?_
      intro h8 tk8 F8 N8
      clear Fe Ne
      (repeat' ((fail_if_success (with_reducible show wpAny _ _ (execs [Stmt.If _ _ _ _] _) _ _ _)); (fail_if_success (with_reducible show UnrEnd _ _ _ _ _ _ _)); (first | (k_unfold; (try dsimp only)) | (k_end; kc_close) | walk1 | (dsimp only; walk1) | (leave1; (try dsimp only)) | fail "no step")))
      refine' fin_ok (add := []) (nid := nid) (z1 := z1) (z2 := z2) (na := na) (BB := BB) B F8 X N8 T hdd hu ?ps3 (by omega) (by omega) hx hhlo hdoh hhf (by omega) hc hcd hl hi hlen hns hl2 hi2 hlen2 hhv hla hia hS (by omega) hH (fun h' tk' F' N' => hnext (ck + 1 + 1) gu _ _ oh hkvs H bvs kb BB svs ks S [] h' tk' _ F' N' (fun q hq => absurd hq List.not_mem_nil) (by omega) (by omega) hdoh hhf (by omega) hH hB (by omega) (fun q hq => ⟨(hBB q hq).1, by have := (hBB q hq).2.1; omega, (hBB q hq).2.2⟩) hS (by omega) ?ps4)
      case ps3 => (repeat' first | exact List.forall_mem_nil _ | (refine List.forall_mem_cons.mpr (And.intro (by with_unfolding_all exact rfl) ?_)))
      case ps4 => (repeat' first | exact List.forall_mem_nil _ | (refine List.forall_mem_cons.mpr (And.intro (by with_unfolding_all exact rfl) ?_)))
  · ((try (first | (k_unfold; (try dsimp only)) | (k_end; kc_close) | walk1 | (dsimp only; walk1) | (leave1; (try dsimp only)) | fail "no step")); (try (first | (k_unfold; (try dsimp only)) | (k_end; kc_close) | walk1 | (dsimp only; walk1) | (leave1; (try dsimp only)) | fail "no step")); (try (first | (k_unfold; (try dsimp only)) | (k_end; kc_close) | walk1 | (dsimp only; walk1) | (leave1; (try dsimp only)) | fail "no step")))
    (repeat' ((fail_if_success (with_reducible show wpAny _ _ (exec (Stmt.For _ _ _ _ _) _) _ _ _)); (fail_if_success (with_reducible show wpAny _ _ (execs [Stmt.If _ _ _ _] _) _ _ _)); (fail_if_success (with_reducible show wpAny _ _ (subscriptTail _ _ _ _) _ _ _)); (fail_if_success (with_reducible show wpAny _ _ (getItem _ _) _ _ _)); (first | (k_unfold; (try dsimp only)) | (k_end; kc_close) | walk1 | (dsimp only; walk1) | (leave1; (try dsimp only)) | fail "no step")))
    · rcases hm3 with h3 | h3 | h3
      · rw [h3]
        (repeat' ((fail_if_success (with_reducible show wpAny _ _ (execs (Stmt.Assign _ _ _ :: _ :: _) _) _ _ _)); (first | (k_unfold; (try dsimp only)) | (k_end; kc_close) | walk1 | (dsimp only; walk1) | (leave1; (try dsimp only)) | fail "no step")))
        rename Fr _ _ _ _ => F8
        rename News _ _ _ _ => N8
        refine' beat_ok (nm := []) (nid := nid) (z1 := z1) (z2 := z2) (z3 := z3) (na := na) (hv := hv) (c := c) hE B F8 X (fun p hp => N8 p (.tail _ hp)) T hdd hu n12 n13 n14 n23 n24 n34 o3 ?pau0 (by omega) (by omega) hx hB hBl hBB ?pbu0
        case pau0 => (repeat' first | exact List.forall_mem_nil _ | (refine List.forall_mem_cons.mpr (And.intro (by with_unfolding_all exact rfl) ?_)))
        case pbu0 =>
          intro t ta tb tc k n' h' tk' m' F' N' e0 e1 e2 e3 e4 hps'
          (repeat' ((fail_if_success (with_reducible show wpAny _ _ (execs [Stmt.If _ _ _ _] _) _ _ _)); (first | (k_unfold; (try dsimp only)) | (k_end; kc_close) | walk1 | (dsimp only; walk1) | (leave1; (try dsimp only)) | fail "no step")))
          exact key2 _ t _ _ _ _ _ h' tk' m' (by decide) F' N' e0 e1 e2 e3 e4 hps'
      · rw [h3]
        (repeat' ((fail_if_success (with_reducible show wpAny _ _ (execs (Stmt.Assign _ _ _ :: _ :: _) _) _ _ _)); (first | (k_unfold; (try dsimp only)) | (k_end; kc_close) | walk1 | (dsimp only; walk1) | (leave1; (try dsimp only)) | fail "no step")))
        rename Fr _ _ _ _ => F8
        rename News _ _ _ _ => N8
        refine' beat_ok (nm := [114, 111, 117, 110, 100]) (nid := nid) (z1 := z1) (z2 := z2) (z3 := z3) (na := na) (hv := hv) (c := c) hE B F8 X (fun p hp => N8 p (.tail _ hp)) T hdd hu n12 n13 n14 n23 n24 n34 o3 ?pau1 (by omega) (by omega) hx hB hBl hBB ?pbu1
        case pau1 => (repeat' first | exact List.forall_mem_nil _ | (refine List.forall_mem_cons.mpr (And.intro (by with_unfolding_all exact rfl) ?_)))
        case pbu1 =>
          intro t ta tb tc k n' h' tk' m' F' N' e0 e1 e2 e3 e4 hps'
          (repeat' ((fail_if_success (with_reducible show wpAny _ _ (execs [Stmt.If _ _ _ _] _) _ _ _)); (first | (k_unfold; (try dsimp only)) | (k_end; kc_close) | walk1 | (dsimp only; walk1) | (leave1; (try dsimp only)) | fail "no step")))
          exact key2 _ t _ _ _ _ _ h' tk' m' (by decide) F' N' e0 e1 e2 e3 e4 hps'
      · rw [h3]
        (repeat' ((fail_if_success (with_reducible show wpAny _ _ (execs (Stmt.Assign _ _ _ :: _ :: _) _) _ _ _)); (first | (k_unfold; (try dsimp only)) | (k_end; kc_close) | walk1 | (dsimp only; walk1) | (leave1; (try dsimp only)) | fail "no step")))
        rename Fr _ _ _ _ => F8
        rename News _ _ _ _ => N8
        refine' beat_ok (nm := [0, 0, 0, 0, 0, 0, 0, 0]) (nid := nid) (z1 := z1) (z2 := z2) (z3 := z3) (na := na) (hv := hv) (c := c) hE B F8 X (fun p hp => N8 p (.tail _ hp)) T hdd hu n12 n13 n14 n23 n24 n34 o3 ?pau2 (by omega) (by omega) hx hB hBl hBB ?pbu2
        case pau2 => (repeat' first | exact List.forall_mem_nil _ | (refine List.forall_mem_cons.mpr (And.intro (by with_unfolding_all exact rfl) ?_)))
        case pbu2 =>
          intro t ta tb tc k n' h' tk' m' F' N' e0 e1 e2 e3 e4 hps'
          (repeat' ((fail_if_success (with_reducible show wpAny _ _ (execs [Stmt.If _ _ _ _] _) _ _ _)); (first | (k_unfold; (try dsimp only)) | (k_end; kc_close) | walk1 | (dsimp only; walk1) | (leave1; (try dsimp only)) | fail "no step")))
          exact key2 _ t _ _ _ _ _ h' tk' m' (by decide) F' N' e0 e1 e2 e3 e4 hps'
    · rcases hm3 with h3 | h3 | h3
      · rw [h3]
        (repeat' ((fail_if_success (with_reducible show wpAny _ _ (execs (Stmt.Assign _ _ _ :: _ :: _) _) _ _ _)); (first | (k_unfold; (try dsimp only)) | (k_end; kc_close) | walk1 | (dsimp only; walk1) | (leave1; (try dsimp only)) | fail "no step")))
        rename Fr _ _ _ _ => F8
        rename News _ _ _ _ => N8
        refine' beat_ok (nm := []) (nid := nid) (z1 := z1) (z2 := z2) (z3 := z3) (na := na) (hv := hv) (c := c) hE B F8 X (fun p hp => N8 p (.tail _ hp)) T hdd hu n12 n13 n14 n23 n24 n34 o3 ?pav0 (by omega) (by omega) hx hB hBl hBB ?pbv0
        case pav0 => (repeat' first | exact List.forall_mem_nil _ | (refine List.forall_mem_cons.mpr (And.intro (by with_unfolding_all exact rfl) ?_)))
        case pbv0 =>
          intro t ta tb tc k n' h' tk' m' F' N' e0 e1 e2 e3 e4 hps'
          (repeat' ((fail_if_success (with_reducible show wpAny _ _ (execs [Stmt.If _ _ _ _] _) _ _ _)); (first | (k_unfold; (try dsimp only)) | (k_end; kc_close) | walk1 | (dsimp only; walk1) | (leave1; (try dsimp only)) | fail "no step")))
          exact key2 _ t _ _ _ _ _ h' tk' m' (by decide) F' N' e0 e1 e2 e3 e4 hps'
      · rw [h3]
        (repeat' ((fail_if_success (with_reducible show wpAny _ _ (execs (Stmt.Assign _ _ _ :: _ :: _) _) _ _ _)); (first | (k_unfold; (try dsimp only)) | (k_end; kc_close) | walk1 | (dsimp only; walk1) | (leave1; (try dsimp only)) | fail "no step")))
        rename Fr _ _ _ _ => F8
        rename News _ _ _ _ => N8
        refine' beat_ok (nm := [114, 111, 117, 110, 100]) (nid := nid) (z1 := z1) (z2 := z2) (z3 := z3) (na := na) (hv := hv) (c := c) hE B F8 X (fun p hp => N8 p (.tail _ hp)) T hdd hu n12 n13 n14 n23 n24 n34 o3 ?pav1 (by omega) (by omega) hx hB hBl hBB ?pbv1
        case pav1 => (repeat' first | exact List.forall_mem_nil _ | (refine List.forall_mem_cons.mpr (And.intro (by with_unfolding_all exact rfl) ?_)))
        case pbv1 =>
          intro t ta tb tc k n' h' tk' m' F' N' e0 e1 e2 e3 e4 hps'
          (repeat' ((fail_if_success (with_reducible show wpAny _ _ (execs [Stmt.If _ _ _ _] _) _ _ _)); (first | (k_unfold; (try dsimp only)) | (k_end; kc_close) | walk1 | (dsimp only; walk1) | (leave1; (try dsimp only)) | fail "no step")))
          exact key2 _ t _ _ _ _ _ h' tk' m' (by decide) F' N' e0 e1 e2 e3 e4 hps'
      · rw [h3]
        (repeat' ((fail_if_success (with_reducible show wpAny _ _ (execs (Stmt.Assign _ _ _ :: _ :: _) _) _ _ _)); (first | (k_unfold; (try dsimp only)) | (k_end; kc_close) | walk1 | (dsimp only; walk1) | (leave1; (try dsimp only)) | fail "no step")))
        rename Fr _ _ _ _ => F8
        rename News _ _ _ _ => N8
        refine' beat_ok (nm := [0, 0, 0, 0, 0, 0, 0, 0]) (nid := nid) (z1 := z1) (z2 := z2) (z3 := z3) (na := na) (hv := hv) (c := c) hE B F8 X (fun p hp => N8 p (.tail _ hp)) T hdd hu n12 n13 n14 n23 n24 n34 o3 ?pav2 (by omega) (by omega) hx hB hBl hBB ?pbv2
        case pav2 => (repeat' first | exact List.forall_mem_nil _ | (refine List.forall_mem_cons.mpr (And.intro (by with_unfolding_all exact rfl) ?_)))
        case pbv2 =>
          intro t ta tb tc k n' h' tk' m' F' N' e0 e1 e2 e3 e4 hps'
          (repeat' ((fail_if_success (with_reducible show wpAny _ _ (execs [Stmt.If _ _ _ _] _) _ _ _)); (first | (k_unfold; (try dsimp only)) | (k_end; kc_close) | walk1 | (dsimp only; walk1) | (leave1; (try dsimp only)) | fail "no step")))
          exact key2 _ t _ _ _ _ _ h' tk' m' (by decide) F' N' e0 e1 e2 e3 e4 hps'
    · ((try (first | (k_unfold; (try dsimp only)) | (k_end; kc_close) | walk1 | (dsimp only; walk1) | (leave1; (try dsimp only)) | fail "no step")); (try (first | (k_unfold; (try dsimp only)) | (k_end; kc_close) | walk1 | (dsimp only; walk1) | (leave1; (try dsimp only)) | fail "no step")); (try (first | (k_unfold; (try dsimp only)) | (k_end; kc_close) | walk1 | (dsimp only; walk1) | (leave1; (try dsimp only)) | fail "no step")))
      (repeat' ((fail_if_success (with_reducible show wpAny _ _ (execs [Stmt.If _ _ _ _] _) _ _ _)); (fail_if_success (with_reducible show wpAny _ _ (subscriptTail _ _ _ _) _ _ _)); (fail_if_success (with_reducible show wpAny _ _ (getItem _ _) _ _ _)); (first | (k_unfold; (try dsimp only)) | (k_end; kc_close) | walk1 | (dsimp only; walk1) | (leave1; (try dsimp only)) | fail "no step")))
      · rename News _ _ _ _ => N8
        have hls := News.isList N8 (.tail _ (.tail _ (.head _)))
        have hlp : (0 : Int) < (bvs.length : Int) := by omega
        have q0 := fmod_lo ((n.fdiv 8).fdiv 5) hlp
        have q1 := fmod_hi ((n.fdiv 8).fdiv 5) hlp
        have hsz : bvs.toArray.size = bvs.length := List.size_toArray
        obtain ⟨v9, hv9⟩ : ∃ v, bvs[((-1 - ((n.fdiv 8).fdiv 5).fmod (bvs.length : Int)) + (bvs.length : Int)).toNat]? = some v := ⟨_, List.getElem?_eq_getElem (by omega)⟩
        obtain ⟨t0, sent, nm, ta, tb, tc, n0, rfl, hS0, ht0⟩ := hB.get hv9
        have hbb := hBB _ (List.mem_of_getElem? hS0)
        have hb0 : 0 ≤ sent := hbb.1
        have hb1 : sent ≤ ck := hbb.2.1
        have hb2 : nm.length ≤ 100 := hbb.2.2
        refine subscriptTail_builtin hls.typeIs slot_list_getitem.lookup (wpAny_getItem_list_neg hls (by omega) (by rw [hsz]; omega) (by omega) (by rw [hsz]; simpa using hv9) ?_)
        clear hls hv9 hS0 hbb
        (repeat' ((fail_if_success (with_reducible show wpAny _ _ (execs [Stmt.If _ _ _ _] _) _ _ _)); (first | (k_unfold; (try dsimp only)) | (k_end; kc_close) | walk1 | (dsimp only; walk1) | (leave1; (try dsimp only)) | fail "no step")))
        · exfalso
          rename (_ != _) = true => hb
          rw [ne_self_list] at hb
          exact Bool.false_ne_true hb
        · rename Fr _ _ _ _ => F8
          rename News _ _ _ _ => N8
          rename _ ∧ _ => l1
          rename Obj.IsDictOf _ _ _ => hd8
          rename FlatPairs _ _ (kdfD (hearF _ _ _ _)) => hf8
          refine key3 _ _ _ _ _ _ _ _ _ _ _ _ hb0 hb1 F8 (news_rot5 N8) (ne_allLt l1.2.2.2.2) (Nat.ne_of_gt l1.1) (Nat.ne_of_gt l1.2.1) (Nat.ne_of_gt l1.2.2.1) (Nat.ne_of_gt l1.2.2.2.1) hd8 hf8 ?_
          (repeat' first | exact List.forall_mem_nil _ | (refine List.forall_mem_cons.mpr (And.intro (by with_unfolding_all exact rfl) ?_)))
      · ((try (first | (k_unfold; (try dsimp only)) | (k_end; kc_close) | walk1 | (dsimp only; walk1) | (leave1; (try dsimp only)) | fail "no step")); (try (first | (k_unfold; (try dsimp only)) | (k_end; kc_close) | walk1 | (dsimp only; walk1) | (leave1; (try dsimp only)) | fail "no step")); (try (first | (k_unfold; (try dsimp only)) | (k_end; kc_close) | walk1 | (dsimp only; walk1) | (leave1; (try dsimp only)) | fail "no step")))
        (repeat' ((fail_if_success (with_reducible show wpAny _ _ (execs [Stmt.If _ _ _ _] _) _ _ _)); (fail_if_success (with_reducible show wpAny _ _ (subscriptTail _ _ _ _) _ _ _)); (fail_if_success (with_reducible show wpAny _ _ (getItem _ _) _ _ _)); (first | (k_unfold; (try dsimp only)) | (k_end; kc_close) | walk1 | (dsimp only; walk1) | (leave1; (try dsimp only)) | fail "no step")))
        · rename Fr _ _ _ _ => F8
          rename News _ _ _ _ => N8
          refine' key5 true _ _ _ _ _ F8 N8 hdoh hhf ?_
          (repeat' first | exact List.forall_mem_nil _ | (refine List.forall_mem_cons.mpr (And.intro (by with_unfolding_all exact rfl) ?_)))
        · have hm5 : ((n.fdiv 8).fdiv 5).fmod 3 = 0 ∨ ((n.fdiv 8).fdiv 5).fmod 3 = 1 ∨ ((n.fdiv 8).fdiv 5).fmod 3 = 2 := by
            have := fmod_lo ((n.fdiv 8).fdiv 5) (n := 3) (by decide)
            have := fmod_hi ((n.fdiv 8).fdiv 5) (n := 3) (by decide)
            omega
          ((try (first | (k_unfold; (try dsimp only)) | (k_end; kc_close) | walk1 | (dsimp only; walk1) | (leave1; (try dsimp only)) | fail "no step")); (try (first | (k_unfold; (try dsimp only)) | (k_end; kc_close) | walk1 | (dsimp only; walk1) | (leave1; (try dsimp only)) | fail "no step")); (try (first | (k_unfold; (try dsimp only)) | (k_end; kc_close) | walk1 | (dsimp only; walk1) | (leave1; (try dsimp only)) | fail "no step")))
          (repeat' ((fail_if_success (with_reducible show wpAny _ _ (execs [Stmt.If _ _ _ _] _) _ _ _)); (first | (k_unfold; (try dsimp only)) | (k_end; kc_close) | walk1 | (dsimp only; walk1) | (leave1; (try dsimp only)) | fail "no step")))
          · ((try (first | (k_unfold; (try dsimp only)) | (k_end; kc_close) | walk1 | (dsimp only; walk1) | (leave1; (try dsimp only)) | fail "no step")); (try (first | (k_unfold; (try dsimp only)) | (k_end; kc_close) | walk1 | (dsimp only; walk1) | (leave1; (try dsimp only)) | fail "no step")); (try (first | (k_unfold; (try dsimp only)) | (k_end; kc_close) | walk1 | (dsimp only; walk1) | (leave1; (try dsimp only)) | fail "no step")))
            (repeat' ((fail_if_success (with_reducible show wpAny _ _ (execs [Stmt.If _ _ _ _] _) _ _ _)); (fail_if_success (with_reducible show wpAny _ _ (subscriptTail _ _ _ _) _ _ _)); (first | (k_unfold; (try dsimp only)) | (k_end; kc_close) | walk1 | (dsimp only; walk1) | (leave1; (try dsimp only)) | fail "no step")))
            rcases hm5 with h5 | h5 | h5
            all_goals (rw [h5]; (repeat' ((fail_if_success (with_reducible show wpAny _ _ (execs [Stmt.If _ _ _ _] _) _ _ _)); (first | (k_unfold; (try dsimp only)) | (k_end; kc_close) | walk1 | (dsimp only; walk1) | (leave1; (try dsimp only)) | fail "no step"))))
            all_goals (rename Fr _ _ _ _ => F8; rename News _ _ _ _ => N8)
            · refine' key5 gu oh hkvs _ _ _ F8 (fun p hp => N8 p (.tail _ hp)) hdoh hhf ?_
              (repeat' first | exact List.forall_mem_nil _ | (refine List.forall_mem_cons.mpr (And.intro (by with_unfolding_all exact rfl) ?_)))
            · refine' key5 gu oh hkvs _ _ _ F8 (fun p hp => N8 p (.tail _ hp)) hdoh hhf ?_
              (repeat' first | exact List.forall_mem_nil _ | (refine List.forall_mem_cons.mpr (And.intro (by with_unfolding_all exact rfl) ?_)))
            · refine' key5 gu oh hkvs _ _ _ F8 (fun p hp => N8 p (.tail _ hp)) hdoh hhf ?_
              (repeat' first | exact List.forall_mem_nil _ | (refine List.forall_mem_cons.mpr (And.intro (by with_unfolding_all exact rfl) ?_)))
          · exact absurd (by assumption : n.fmod 8 = 6) (by assumption)
        · have q0 := fmod_lo ((n.fdiv 8).fdiv 5) (n := 9) (by decide)
          have q1 := fmod_hi ((n.fdiv 8).fdiv 5) (n := 9) (by decide)
          ((try (first | (k_unfold; (try dsimp only)) | (k_end; kc_close) | walk1 | (dsimp only; walk1) | (leave1; (try dsimp only)) | fail "no step")); (try (first | (k_unfold; (try dsimp only)) | (k_end; kc_close) | walk1 | (dsimp only; walk1) | (leave1; (try dsimp only)) | fail "no step")); (try (first | (k_unfold; (try dsimp only)) | (k_end; kc_close) | walk1 | (dsimp only; walk1) | (leave1; (try dsimp only)) | fail "no step")))
          (repeat' ((fail_if_success (with_reducible show wpAny _ _ (execs [Stmt.If _ _ _ _] _) _ _ _)); (first | (k_unfold; (try dsimp only)) | (k_end; kc_close) | walk1 | (dsimp only; walk1) | (leave1; (try dsimp only)) | fail "no step")))
          · exact absurd (by assumption : n.fmod 8 = 6) (by assumption)
          · ((try (first | (k_unfold; (try dsimp only)) | (k_end; kc_close) | walk1 | (dsimp only; walk1) | (leave1; (try dsimp only)) | fail "no step")); (try (first | (k_unfold; (try dsimp only)) | (k_end; kc_close) | walk1 | (dsimp only; walk1) | (leave1; (try dsimp only)) | fail "no step")); (try (first | (k_unfold; (try dsimp only)) | (k_end; kc_close) | walk1 | (dsimp only; walk1) | (leave1; (try dsimp only)) | fail "no step")))
            (repeat' ((fail_if_success (with_reducible show wpAny _ _ (execs [Stmt.If _ _ _ _] _) _ _ _)); (first | (k_unfold; (try dsimp only)) | (k_end; kc_close) | walk1 | (dsimp only; walk1) | (leave1; (try dsimp only)) | fail "no step")))
            rename Fr _ _ _ _ => F8
            rename News _ _ _ _ => N8
            rename Obj.IsDictOf _ _ _ => hd8
            rename FlatPairs _ _ (kdfD (hearF _ _ _ _)) => hf8
            rw [hearF_late _ (by omega)] at hf8
            refine' key5 gu _ _ _ _ _ F8 N8 hd8 hf8 ?_
            (repeat' first | exact List.forall_mem_nil _ | (refine List.forall_mem_cons.mpr (And.intro (by with_unfolding_all exact rfl) ?_)))

end

end

-- P10
theorem offP10 : True := by w_top off; trivial
section

section
variable {w : World} {mean : ExcName → Option Value} {mg mb : Str → Option Value} {dp un : Nat} {gd : Option (List Code)} {cn : Str} {cs : Scope} {a : Addr} {ccd : Value} {cl : List (Str × Addr)} {outer : List Env} {A₀ : Around} {base h₀ : Heap} {L : Addr} {m : Str → Option Value} {s : Shared} {Q E : Value → Shared → Prop} {news : List (Addr × Obj)}
local macro_rules | `(tactic| k_all) => `(tactic| assumption)
local macro_rules | `(tactic| walk_at "call ref") => `(tactic| (k_here; (with_reducible show wpAny _ _ (call (Value.ref 302) _) _ _ _); k_dflt (refine' draw_ok ?k1 ?k2 ?k3 ?k4 ?k5 ?k6 ?k7 ?k8 ?k9 ?k10 ?k11 ?k12 ?k13 ?k14 ?_; (case k1 => k_asm); (case k2 => k_asm); (case k3 => k_asm); (case k4 => k_asm); (case k5 => k_asm); (case k6 => exact rfl); (case k7 => ktr_room); (case k8 => first | k_units | ktr_units); (case k9 => k_mem); (case k10 => assumption); (case k11 => assumption); (case k12 => assumption); (case k13 => omega); (case k14 => omega)); intro n9 t9 h9 tk9 F9 N9))
local macro_rules | `(tactic| passes_own) => `(tactic| with_unfolding_all assumption)
set_option maxHeartbeats 8000000 in
theorem turn_ok {fa : Addr} {cd0 : Value} {QF : Flow → Shared → Prop} {rest own : List (Addr × Obj)} {x dx hd c cd hv l l2 sa ba na : Addr} {g1 g2 g3 g4 : Int} {y1 y2 y3 y4 y5 y6 : Tok} {sp ck : Int} {gu : Bool} {ng : Nat} {k1 k2 k3 k4 k5 : Int} {u1 u2 u3 u4 u5 : Tok} {v3 v4 v5 : Value} {nc : Nat} {vs vs2 svs bvs nvs : List Value} {ns ns2 nums : List Int} {S H : List (Int × Int)} {BB : List (Int × List UInt8)} {nh nn nn2 ks kb nk : Nat} {nid iv : Int} {z1 z2 z3 ti : Tok} {oh : Obj} {hkvs : List (Int × Value)}
  {la lb : Addr} {vsa vsb : List Value} {nla nlb : Nat}
  (hE : PassesOwn (model PySem.Challenge.rw_rr0075_01.row.prog w) (ktrTop dp un gd (Str.ofString "law") lawScope L fa cd0 [] outer) (envX (Str.ofString "law") lawScope L fa cd0 []) E) (B : Below A₀ base outer h₀) (F : Fr h₀ L s.heap (fun y => if y = Str.ofString "i" then some (.int iv ti) else m y)) (X : (Mine.hd.heap_39 w.params).In h₀)
  (N : News h₀ L s.heap ((dx, dictOf [⟨g1, .str (Str.ofString "span") y1, .int sp y5⟩, ⟨g2, .str (Str.ofString "clock") y2, .int ck y6⟩, ⟨g3, .str (Str.ofString "heard") y3, .ref hd⟩, ⟨g4, .str (Str.ofString "given_up") y4, .bool gu⟩] ng) :: (hd, oh) :: (ba, listOf bvs.toArray kb) :: (sa, listOf svs.toArray ks) :: (rest ++ own))) (T : Top Mine.hd.view_39 (looseW Mine.hd.view_39 []) mean mg mb h₀) (hdd : dp + 20 < recursionLimit) (hu : un + 200 < cLine)
  (n12 : Ap dx hd) (n13 : Ap dx ba) (n14 : Ap dx sa) (n23 : Ap hd ba) (n24 : Ap hd sa) (n34 : Ap ba sa)
  (o1 : ∀ p ∈ rest ++ own, p.1 ≠ dx) (o2 : ∀ p ∈ rest ++ own, p.1 ≠ hd) (o3 : ∀ p ∈ rest ++ own, p.1 ≠ ba) (o4 : ∀ p ∈ rest ++ own, p.1 ≠ sa)
  (hps : ∀ p ∈ ([(Str.ofString "lease", .ref x), (Str.ofString "conf", .ref c), (Str.ofString "halves", .ref hv), (Str.ofString "story", .ref sa), (Str.ofString "nid", .int nid z1), (Str.ofString "span", .int sp z2), (Str.ofString "now", .int ck z3), (Str.ofString "over", .bool gu), (Str.ofString "nums", .ref na), (Str.ofString "beats", .ref ba)] : List (Str × Value)), m p.1 = some p.2)
  (hi0 : 0 ≤ ck) (hi1 : ck ≤ 2 * (iv - 1)) (hv1 : 1 ≤ iv) (hv2 : iv ≤ 14)
  (hx : (x, instObj 291 dx) ∈ rest) (hhlo : (hd == sysModules) = false) (hdoh : oh.IsDictOf (PySem.intKind PySem.Challenge.rw_rr0075_01.row.prog w) hkvs) (hhf : FlatPairs PyData.int hkvs (kdfD H)) (hHl : H.length ≤ 30)
  (hc : (c, instObj 235 cd) ∈ rest) (hcd : (cd, dictOf [⟨k1, .str (Str.ofString "voters") u1, .ref l⟩, ⟨k2, .str (Str.ofString "outgoing") u2, .ref l2⟩, ⟨k3, .str (Str.ofString "learners") u3, v3⟩, ⟨k4, .str (Str.ofString "learners_next") u4, v4⟩, ⟨k5, .str (Str.ofString "auto_leave") u5, v5⟩] nc) ∈ rest)
  (hl : (l, listOf vs.toArray nn) ∈ rest) (hi : IntsAre vs ns) (hlen : ns.length ≤ 8) (hns : ns ≠ [])
  (hl2 : (l2, listOf vs2.toArray nn2) ∈ rest) (hi2 : IntsAre vs2 ns2) (hlen2 : ns2.length ≤ 8)
  (hhv : ((hv, listOf #[.ref la] nh) ∈ rest ∧ ns2 = []) ∨ ((hv, listOf #[.ref la, .ref lb] nh) ∈ rest ∧ (lb, listOf vsb.toArray nlb) ∈ rest ∧ IntsAre vsb ns2 ∧ ns2 ≠ []))
  (hla : (la, listOf vsa.toArray nla) ∈ rest) (hia : IntsAre vsa ns)
  (hna : (na, listOf nvs.toArray nk) ∈ rest) (hin : IntsAre nvs nums) (hnl : 0 < nums.length) (hnl2 : nums.length ≤ 15)
  (hS : Tups rest svs S) (hSl : S.length ≤ 30) (hH : Heard H S)
  (hB : Trips rest bvs BB) (hBl : BB.length ≤ 30) (hBB : ∀ q ∈ BB, 0 ≤ q.1 ∧ q.1 ≤ ck ∧ q.2.length ≤ 100)
  (hnext : ∀ (ck' : Int) (gu' : Bool) (y6' z3' : Tok) (oh' : Obj) (hkvs' : List (Int × Value)) (H' : List (Int × Int)) (bvs' : List Value) (kb' : Nat) (BB' : List (Int × List UInt8)) (svs' : List Value) (ks' : Nat) (S' : List (Int × Int)) (add : List (Addr × Obj)) (h' : Heap) (tk' : Nat) (m' : Str → Option Value),
    Fr h₀ L h' m' → News h₀ L h' ((dx, dictOf [⟨g1, .str (Str.ofString "span") y1, .int sp y5⟩, ⟨g2, .str (Str.ofString "clock") y2, .int ck' y6'⟩, ⟨g3, .str (Str.ofString "heard") y3, .ref hd⟩, ⟨g4, .str (Str.ofString "given_up") y4, .bool gu'⟩] ng) :: (hd, oh') :: (ba, listOf bvs'.toArray kb') :: (sa, listOf svs'.toArray ks') :: (add ++ (rest ++ own))) →
    (∀ q ∈ add, (∀ p ∈ rest ++ own, p.1 ≠ q.1) ∧ q.1 ≠ dx ∧ q.1 ≠ hd ∧ q.1 ≠ ba ∧ q.1 ≠ sa) →
    0 ≤ ck' → ck' ≤ ck + 2 → oh'.IsDictOf (PySem.intKind PySem.Challenge.rw_rr0075_01.row.prog w) hkvs' → FlatPairs PyData.int hkvs' (kdfD H') → H'.length ≤ H.length + 1 → Heard H' S' →
    Trips (add ++ rest) bvs' BB' → BB'.length ≤ BB.length + 1 → (∀ q ∈ BB', 0 ≤ q.1 ∧ q.1 ≤ ck' ∧ q.2.length ≤ 100) → Tups (add ++ rest) svs' S' → S'.length ≤ S.length + 1 →
    (∀ p ∈ ([(Str.ofString "lease", .ref x), (Str.ofString "conf", .ref c), (Str.ofString "halves", .ref hv), (Str.ofString "story", .ref sa), (Str.ofString "nid", .int nid z1), (Str.ofString "span", .int sp z2), (Str.ofString "now", .int ck' z3'), (Str.ofString "over", .bool gu'), (Str.ofString "nums", .ref na), (Str.ofString "beats", .ref ba)] : List (Str × Value)), m' p.1 = some p.2) → QF .next { s with heap := h', toks := tk' }) :
  wpAny (model PySem.Challenge.rw_rr0075_01.row.prog w) (ktrTop dp un gd (Str.ofString "law") lawScope L fa cd0 [] outer) (execs lawLoop (envX (Str.ofString "law") lawScope L fa cd0 [])) QF E s := by
  have em := kst_self hps
  rw [← em] at F
  conv in lawLoop => whnf
  conv in lawScope => whnf
  (repeat' ((fail_if_success (with_reducible show wpAny _ _ (execs (Stmt.If _ _ _ _ :: _ :: _) _) _ _ _)); (first | (k_unfold; (try dsimp only)) | (k_end; kc_close) | walk1 | (dsimp only; walk1) | (leave1; (try dsimp only)) | fail "no step")))
  rename Fr _ _ _ _ => F8
  rename News _ _ _ _ => N8
  refine' chain_ok (ti := ti) (nid := nid) (z1 := z1) (z2 := z2) (z3 := z3) (nums := nums) (na := na) (nvs := nvs) hE B F8 X N8 T hdd hu n12 n13 n14 n23 n24 n34 o1 o2 o3 o4 ?ps9 hi0 hi1 hv1 hv2 hx hhlo hdoh hhf hHl hc hcd hl hi hlen hns hl2 hi2 hlen2 hhv hla hia hna hin hnl hnl2 hS hSl hH hB hBl hBB hnext
  (repeat' first | exact List.forall_mem_nil _ | (refine List.forall_mem_cons.mpr (And.intro (by with_unfolding_all exact rfl) ?_)))
end

end

-- P11
theorem offP11 : True := by w_top off; trivial
section

section
variable {w : World} {mean : ExcName → Option Value} {mg mb : Str → Option Value} {dp un : Nat} {gd : Option (List Code)} {cn : Str} {cs : Scope} {a : Addr} {ccd : Value} {cl : List (Str × Addr)} {outer : List Env} {A₀ : Around} {base h₀ : Heap} {L : Addr} {m : Str → Option Value} {s : Shared} {Q E : Value → Shared → Prop} {news : List (Addr × Obj)}
end
section
variable {prog : Program} {w : World} {A : Around} {E : Value → Shared → Prop} {s : Shared} {h₀ : Heap} {env : Env} {x : Str} {body : List Stmt} {Q : Flow → Shared → Prop}
theorem range_inv {r : Addr} {a₀ b₀ : Int} {t₀ u₀ v₀ : Tok} {n : Nat} {m₀ : Str → Option Value} {news : List (Addr × Obj)} (J : Nat → (Str → Option Value) → List (Addr × Obj) → Prop)
    (hh : A.handled = none) (hr : IsRange s.heap r a₀ b₀ 1 t₀ u₀ v₀) (hsmall : Builtin.Range.small a₀ b₀ 1 = true) (hsz : Builtin.Range.rangeSize a₀ b₀ 1 = (n : Int)) (F : Fr h₀ env.locals s.heap m₀) (N : News h₀ env.locals s.heap news) (hj : J 0 m₀ news)
    (turn : ∀ (i : Nat) t m₁ nx h tk own, i < n → OwnOff own (nx.map (·.1)) → J i m₁ nx → Fr h₀ env.locals h (fun y => if y = x then some (.int (a₀ + (i : Int)) t) else m₁ y) → News h₀ env.locals h (nx ++ own) →
      wpAny (model prog w) A (execs body env) (InvPostG h₀ env.locals (J (i + 1)) own { s with heap := h, toks := tk } Q) E { s with heap := h, toks := tk })
    (done : ∀ m₁ nx h tk, J n m₁ nx → Fr h₀ env.locals h m₁ → News h₀ env.locals h nx → Q .next { s with heap := h, toks := tk }) :
    wpAny (model prog w) A (pyIter (.ref r)) (fun it s₂ => LoopAtV prog w A h₀ env x body Q E it s₂) E s := by
  refine wpAny_pyIter_range hr hsmall ?_
  have W : Walks prog w A s.heap.objs.size [s.heap.objs.size] [s.heap.objs.size] n (fun i v => i < n ∧ ∃ t, v = .int (a₀ + i * 1) t)
      (fun i h => IsRangeIter h s.heap.objs.size (a₀ + (i : Nat) * 1) ((n : Int) - (i : Nat)) 1) := (Walks.range hh _ a₀ 1 n).bound
  refine kdr_loop J W (fun _ h => h) (fun _ h => h) ?_ ?_ ?_ ?_ (by show IsRangeIter _ _ _ _ _; rw [hsz]; simpa using Heap.get?_push_size _ rfl) (F.push _) (fun p hp => ⟨Heap.get?_push_of_some _ (N p hp).1, (N p hp).2⟩) hj ?_ ?_
  · intro i h hi b hb
    rw [List.mem_singleton.mp hb]
    exact ⟨_, hi⟩
  · intro hm
    exact absurd F.ns.lt ((List.mem_singleton.mp hm) ▸ Nat.lt_irrefl _)
  · intro b hb
    rw [List.mem_singleton.mp hb]
    exact next_is_new F
  · intro p hp hI
    exact absurd (Heap.lt_size (N p hp).1) ((List.mem_singleton.mp hI) ▸ Nat.lt_irrefl _)
  · rintro i v m₁ nx h tk own hi ⟨_, t, rfl⟩ hoff hJ F₁ N₁
    have e1 : a₀ + (i : Int) * 1 = a₀ + (i : Int) := by omega
    rw [e1] at F₁
    exact turn i t m₁ nx h tk own hi hoff hJ F₁ N₁
  · exact fun m₁ nx h tk hJ F₁ N₁ => done m₁ nx h tk hJ F₁ N₁
end
def LoopJ (w : World) (rest : List (Addr × Obj)) (x dx hd c hv sa ba na : Addr) (g1 g2 g3 g4 : Int) (y1 y2 y3 y4 y5 : Tok) (sp : Int) (ng : Nat) (nid : Int) (z1 z2 : Tok) (i : Nat) (m : Str → Option Value) (nx : List (Addr × Obj)) : Prop :=
  ∃ (ck : Int) (gu : Bool) (y6 z3 : Tok) (oh : Obj) (hkvs : List (Int × Value)) (H : List (Int × Int)) (bvs : List Value) (kb : Nat) (BB : List (Int × List UInt8)) (svs : List Value) (ks : Nat) (S : List (Int × Int)) (add : List (Addr × Obj)),
    nx = (dx, dictOf [⟨g1, .str (Str.ofString "span") y1, .int sp y5⟩, ⟨g2, .str (Str.ofString "clock") y2, .int ck y6⟩, ⟨g3, .str (Str.ofString "heard") y3, .ref hd⟩, ⟨g4, .str (Str.ofString "given_up") y4, .bool gu⟩] ng) :: (hd, oh) :: (ba, listOf bvs.toArray kb) :: (sa, listOf svs.toArray ks) :: (add ++ rest) ∧ 0 ≤ ck ∧ ck ≤ 2 * (i : Int) ∧ oh.IsDictOf (PySem.intKind PySem.Challenge.rw_rr0075_01.row.prog w) hkvs ∧ FlatPairs PyData.int hkvs (kdfD H) ∧ H.length ≤ i ∧ Heard H S ∧
    Trips (add ++ rest) bvs BB ∧ BB.length ≤ i ∧ (∀ q ∈ BB, 0 ≤ q.1 ∧ q.1 ≤ ck ∧ q.2.length ≤ 100) ∧ Tups (add ++ rest) svs S ∧ S.length ≤ i ∧
    (∀ p ∈ add ++ rest, p.1 ≠ dx ∧ p.1 ≠ hd ∧ p.1 ≠ ba ∧ p.1 ≠ sa) ∧ (∀ p ∈ ([(Str.ofString "lease", .ref x), (Str.ofString "conf", .ref c), (Str.ofString "halves", .ref hv), (Str.ofString "story", .ref sa), (Str.ofString "nid", .int nid z1), (Str.ofString "span", .int sp z2), (Str.ofString "now", .int ck z3), (Str.ofString "over", .bool gu), (Str.ofString "nums", .ref na), (Str.ofString "beats", .ref ba)] : List (Str × Value)), m p.1 = some p.2)
def lawFor : Stmt := lawBody.getD 14 (.Pass ⟨0, 0, 0, 0⟩)
section
variable {w : World} {mean : ExcName → Option Value} {mg mb : Str → Option Value} {dp un : Nat} {gd : Option (List Code)} {cn : Str} {cs : Scope} {a : Addr} {ccd : Value} {cl : List (Str × Addr)} {outer : List Env} {A₀ : Around} {base h₀ : Heap} {L : Addr} {m : Str → Option Value} {s : Shared} {Q E : Value → Shared → Prop} {news : List (Addr × Obj)}

local macro_rules | `(tactic| passes_own) => `(tactic| with_unfolding_all assumption)
set_option maxHeartbeats 8000000 in
theorem loop_ok {fa : Addr} {cd0 : Value} {QF : Flow → Shared → Prop} {rest : List (Addr × Obj)} {x dx hd c cd hv l l2 sa ba na : Addr} {g1 g2 g3 g4 : Int} {y1 y2 y3 y4 y5 y6 : Tok} {sp ck : Int} {gu : Bool} {ng : Nat} {k1 k2 k3 k4 k5 : Int} {u1 u2 u3 u4 u5 : Tok} {v3 v4 v5 : Value} {nc : Nat} {vs vs2 nvs : List Value} {ns ns2 nums : List Int} {nh nn nn2 ks kb nk : Nat} {nid : Int} {z1 z2 z3 : Tok} {oh : Obj} {hkvs : List (Int × Value)}
  {la lb : Addr} {vsa vsb : List Value} {nla nlb : Nat}
  (hE : PassesOwn (model PySem.Challenge.rw_rr0075_01.row.prog w) (ktrTop dp un gd (Str.ofString "law") lawScope L fa cd0 [] outer) (envX (Str.ofString "law") lawScope L fa cd0 []) E) (B : Below A₀ base outer h₀) (F : Fr h₀ L s.heap m) (X : (Mine.hd.heap_39 w.params).In h₀)
  (N : News h₀ L s.heap ((dx, dictOf [⟨g1, .str (Str.ofString "span") y1, .int sp y5⟩, ⟨g2, .str (Str.ofString "clock") y2, .int ck y6⟩, ⟨g3, .str (Str.ofString "heard") y3, .ref hd⟩, ⟨g4, .str (Str.ofString "given_up") y4, .bool gu⟩] ng) :: (hd, oh) :: (ba, listOf #[] kb) :: (sa, listOf #[] ks) :: rest)) (T : Top Mine.hd.view_39 (looseW Mine.hd.view_39 []) mean mg mb h₀) (hdd : dp + 20 < recursionLimit) (hu : un + 200 < cLine)
  (n12 : Ap dx hd) (n13 : Ap dx ba) (n14 : Ap dx sa) (n23 : Ap hd ba) (n24 : Ap hd sa) (n34 : Ap ba sa)
  (o1 : ∀ p ∈ rest, p.1 ≠ dx) (o2 : ∀ p ∈ rest, p.1 ≠ hd) (o3 : ∀ p ∈ rest, p.1 ≠ ba) (o4 : ∀ p ∈ rest, p.1 ≠ sa)
  (hps : ∀ p ∈ ([(Str.ofString "lease", .ref x), (Str.ofString "conf", .ref c), (Str.ofString "halves", .ref hv), (Str.ofString "story", .ref sa), (Str.ofString "nid", .int nid z1), (Str.ofString "span", .int sp z2), (Str.ofString "now", .int ck z3), (Str.ofString "over", .bool gu), (Str.ofString "nums", .ref na), (Str.ofString "beats", .ref ba)] : List (Str × Value)), m p.1 = some p.2)
  (hck : ck = 0)
  (hx : (x, instObj 291 dx) ∈ rest) (hhlo : (hd == sysModules) = false) (hdoh : oh.IsDictOf (PySem.intKind PySem.Challenge.rw_rr0075_01.row.prog w) hkvs) (hhf : FlatPairs PyData.int hkvs (kdfD []))
  (hc : (c, instObj 235 cd) ∈ rest) (hcd : (cd, dictOf [⟨k1, .str (Str.ofString "voters") u1, .ref l⟩, ⟨k2, .str (Str.ofString "outgoing") u2, .ref l2⟩, ⟨k3, .str (Str.ofString "learners") u3, v3⟩, ⟨k4, .str (Str.ofString "learners_next") u4, v4⟩, ⟨k5, .str (Str.ofString "auto_leave") u5, v5⟩] nc) ∈ rest)
  (hl : (l, listOf vs.toArray nn) ∈ rest) (hi : IntsAre vs ns) (hlen : ns.length ≤ 8) (hns : ns ≠ [])
  (hl2 : (l2, listOf vs2.toArray nn2) ∈ rest) (hi2 : IntsAre vs2 ns2) (hlen2 : ns2.length ≤ 8)
  (hhv : ((hv, listOf #[.ref la] nh) ∈ rest ∧ ns2 = []) ∨ ((hv, listOf #[.ref la, .ref lb] nh) ∈ rest ∧ (lb, listOf vsb.toArray nlb) ∈ rest ∧ IntsAre vsb ns2 ∧ ns2 ≠ []))
  (hla : (la, listOf vsa.toArray nla) ∈ rest) (hia : IntsAre vsa ns)
  (hna : (na, listOf nvs.toArray nk) ∈ rest) (hin : IntsAre nvs nums) (hnl : 0 < nums.length) (hnl2 : nums.length ≤ 15)
  (hdone : ∀ (h' : Heap) (tk' : Nat) (m' : Str → Option Value), Fr h₀ L h' m' → QF .next { s with heap := h', toks := tk' }) :
  wpAny (model PySem.Challenge.rw_rr0075_01.row.prog w) (ktrTop dp un gd (Str.ofString "law") lawScope L fa cd0 [] outer) (exec lawFor (envX (Str.ofString "law") lawScope L fa cd0 [])) QF E s := by
  subst hck
  conv in lawFor => whnf
  conv in lawScope => whnf
  with_unfolding_all refine' For_invVF F ?ka1 ?ka2 ?_ ?ka3 ?ka4
  case ka1 => exact rfl
  case ka2 => exact rfl
  case ka3 => intro _; with_unfolding_all rfl
  case ka4 => exact hE
  (repeat' ((fail_if_success (with_reducible show wpAny _ _ (pyIter _) _ _ _)); (first | (k_unfold; (try dsimp only)) | (k_end; kc_close) | walk1 | (dsimp only; walk1) | (leave1; (try dsimp only)) | fail "no step")))
  rename Fr _ _ _ _ => F1
  rename News _ _ _ _ => N1
  rename IsRange _ _ _ _ _ _ _ _ => R1
  refine range_inv (n := 14) (LoopJ w rest x dx hd c hv sa ba na g1 g2 g3 g4 y1 y2 y3 y4 y5 sp ng nid z1 z2) rfl R1 (by decide) (by decide) F1 N1 ?h0 ?tn ?dn
  case h0 =>
    exact ⟨0, gu, y6, z3, oh, hkvs, [], [], _, [], [], _, [], [], rfl, Int.le_refl _, Int.le_refl _, hdoh, hhf, Nat.zero_le _, heard_nil, .nil, Nat.zero_le _, fun q hq => absurd hq List.not_mem_nil, .nil, Nat.zero_le _, fun p hp => ⟨o1 p hp, o2 p hp, o3 p hp, o4 p hp⟩, hps⟩
  case dn =>
    intro m₁ nx h tk _ F2 _
    exact hdone h tk m₁ F2
  case tn =>
    rintro i t m₁ nx h tk own hi14 hoff ⟨ck, gu, y6, z3, oh, hkvs, H, bvs, kb, BB, svs, ks, S, add, rfl, hck0, hck1, hdoh, hhf, hHl, hH, hB, hBl, hBB, hS, hSl, hne, hps⟩ F2 N2
    have lift : ∀ p, p ∈ rest → p ∈ add ++ rest := fun p hp => List.mem_append.mpr (.inr hp)
    have q1 : ∀ p ∈ own, p.1 ≠ dx := fun p hp => hoff p hp _ (.head _)
    have q2 : ∀ p ∈ own, p.1 ≠ hd := fun p hp => hoff p hp _ (.tail _ (.head _))
    have q3 : ∀ p ∈ own, p.1 ≠ ba := fun p hp => hoff p hp _ (.tail _ (.tail _ (.head _)))
    have q4 : ∀ p ∈ own, p.1 ≠ sa := fun p hp => hoff p hp _ (.tail _ (.tail _ (.tail _ (.head _))))
    have q5 : ∀ p ∈ own, ∀ q ∈ add ++ rest, p.1 ≠ q.1 := fun p hp q hq => hoff p hp _ (.tail _ (.tail _ (.tail _ (.tail _ (List.mem_map.mpr ⟨q, hq, rfl⟩)))))
    refine turn_ok (iv := 1 + (i : Int)) (BB := BB) hE B F2 X N2 T hdd hu n12 n13 n14 n23 n24 n34
      (fun p hp => (List.mem_append.mp hp).elim (fun hp => (hne p hp).1) (q1 p))
      (fun p hp => (List.mem_append.mp hp).elim (fun hp => (hne p hp).2.1) (q2 p))
      (fun p hp => (List.mem_append.mp hp).elim (fun hp => (hne p hp).2.2.1) (q3 p))
      (fun p hp => (List.mem_append.mp hp).elim (fun hp => (hne p hp).2.2.2) (q4 p))
      hps hck0 (by omega) (by omega) (by omega) (lift _ hx) hhlo hdoh hhf (by omega) (lift _ hc) (lift _ hcd) (lift _ hl) hi hlen hns (lift _ hl2) hi2 hlen2
      (hhv.imp (fun hh => ⟨lift _ hh.1, hh.2⟩) fun hh => ⟨lift _ hh.1, lift _ hh.2.1, hh.2.2⟩) (lift _ hla) hia (lift _ hna) hin hnl hnl2 hS (by omega) hH hB (by omega) hBB ?_
    intro ck' gu' y6' z3' oh' hkvs' H' bvs' kb' BB' svs' ks' S' add' h' tk' m' F' N' hadd hk0 hk1 hd' hf' hHl' hH' hB' hBl' hBB' hS' hSl' hps'
    rw [← List.append_assoc] at hB' hS'
    refine InvEndG.intro (nx := (dx, dictOf [⟨g1, .str (Str.ofString "span") y1, .int sp y5⟩, ⟨g2, .str (Str.ofString "clock") y2, .int ck' y6'⟩, ⟨g3, .str (Str.ofString "heard") y3, .ref hd⟩, ⟨g4, .str (Str.ofString "given_up") y4, .bool gu'⟩] ng) :: (hd, oh') :: (ba, listOf bvs'.toArray kb') :: (sa, listOf svs'.toArray ks') :: ((add' ++ add) ++ rest)) F' N' ⟨ck', gu', y6', z3', oh', hkvs', H', bvs', kb', BB', svs', ks', S', add' ++ add, rfl, hk0, by omega, hd', hf', by omega, hH', hB', by omega, hBB', hS', by omega, ?_, hps'⟩ ?_ ?_ ?_
    · intro p hp
      rw [List.append_assoc] at hp
      rcases List.mem_append.mp hp with hp | hp
      · exact (hadd p hp).2
      · exact hne p hp
    · intro p hp b hb
      rcases List.mem_cons.mp hb with rfl | hb
      · exact q1 p hp
      rcases List.mem_cons.mp hb with rfl | hb
      · exact q2 p hp
      rcases List.mem_cons.mp hb with rfl | hb
      · exact q3 p hp
      rcases List.mem_cons.mp hb with rfl | hb
      · exact q4 p hp
      obtain ⟨q, hq, rfl⟩ := List.mem_map.mp hb
      rw [List.append_assoc] at hq
      rcases List.mem_append.mp hq with hq | hq
      · exact (hadd q hq).1 p (List.mem_append.mpr (.inr hp))
      · exact q5 p hp q hq
    · intro p hp
      rcases List.mem_cons.mp hp with rfl | hp
      · exact .head _
      rcases List.mem_cons.mp hp with rfl | hp
      · exact .tail _ (.head _)
      rcases List.mem_cons.mp hp with rfl | hp
      · exact .tail _ (.tail _ (.head _))
      rcases List.mem_cons.mp hp with rfl | hp
      · exact .tail _ (.tail _ (.tail _ (.head _)))
      refine .tail _ (.tail _ (.tail _ (.tail _ ?_)))
      rw [List.append_assoc] at hp
      rcases List.mem_append.mp hp with hp | hp
      · exact List.mem_append.mpr (.inl hp)
      · exact List.mem_append.mpr (.inr (List.mem_append.mpr (.inl hp)))
    · intro p hp
      exact .tail _ (.tail _ (.tail _ (.tail _ (List.mem_append.mpr (.inr (List.mem_append.mpr (.inr hp)))))))
end

end

-- P7
theorem offP7 : True := by w_top off; trivial
section

section
variable {w : World} {mean : ExcName → Option Value} {mg mb : Str → Option Value} {dp un : Nat} {gd : Option (List Code)} {cn : Str} {cs : Scope} {a : Addr} {ccd : Value} {cl : List (Str × Addr)} {outer : List Env} {A₀ : Around} {base h₀ : Heap} {L : Addr} {m : Str → Option Value} {s : Shared} {Q E : Value → Shared → Prop} {news : List (Addr × Obj)}
theorem off1_of {D : Addr} : ∀ {l : List (Addr × Obj)}, (∀ p ∈ l, p.1 ≠ D) → LCg.Off1 D l
  | [], _ => trivial
  | _ :: _, h => ⟨h _ (.head _), off1_of fun p hp => h p (.tail _ hp)⟩
theorem ne_off1 {a D : Nat} {o : Obj} {l : List (Addr × Obj)} (h : LCg.Off1 D l) (hm : (a, o) ∈ l) : a ≠ D := off1_mem h _ hm
theorem ne_off1' {a D : Nat} {o : Obj} {l : List (Addr × Obj)} (h : LCg.Off1 D l) (hm : (a, o) ∈ l) : D ≠ a := (off1_mem h _ hm).symm
theorem lt_allLt {d : Nat} : ∀ {l : List (Addr × Obj)}, AllLt d l → ∀ p ∈ l, p.1 < d
  | [], _, _, hp => (nomatch hp)
  | _ :: _, h, p, hp => by
    rcases List.mem_cons.mp hp with rfl | hp
    · exact h.1
    · exact lt_allLt h.2 p hp
local macro_rules | `(tactic| walk_at "call ref") => `(tactic| (k_here; (with_reducible show wpAny _ _ (call (Value.ref 141) [Value.ref _]) _ _ _); k_dflt (refine' rising_ok ?k1 ?k2 ?k3 ?k4 ?k5 ?k6 ?k7 ?k8 ?k9 ?k10 ?k11 ?k12 ?_; (case k1 => k_asm); (case k2 => k_asm); (case k3 => k_asm); (case k4 => k_asm); (case k5 => k_asm); (case k6 => exact rfl); (case k7 => ktr_room); (case k8 => first | k_units | ktr_units | (have hcL9 := cLine_is; (try simp only [units_under_make, units_in1, units_deeper, Around.mark_units, units_caller] at *); (try dsimp only [ktrTop] at *); omega)); (case k9 => k_mem); (case k10 => first | assumption | exact IntsAre.nil); (case k11 => first | assumption | decide); (case k12 => first | assumption | exact List.Pairwise.nil)); intro D9 ws9 k9 h9 tk9 F9 N9 e9 I9; (try k_lt e9)))
local macro_rules | `(tactic| walk_at "call ref") => `(tactic| (k_here; k_dflt (refine' call_cls ?k1 ?k2 ?k3 ?k4 ?k5 ?k6 ?_; (case k1 => k_asm); (case k2 => k_asm); (case k3 => k_asm); (case k4 => k_is); (case k5 => k_is); (case k6 => k_is); k_whole; intro x' d' h' F' N' l1 l2; (try k_lt l1); (try k_lt2 l2); cell_enter)))
set_option maxHeartbeats 4000000 in
theorem config_ok (B : Below A₀ base outer h₀) (F : Fr h₀ L s.heap m) (X : (Mine.hd.heap_39 w.params).In h₀) (N : News h₀ L s.heap news) (T : Top Mine.hd.view_39 (looseW Mine.hd.view_39 []) mean mg mb h₀) (hk : cs.kind = .function) (hdd : dp + 12 < recursionLimit) (hu : un + 150 < cLine)
  {l l2 e1 e2 : Addr} {vs vs2 : List Value} {ns ns2 : List Int} {nn nn2 j1 j2 : Nat} {bf : Bool}
  (hl : (l, listOf vs.toArray nn) ∈ news) (hi : IntsAre vs ns) (hlen : ns.length ≤ 8) (hsrt : ns.Pairwise (· < ·))
  (hl2 : (l2, listOf vs2.toArray nn2) ∈ news) (hi2 : IntsAre vs2 ns2) (hlen2 : ns2.length ≤ 8) (hsrt2 : ns2.Pairwise (· < ·))
  (h3 : (e1, listOf #[] j1) ∈ news) (h4 : (e2, listOf #[] j2) ∈ news)
  (hret : ∀ (x d l l2 D3 D4 : Addr) (ws1 ws2 ws3 ws4 : List Value) (n1 n2 n3 n4 : Nat) (k1 k2 k3 k4 k5 : Int) (u1 u2 u3 u4 u5 : Tok) (v3 v4 v5 : Value) (nc : Nat) (h' : Heap) (tk' : Nat), Fr h₀ L h' m →
    News h₀ L h' ((D4, listOf ws4.toArray n4) :: (D3, listOf ws3.toArray n3) :: (l2, listOf ws2.toArray n2) :: (l, listOf ws1.toArray n1) :: (x, instObj 235 d) :: (d, dictOf [⟨k1, .str (Str.ofString "voters") u1, .ref l⟩, ⟨k2, .str (Str.ofString "outgoing") u2, .ref l2⟩, ⟨k3, .str (Str.ofString "learners") u3, v3⟩, ⟨k4, .str (Str.ofString "learners_next") u4, v4⟩, ⟨k5, .str (Str.ofString "auto_leave") u5, v5⟩] nc) :: news) → IntsAre ws1 ns → IntsAre ws2 ns2 → Q (.ref x) { s with heap := h', toks := tk' }) :
  wpAny (model PySem.Challenge.rw_rr0075_01.row.prog w) (ktrTop dp un gd cn cs L a ccd cl outer) (call (.ref 235) [.ref l, .ref l2, .ref e1, .ref e2, .bool bf]) Q E s := by
  (repeat' ((first | (k_unfold; (try dsimp only)) | (k_end; kc_close) | walk1 | (dsimp only; walk1) | (leave1; (try dsimp only)) | fail "no step")))
  exact hret _ _ _ _ _ _ _ _ _ _ _ _ _ _ _ _ _ _ _ _ _ _ _ _ _ _ _ _ _ _ (by assumption) (by assumption) (by assumption) (by assumption)
set_option maxHeartbeats 4000000 in
theorem lease_ok (B : Below A₀ base outer h₀) (F : Fr h₀ L s.heap m) (X : (Mine.hd.heap_39 w.params).In h₀) (N : News h₀ L s.heap news) (T : Top Mine.hd.view_39 (looseW Mine.hd.view_39 []) mean mg mb h₀) (hk : cs.kind = .function) (hdd : dp + 12 < recursionLimit) (hu : un + 150 < cLine) {sp : Int} {t0 : Tok}
  (hret : ∀ (x dx hd : Addr) (oh : Obj) (hkvs : List (Int × Value)) (g1 g2 g3 g4 : Int) (y1 y2 y3 y4 y5 y6 : Tok) (ng : Nat) (h' : Heap) (tk' : Nat), Fr h₀ L h' m →
    News h₀ L h' ((hd, oh) :: (x, instObj 291 dx) :: (dx, dictOf [⟨g1, .str (Str.ofString "span") y1, .int sp y5⟩, ⟨g2, .str (Str.ofString "clock") y2, .int 0 y6⟩, ⟨g3, .str (Str.ofString "heard") y3, .ref hd⟩, ⟨g4, .str (Str.ofString "given_up") y4, .bool false⟩] ng) :: news) →
    (hd == sysModules) = false → oh.IsDictOf (PySem.intKind PySem.Challenge.rw_rr0075_01.row.prog w) hkvs → FlatPairs PyData.int hkvs (kdfD []) →
    (∀ p ∈ news, p.1 < dx) → dx < x → x < hd → dx < hd → (∀ p ∈ news, p.1 < hd) → Q (.ref x) { s with heap := h', toks := tk' }) :
  wpAny (model PySem.Challenge.rw_rr0075_01.row.prog w) (ktrTop dp un gd cn cs L a ccd cl outer) (call (.ref 291) [.int sp t0]) Q E s := by
  (repeat' ((first | (k_unfold; (try dsimp only)) | (k_end; kc_close) | walk1 | (dsimp only; walk1) | (leave1; (try dsimp only)) | fail "no step")))
  rename (∀ (p : Addr × Obj), p ∈ news → p.fst < _) => a1
  rename (_ ∧ _ ∧ AllLt _ news) => a3
  obtain ⟨b1, b2, b3⟩ := a3
  exact hret _ _ _ _ [] _ _ _ _ _ _ _ _ _ _ _ _ _ (by assumption) (by assumption) (by assumption) (by assumption) (by assumption) a1 (by assumption) b1 b2 (lt_allLt b3)
end

end

-- P12
theorem offP12 : True := by w_top off; trivial
section

section
variable {w : World} {mean : ExcName → Option Value} {mg mb : Str → Option Value} {dp un : Nat} {gd : Option (List Code)} {cn : Str} {cs : Scope} {a : Addr} {ccd : Value} {cl : List (Str × Addr)} {outer : List Env} {A₀ : Around} {base h₀ : Heap} {L : Addr} {m : Str → Option Value} {s : Shared} {Q E : Value → Shared → Prop} {news : List (Addr × Obj)}
theorem ids_lo (x : Int) : 1 ≤ 1 + x.fmod 15 := by have := fmod_lo x (n := 15) (by decide); omega
theorem ids_hi (x : Int) : 1 + x.fmod 15 ≤ 15 := by have := fmod_hi x (n := 15) (by decide); omega
local macro_rules | `(tactic| k_ne) => `(tactic| ((refine neN ?_); (try dsimp only); first | exact ne_off1 (by assumption) (by k_mem) | exact ne_off1' (by assumption) (by k_mem)))
local macro_rules | `(tactic| walk_at "call ref") => `(tactic| (k_here; (with_reducible show wpAny _ _ (call (Value.ref 307) [Value.int _ _]) _ _ _); k_dflt (refine' ids_ok ?k1 ?k2 ?k3 ?k4 ?k5 ?k6 ?k7 ?k8 ?k9 ?k10 ?_; (case k1 => k_asm); (case k2 => k_asm); (case k3 => k_asm); (case k4 => k_asm); (case k5 => k_asm); (case k6 => exact rfl); (case k7 => ktr_room); (case k8 => first | k_units | ktr_units); (case k9 => exact ids_lo _); (case k10 => exact ids_hi _)); intro l9 vs9 nn9 h9 tk9 F9 N9 e9 I9; (replace e9 := off1_of e9)))
local macro_rules | `(tactic| walk_at "call builtin:list.append") => `(tactic| (k_here; (with_reducible show wpAny _ _ (call (Value.builtin "list.append") [Value.ref _, _]) _ _ _); k_dflt (refine' append_upd ?F ?N ?U ?z ?_; (case F => k_asm); (case N => k_asm); (case U => k_updF); (case z => first | assumption | decide | (simp; done))); intro h' k' F' N'; (try dsimp only [List.cons_append, List.nil_append] at N'); (try dsimp only)))
local macro_rules | `(tactic| walk_at "call ref") => `(tactic| (k_here; (with_reducible show wpAny _ _ (call (Value.ref 235) [Value.ref _, Value.ref _, Value.ref _, Value.ref _, Value.bool _]) _ _ _); k_dflt (refine' config_ok ?k1 ?k2 ?k3 ?k4 ?k5 ?k6 ?k7 ?k8 ?k9 ?k10 ?k11 ?k12 ?k13 ?k14 ?k15 ?k16 ?k17 ?k18 ?_; (case k1 => k_asm); (case k2 => k_asm); (case k3 => k_asm); (case k4 => k_asm); (case k5 => k_asm); (case k6 => exact rfl); (case k7 => ktr_room); (case k8 => first | k_units | ktr_units); (case k9 => k_mem); (case k10 => first | assumption | exact IntsAre.nil); (case k11 => first | assumption | exact Nat.le_trans (idsF_len _) (by decide) | decide); (case k12 => first | assumption | exact idsF_sorted _ | exact List.Pairwise.nil); (case k13 => k_mem); (case k14 => first | assumption | exact IntsAre.nil); (case k15 => first | assumption | exact Nat.le_trans (idsF_len _) (by decide) | decide); (case k16 => first | assumption | exact idsF_sorted _ | exact List.Pairwise.nil); (case k17 => k_mem); (case k18 => k_mem)); intro x9 d9 l9 m9 D3 D4 ws1 ws2 ws3 ws4 n1 n2 n3 n4 k1 k2 k3 k4 k5 u1 u2 u3 u4 u5 v3 v4 v5 nc h9 tk9 F9 N9 I9 J9))
local macro_rules | `(tactic| walk_at "call ref") => `(tactic| (k_here; (with_reducible show wpAny _ _ (call (Value.ref 291) [Value.int _ _]) _ _ _); k_dflt (refine' lease_ok ?k1 ?k2 ?k3 ?k4 ?k5 ?k6 ?k7 ?k8 ?_; (case k1 => k_asm); (case k2 => k_asm); (case k3 => k_asm); (case k4 => k_asm); (case k5 => k_asm); (case k6 => exact rfl); (case k7 => ktr_room); (case k8 => first | k_units | ktr_units)); intro x9 dx9 hd9 oh9 hk9 g1 g2 g3 g4 y1 y2 y3 y4 y5 y6 ng h9 tk9 F9 N9 lo9 id9 fl9 l1 l2 l3 l4 l5; (try k_lt l1); (try k_lt l5)))
theorem lst_mem {D : Addr} {ys : List Value} {l : List (Addr × Obj)} (h : (D, LCg.lst ys) ∈ l) : (D, listOf ys.toArray ys.length) ∈ l := h
theorem news_pick {h₀ h : Heap} {L : Addr} {a b c d e : Addr × Obj} {r : List (Addr × Obj)} (N : News h₀ L h (a :: b :: c :: d :: e :: r)) : News h₀ L h (e :: c :: b :: a :: d :: r) := fun p hp => by
  rcases List.mem_cons.mp hp with rfl | hp
  · exact N _ (.tail _ (.tail _ (.tail _ (.tail _ (.head _)))))
  rcases List.mem_cons.mp hp with rfl | hp
  · exact N _ (.tail _ (.tail _ (.head _)))
  rcases List.mem_cons.mp hp with rfl | hp
  · exact N _ (.tail _ (.head _))
  rcases List.mem_cons.mp hp with rfl | hp
  · exact N _ (.head _)
  rcases List.mem_cons.mp hp with rfl | hp
  · exact N _ (.tail _ (.tail _ (.tail _ (.head _))))
  exact N _ (.tail _ (.tail _ (.tail _ (.tail _ (.tail _ hp)))))
set_option maxHeartbeats 8000000 in
theorem LL : PySem.Challenge.rw_rr0075_01.Holds := (by
  w_on
  refine holds_law hsaid fun said => ?_
  refine holds_open (q := hd.view_39) (loose := []) (Xt := hXt) (XP := XL hd.view_39 []) (Yf := Hook.obs (kHook hd.heap_39 has has_eq)) (Ya := Hook.val (kHook hd.heap_39 has has_eq)) (YP := Hook.says (kHook hd.heap_39 has has_eq)) (N := 12 + (1 + (2000 + (1000 + 1000)))) hleft (Hook.of (kHook hd.heap_39 has has_eq)) (Hook.keeps (kHook hd.heap_39 has has_eq)) (fun s e => xl_of s (Bool.and_eq_true_iff.mp e).1) XL.keeps (by rfl) (by rfl) (by rfl) (fun s e => recFacts_of (Bool.and_eq_true_iff.mp e).2) (by rfl) (by first | assumption | decide +kernel) (by decide +kernel) ⟨rfl, rfl, rfl, rfl, rfl, by decide +kernel⟩ ?hw ?hc
  case hw => w_witness2
  clear said
  k_go0
  all_goals (try k_fold)
  (repeat' ((fail_if_success (with_reducible show wpAny _ _ (exec (Stmt.For _ _ _ _ _) _) _ _ _)); (first | (k_unfold; (try dsimp only)) | (k_end; kc_close) | walk1 | (dsimp only; walk1) | (leave1; (try dsimp only)) | fail "no step")))
  · repeat ((with_reducible rename _ ∧ _ => c9); obtain ⟨c8, c7⟩ := c9)
    rename Fr _ _ _ _ => F1
    rename News _ _ _ _ => N1
    k_dflt (refine' loop_ok ?aA ?bA F1 ?cA (news_pick N1) ?dA ?eA ?fA ?g1A ?g2A ?g3A ?g4A ?g5A ?g6A ?h1A ?h2A ?h3A ?h4A ?iA rfl ?jA ?kA ?lA ?mA ?nA ?oA ?pA ?qA ?rA ?sA ?tA ?uA ?vA ?wA ?xA ?yA ?zA ?aaA ?abA ?acA ?adA)
    case bA => k_asm
    case cA => k_asm
    case dA => k_asm
    case eA => ktr_room
    case fA => first | k_units | ktr_units
    case g1A => (unfold Ap; (refine neN ?_; (try dsimp only); with_reducible first | exact Nat.ne_of_lt (by assumption) | exact Nat.ne_of_gt (by assumption) | exact ne_off1 (by assumption) (by k_mem) | exact ne_off1' (by assumption) (by k_mem) | fail "ne: not at hand"))
    case g2A => (unfold Ap; (refine neN ?_; (try dsimp only); with_reducible first | exact Nat.ne_of_lt (by assumption) | exact Nat.ne_of_gt (by assumption) | exact ne_off1 (by assumption) (by k_mem) | exact ne_off1' (by assumption) (by k_mem) | fail "ne: not at hand"))
    case g3A => (unfold Ap; (refine neN ?_; (try dsimp only); with_reducible first | exact Nat.ne_of_lt (by assumption) | exact Nat.ne_of_gt (by assumption) | exact ne_off1 (by assumption) (by k_mem) | exact ne_off1' (by assumption) (by k_mem) | fail "ne: not at hand"))
    case g4A => (unfold Ap; (refine neN ?_; (try dsimp only); with_reducible first | exact Nat.ne_of_lt (by assumption) | exact Nat.ne_of_gt (by assumption) | exact ne_off1 (by assumption) (by k_mem) | exact ne_off1' (by assumption) (by k_mem) | fail "ne: not at hand"))
    case g5A => (unfold Ap; (refine neN ?_; (try dsimp only); with_reducible first | exact Nat.ne_of_lt (by assumption) | exact Nat.ne_of_gt (by assumption) | exact ne_off1 (by assumption) (by k_mem) | exact ne_off1' (by assumption) (by k_mem) | fail "ne: not at hand"))
    case g6A => (unfold Ap; (refine neN ?_; (try dsimp only); with_reducible first | exact Nat.ne_of_lt (by assumption) | exact Nat.ne_of_gt (by assumption) | exact ne_off1 (by assumption) (by k_mem) | exact ne_off1' (by assumption) (by k_mem) | fail "ne: not at hand"))
    case h1A => (repeat' first | exact List.forall_mem_nil _ | (refine List.forall_mem_cons.mpr (And.intro (by (refine neN ?_; (try dsimp only); with_reducible first | exact Nat.ne_of_lt (by assumption) | exact Nat.ne_of_gt (by assumption) | exact ne_off1 (by assumption) (by k_mem) | exact ne_off1' (by assumption) (by k_mem) | fail "ne: not at hand")) ?_)))
    case h2A => (repeat' first | exact List.forall_mem_nil _ | (refine List.forall_mem_cons.mpr (And.intro (by (refine neN ?_; (try dsimp only); with_reducible first | exact Nat.ne_of_lt (by assumption) | exact Nat.ne_of_gt (by assumption) | exact ne_off1 (by assumption) (by k_mem) | exact ne_off1' (by assumption) (by k_mem) | fail "ne: not at hand")) ?_)))
    case h3A => (repeat' first | exact List.forall_mem_nil _ | (refine List.forall_mem_cons.mpr (And.intro (by (refine neN ?_; (try dsimp only); with_reducible first | exact Nat.ne_of_lt (by assumption) | exact Nat.ne_of_gt (by assumption) | exact ne_off1 (by assumption) (by k_mem) | exact ne_off1' (by assumption) (by k_mem) | fail "ne: not at hand")) ?_)))
    case h4A => (repeat' first | exact List.forall_mem_nil _ | (refine List.forall_mem_cons.mpr (And.intro (by (refine neN ?_; (try dsimp only); with_reducible first | exact Nat.ne_of_lt (by assumption) | exact Nat.ne_of_gt (by assumption) | exact ne_off1 (by assumption) (by k_mem) | exact ne_off1' (by assumption) (by k_mem) | fail "ne: not at hand")) ?_)))
    case iA => (repeat' first | exact List.forall_mem_nil _ | (refine List.forall_mem_cons.mpr (And.intro (by with_unfolding_all exact rfl) ?_)))
    case jA => k_mem
    case kA => assumption
    case lA => assumption
    case mA => assumption
    case nA => k_mem
    case oA => k_mem
    case pA => k_mem
    case qA => assumption
    case rA => first | exact Nat.le_trans (idsF_len _) (by decide) | decide
    case sA => exact idsF_ne (ids_lo _) (ids_hi _)
    case tA => k_mem
    case uA => assumption
    case vA => first | exact Nat.le_trans (idsF_len _) (by decide) | decide
    case wA => first | exact .inl ⟨by k_mem, rfl⟩ | exact .inr ⟨by k_mem, by k_mem, by assumption, idsF_ne (ids_lo _) (ids_hi _)⟩
    case xA => k_mem
    case yA => assumption
    case zA => first | k_mem | exact lst_mem (by k_mem)
    case aaA => first | assumption | exact IntsAre.cons _ _ IntsAre.nil
    case abA => first | decide | omega
    case acA => first | decide | (simp only [List.length_map, List.length_take]; omega)
    case aA => with_unfolding_all passes_own
    case adA =>
      intro h8 tk8 m8 F8
      (repeat' ((first | (k_unfold; (try dsimp only)) | (k_end; kc_close) | walk1 | (dsimp only; walk1) | (leave1; (try dsimp only)) | fail "no step")))
    all_goals first | exact ([] : List Value) | exact (0 : Nat)
  · repeat ((with_reducible rename _ ∧ _ => c9); obtain ⟨c8, c7⟩ := c9)
    rename Fr _ _ _ _ => F1
    rename News _ _ _ _ => N1
    k_dflt (refine' loop_ok ?aB ?bB F1 ?cB (news_pick N1) ?dB ?eB ?fB ?g1B ?g2B ?g3B ?g4B ?g5B ?g6B ?h1B ?h2B ?h3B ?h4B ?iB rfl ?jB ?kB ?lB ?mB ?nB ?oB ?pB ?qB ?rB ?sB ?tB ?uB ?vB ?wB ?xB ?yB ?zB ?aaB ?abB ?acB ?adB)
    case bB => k_asm
    case cB => k_asm
    case dB => k_asm
    case eB => ktr_room
    case fB => first | k_units | ktr_units
    case g1B => (unfold Ap; (refine neN ?_; (try dsimp only); with_reducible first | exact Nat.ne_of_lt (by assumption) | exact Nat.ne_of_gt (by assumption) | exact ne_off1 (by assumption) (by k_mem) | exact ne_off1' (by assumption) (by k_mem) | fail "ne: not at hand"))
    case g2B => (unfold Ap; (refine neN ?_; (try dsimp only); with_reducible first | exact Nat.ne_of_lt (by assumption) | exact Nat.ne_of_gt (by assumption) | exact ne_off1 (by assumption) (by k_mem) | exact ne_off1' (by assumption) (by k_mem) | fail "ne: not at hand"))
    case g3B => (unfold Ap; (refine neN ?_; (try dsimp only); with_reducible first | exact Nat.ne_of_lt (by assumption) | exact Nat.ne_of_gt (by assumption) | exact ne_off1 (by assumption) (by k_mem) | exact ne_off1' (by assumption) (by k_mem) | fail "ne: not at hand"))
    case g4B => (unfold Ap; (refine neN ?_; (try dsimp only); with_reducible first | exact Nat.ne_of_lt (by assumption) | exact Nat.ne_of_gt (by assumption) | exact ne_off1 (by assumption) (by k_mem) | exact ne_off1' (by assumption) (by k_mem) | fail "ne: not at hand"))
    case g5B => (unfold Ap; (refine neN ?_; (try dsimp only); with_reducible first | exact Nat.ne_of_lt (by assumption) | exact Nat.ne_of_gt (by assumption) | exact ne_off1 (by assumption) (by k_mem) | exact ne_off1' (by assumption) (by k_mem) | fail "ne: not at hand"))
    case g6B => (unfold Ap; (refine neN ?_; (try dsimp only); with_reducible first | exact Nat.ne_of_lt (by assumption) | exact Nat.ne_of_gt (by assumption) | exact ne_off1 (by assumption) (by k_mem) | exact ne_off1' (by assumption) (by k_mem) | fail "ne: not at hand"))
    case h1B => (repeat' first | exact List.forall_mem_nil _ | (refine List.forall_mem_cons.mpr (And.intro (by (refine neN ?_; (try dsimp only); with_reducible first | exact Nat.ne_of_lt (by assumption) | exact Nat.ne_of_gt (by assumption) | exact ne_off1 (by assumption) (by k_mem) | exact ne_off1' (by assumption) (by k_mem) | fail "ne: not at hand")) ?_)))
    case h2B => (repeat' first | exact List.forall_mem_nil _ | (refine List.forall_mem_cons.mpr (And.intro (by (refine neN ?_; (try dsimp only); with_reducible first | exact Nat.ne_of_lt (by assumption) | exact Nat.ne_of_gt (by assumption) | exact ne_off1 (by assumption) (by k_mem) | exact ne_off1' (by assumption) (by k_mem) | fail "ne: not at hand")) ?_)))
    case h3B => (repeat' first | exact List.forall_mem_nil _ | (refine List.forall_mem_cons.mpr (And.intro (by (refine neN ?_; (try dsimp only); with_reducible first | exact Nat.ne_of_lt (by assumption) | exact Nat.ne_of_gt (by assumption) | exact ne_off1 (by assumption) (by k_mem) | exact ne_off1' (by assumption) (by k_mem) | fail "ne: not at hand")) ?_)))
    case h4B => (repeat' first | exact List.forall_mem_nil _ | (refine List.forall_mem_cons.mpr (And.intro (by (refine neN ?_; (try dsimp only); with_reducible first | exact Nat.ne_of_lt (by assumption) | exact Nat.ne_of_gt (by assumption) | exact ne_off1 (by assumption) (by k_mem) | exact ne_off1' (by assumption) (by k_mem) | fail "ne: not at hand")) ?_)))
    case iB => (repeat' first | exact List.forall_mem_nil _ | (refine List.forall_mem_cons.mpr (And.intro (by with_unfolding_all exact rfl) ?_)))
    case jB => k_mem
    case kB => assumption
    case lB => assumption
    case mB => assumption
    case nB => k_mem
    case oB => k_mem
    case pB => k_mem
    case qB => assumption
    case rB => first | exact Nat.le_trans (idsF_len _) (by decide) | decide
    case sB => exact idsF_ne (ids_lo _) (ids_hi _)
    case tB => k_mem
    case uB => assumption
    case vB => first | exact Nat.le_trans (idsF_len _) (by decide) | decide
    case wB => first | exact .inl ⟨by k_mem, rfl⟩ | exact .inr ⟨by k_mem, by k_mem, by assumption, idsF_ne (ids_lo _) (ids_hi _)⟩
    case xB => k_mem
    case yB => assumption
    case zB => first | k_mem | exact lst_mem (by k_mem)
    case aaB => first | assumption | exact IntsAre.cons _ _ IntsAre.nil
    case abB => first | decide | omega
    case acB => first | decide | (simp only [List.length_map, List.length_take]; omega)
    case aB => with_unfolding_all passes_own
    case adB =>
      intro h8 tk8 m8 F8
      (repeat' ((first | (k_unfold; (try dsimp only)) | (k_end; kc_close) | walk1 | (dsimp only; walk1) | (leave1; (try dsimp only)) | fail "no step")))
    all_goals first | exact ([] : List Value) | exact (0 : Nat)
  · repeat ((with_reducible rename _ ∧ _ => c9); obtain ⟨c8, c7⟩ := c9)
    rename Fr _ _ _ _ => F1
    rename News _ _ _ _ => N1
    k_dflt (refine' loop_ok ?aC ?bC F1 ?cC (news_pick N1) ?dC ?eC ?fC ?g1C ?g2C ?g3C ?g4C ?g5C ?g6C ?h1C ?h2C ?h3C ?h4C ?iC rfl ?jC ?kC ?lC ?mC ?nC ?oC ?pC ?qC ?rC ?sC ?tC ?uC ?vC ?wC ?xC ?yC ?zC ?aaC ?abC ?acC ?adC)
    case bC => k_asm
    case cC => k_asm
    case dC => k_asm
    case eC => ktr_room
    case fC => first | k_units | ktr_units
    case g1C => (unfold Ap; (refine neN ?_; (try dsimp only); with_reducible first | exact Nat.ne_of_lt (by assumption) | exact Nat.ne_of_gt (by assumption) | exact ne_off1 (by assumption) (by k_mem) | exact ne_off1' (by assumption) (by k_mem) | fail "ne: not at hand"))
    case g2C => (unfold Ap; (refine neN ?_; (try dsimp only); with_reducible first | exact Nat.ne_of_lt (by assumption) | exact Nat.ne_of_gt (by assumption) | exact ne_off1 (by assumption) (by k_mem) | exact ne_off1' (by assumption) (by k_mem) | fail "ne: not at hand"))
    case g3C => (unfold Ap; (refine neN ?_; (try dsimp only); with_reducible first | exact Nat.ne_of_lt (by assumption) | exact Nat.ne_of_gt (by assumption) | exact ne_off1 (by assumption) (by k_mem) | exact ne_off1' (by assumption) (by k_mem) | fail "ne: not at hand"))
    case g4C => (unfold Ap; (refine neN ?_; (try dsimp only); with_reducible first | exact Nat.ne_of_lt (by assumption) | exact Nat.ne_of_gt (by assumption) | exact ne_off1 (by assumption) (by k_mem) | exact ne_off1' (by assumption) (by k_mem) | fail "ne: not at hand"))
    case g5C => (unfold Ap; (refine neN ?_; (try dsimp only); with_reducible first | exact Nat.ne_of_lt (by assumption) | exact Nat.ne_of_gt (by assumption) | exact ne_off1 (by assumption) (by k_mem) | exact ne_off1' (by assumption) (by k_mem) | fail "ne: not at hand"))
    case g6C => (unfold Ap; (refine neN ?_; (try dsimp only); with_reducible first | exact Nat.ne_of_lt (by assumption) | exact Nat.ne_of_gt (by assumption) | exact ne_off1 (by assumption) (by k_mem) | exact ne_off1' (by assumption) (by k_mem) | fail "ne: not at hand"))
    case h1C => (repeat' first | exact List.forall_mem_nil _ | (refine List.forall_mem_cons.mpr (And.intro (by (refine neN ?_; (try dsimp only); with_reducible first | exact Nat.ne_of_lt (by assumption) | exact Nat.ne_of_gt (by assumption) | exact ne_off1 (by assumption) (by k_mem) | exact ne_off1' (by assumption) (by k_mem) | fail "ne: not at hand")) ?_)))
    case h2C => (repeat' first | exact List.forall_mem_nil _ | (refine List.forall_mem_cons.mpr (And.intro (by (refine neN ?_; (try dsimp only); with_reducible first | exact Nat.ne_of_lt (by assumption) | exact Nat.ne_of_gt (by assumption) | exact ne_off1 (by assumption) (by k_mem) | exact ne_off1' (by assumption) (by k_mem) | fail "ne: not at hand")) ?_)))
    case h3C => (repeat' first | exact List.forall_mem_nil _ | (refine List.forall_mem_cons.mpr (And.intro (by (refine neN ?_; (try dsimp only); with_reducible first | exact Nat.ne_of_lt (by assumption) | exact Nat.ne_of_gt (by assumption) | exact ne_off1 (by assumption) (by k_mem) | exact ne_off1' (by assumption) (by k_mem) | fail "ne: not at hand")) ?_)))
    case h4C => (repeat' first | exact List.forall_mem_nil _ | (refine List.forall_mem_cons.mpr (And.intro (by (refine neN ?_; (try dsimp only); with_reducible first | exact Nat.ne_of_lt (by assumption) | exact Nat.ne_of_gt (by assumption) | exact ne_off1 (by assumption) (by k_mem) | exact ne_off1' (by assumption) (by k_mem) | fail "ne: not at hand")) ?_)))
    case iC => (repeat' first | exact List.forall_mem_nil _ | (refine List.forall_mem_cons.mpr (And.intro (by with_unfolding_all exact rfl) ?_)))
    case jC => k_mem
    case kC => assumption
    case lC => assumption
    case mC => assumption
    case nC => k_mem
    case oC => k_mem
    case pC => k_mem
    case qC => assumption
    case rC => first | exact Nat.le_trans (idsF_len _) (by decide) | decide
    case sC => exact idsF_ne (ids_lo _) (ids_hi _)
    case tC => k_mem
    case uC => assumption
    case vC => first | exact Nat.le_trans (idsF_len _) (by decide) | decide
    case wC => first | exact .inl ⟨by k_mem, rfl⟩ | exact .inr ⟨by k_mem, by k_mem, by assumption, idsF_ne (ids_lo _) (ids_hi _)⟩
    case xC => k_mem
    case yC => assumption
    case zC => first | k_mem | exact lst_mem (by k_mem)
    case aaC => first | assumption | exact IntsAre.cons _ _ IntsAre.nil
    case abC => first | decide | omega
    case acC => first | decide | (simp only [List.length_map, List.length_take]; omega)
    case aC => with_unfolding_all passes_own
    case adC =>
      intro h8 tk8 m8 F8
      (repeat' ((first | (k_unfold; (try dsimp only)) | (k_end; kc_close) | walk1 | (dsimp only; walk1) | (leave1; (try dsimp only)) | fail "no step")))
    all_goals first | exact ([] : List Value) | exact (0 : Nat))
end

end
end Mine
theorem PySem.Challenge.cw_rr0075_01_holds : PySem.Challenge.rw_rr0075_01.Holds :=
  Mine.LL
