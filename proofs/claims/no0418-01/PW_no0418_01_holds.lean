import PyProof.Rows.All
import Wide.All
import OpenK.AllK
import Wide.FinOn
import PySem.Challenge.RW_no0418_01
open PySem PySem.W PyProof.Rows PySem.Calls
set_option Elab.async false
set_option maxRecDepth 100000
set_option maxHeartbeats 8000000
set_option compiler.extract_closed false
local macro_rules | `(tactic| walk_at "o") => `(tactic| first | lia | omega)
namespace Mine
/-- a written value of the text: x, as it comes out -/
@[reducible] noncomputable def gl {α : Type} (x : α) {y : α} (_ : x = y) : α := y
noncomputable def stT (i : Nat) : Stmt := PySem.Challenge.pw_no0418_01.main.body.getD i (.Pass default)
noncomputable def stM (i j : Nat) : Stmt := match stT i with
  | .ClassDef _ _ _ b _ _ _ _ _ _ _ => b.getD j (.Pass default)
  | s => s
noncomputable def fParams : Stmt → Arguments
  | .FunctionDef _ a _ _ _ _ _ _ _ _ => a
  | _ => default
noncomputable def fBody : Stmt → List Stmt
  | .FunctionDef _ _ b _ _ _ _ _ _ _ => b
  | _ => []
noncomputable def fScope : Stmt → Scope
  | .FunctionDef _ _ _ _ _ _ s _ _ _ => s
  | _ => default
@[reducible] noncomputable def fnE (name qual : Str) (params : Arguments) (body : List Stmt) (scope : Scope) (pm cd : Value) : Obj :=
  { cls := .type "function", data := .func { name, qualname := qual, params, body := .stmts body, scope, globals := 3, closure := [], defaults := .none, kwdefaults := .none, pyModule := pm, code := cd } }
/-- the two are one, kept as data: x's form is laid in y, and nothing beside -/
inductive Is {α : Type} : α → α → Type
  | refl (x : α) : Is x x
@[reducible] noncomputable def fnF (name qual : Str) {s : Stmt} {n : Str} {a : Arguments} {b : List Stmt} {d e f g j k l} (_ : Is s (.FunctionDef n a b d e f g j k l)) (pm cd : Value) : Obj := fnE name qual a b g pm cd
end Mine
local macro_rules | `(tactic| walk_at "lit") => `(tactic| (conv => lhs; whnf))
open Mine
namespace hd
noncomputable def heap_39 : Params → Frag := fun P =>
  (nat_lit 2, { cls := Value.none, data := Data.dict #[{ hash := PyData.keyHash P (Str.ofString "type.__subclasses__.Exception.0"), key := Value.str (Str.ofString "type.__subclasses__.Exception.0") 212, val := Value.int 31 0 }, { hash := PyData.keyHash P (Str.ofString "type.__subclasses__.Exception.n"), key := Value.str (Str.ofString "type.__subclasses__.Exception.n") 213, val := Value.int 1 0 }] 2 }) ::
  (nat_lit 3, { cls := Value.type "dict", data := Data.dict #[{ hash := PyData.keyHash P (Str.ofString "__name__"), key := Value.str (Str.ofString "__name__") 165, val := Value.str (Str.ofString "law_no0418_01") 911 }, { hash := PyData.keyHash P (Str.ofString "__doc__"), key := Value.str (Str.ofString "__doc__") 166, val := Value.none }, { hash := PyData.keyHash P (Str.ofString "__package__"), key := Value.str (Str.ofString "__package__") 167, val := Value.none }, { hash := PyData.keyHash P (Str.ofString "__loader__"), key := Value.str (Str.ofString "__loader__") 168, val := Value.builtin "__main__.__loader__#opaque" }, { hash := PyData.keyHash P (Str.ofString "__spec__"), key := Value.str (Str.ofString "__spec__") 169, val := Value.none }, { hash := PyData.keyHash P (Str.ofString "__annotations__"), key := Value.str (Str.ofString "__annotations__") 170, val := Value.ref 6 }, { hash := PyData.keyHash P (Str.ofString "__builtins__"), key := Value.str (Str.ofString "__builtins__") 171, val := Value.ref 4 }, { hash := PyData.keyHash P (Str.ofString "__file__"), key := Value.str (Str.ofString "__file__") 173, val := Value.str (Str.ofString "/claim/cut.py") 172 }, { hash := PyData.keyHash P (Str.ofString "__cached__"), key := Value.str (Str.ofString "__cached__") 174, val := Value.none }, { hash := PyData.keyHash P (Str.ofString "_wall"), key := Value.str (Str.ofString "_wall") 193, val := Value.ref 21 }, { hash := PyData.keyHash P (Str.ofString "KeepError"), key := Value.str (Str.ofString "KeepError") 215, val := Value.ref 31 }, { hash := PyData.keyHash P (Str.ofString "StoreError"), key := Value.str (Str.ofString "StoreError") 231, val := Value.ref 44 }, { hash := PyData.keyHash P (Str.ofString "Corrupt"), key := Value.str (Str.ofString "Corrupt") 247, val := Value.ref 56 }, { hash := PyData.keyHash P (Str.ofString "ShortOctets"), key := Value.str (Str.ofString "ShortOctets") 263, val := Value.ref 68 }, { hash := PyData.keyHash P (Str.ofString "BadOption"), key := Value.str (Str.ofString "BadOption") 279, val := Value.ref 80 }, { hash := PyData.keyHash P (Str.ofString "IterMisuse"), key := Value.str (Str.ofString "IterMisuse") 295, val := Value.ref 92 }, { hash := PyData.keyHash P (Str.ofString "MAX_32"), key := Value.str (Str.ofString "MAX_32") 299, val := Value.int 4294967295 298 }, { hash := PyData.keyHash P (Str.ofString "MAX_64"), key := Value.str (Str.ofString "MAX_64") 301, val := Value.int 18446744073709551615 300 }, { hash := PyData.keyHash P (Str.ofString "write_groups"), key := Value.str (Str.ofString "write_groups") 310, val := Value.ref 101 }, { hash := PyData.keyHash P (Str.ofString "put_varint"), key := Value.str (Str.ofString "put_varint") 317, val := Value.ref 108 }, { hash := PyData.keyHash P (Str.ofString "put_fixed32"), key := Value.str (Str.ofString "put_fixed32") 324, val := Value.ref 115 }, { hash := PyData.keyHash P (Str.ofString "put_fixed64"), key := Value.str (Str.ofString "put_fixed64") 331, val := Value.ref 122 }, { hash := PyData.keyHash P (Str.ofString "read_fixed32"), key := Value.str (Str.ofString "read_fixed32") 339, val := Value.ref 129 }, { hash := PyData.keyHash P (Str.ofString "read_fixed64"), key := Value.str (Str.ofString "read_fixed64") 347, val := Value.ref 136 }, { hash := PyData.keyHash P (Str.ofString "KIND_DELETE"), key := Value.str (Str.ofString "KIND_DELETE") 351, val := Value.int 0 350 }, { hash := PyData.keyHash P (Str.ofString "KIND_VALUE"), key := Value.str (Str.ofString "KIND_VALUE") 353, val := Value.int 1 352 }, { hash := PyData.keyHash P (Str.ofString "KIND_SEEK"), key := Value.str (Str.ofString "KIND_SEEK") 355, val := Value.int 1 354 }, { hash := PyData.keyHash P (Str.ofString "MAX_SEQ"), key := Value.str (Str.ofString "MAX_SEQ") 357, val := Value.int 72057594037927935 356 }, { hash := PyData.keyHash P (Str.ofString "TAG_LENGTH"), key := Value.str (Str.ofString "TAG_LENGTH") 359, val := Value.int 8 358 }, { hash := PyData.keyHash P (Str.ofString "pack_tag"), key := Value.str (Str.ofString "pack_tag") 367, val := Value.ref 143 }, { hash := PyData.keyHash P (Str.ofString "make_ikey"), key := Value.str (Str.ofString "make_ikey") 376, val := Value.ref 150 }, { hash := PyData.keyHash P (Str.ofString "split_ikey"), key := Value.str (Str.ofString "split_ikey") 386, val := Value.ref 157 }, { hash := PyData.keyHash P (Str.ofString "user_of"), key := Value.str (Str.ofString "user_of") 393, val := Value.ref 164 }, { hash := PyData.keyHash P (Str.ofString "tag_of"), key := Value.str (Str.ofString "tag_of") 400, val := Value.ref 171 }, { hash := PyData.keyHash P (Str.ofString "Order"), key := Value.str (Str.ofString "Order") 453, val := Value.ref 209 }, { hash := PyData.keyHash P (Str.ofString "BytesOrder"), key := Value.str (Str.ofString "BytesOrder") 493, val := Value.ref 244 }, { hash := PyData.keyHash P (Str.ofString "InternalOrder"), key := Value.str (Str.ofString "InternalOrder") 563, val := Value.ref 298 }, { hash := PyData.keyHash P (Str.ofString "ListIter"), key := Value.str (Str.ofString "ListIter") 680, val := Value.ref 394 }, { hash := PyData.keyHash P (Str.ofString "FileMeta"), key := Value.str (Str.ofString "FileMeta") 724, val := Value.ref 422 }, { hash := PyData.keyHash P (Str.ofString "find_file"), key := Value.str (Str.ofString "find_file") 736, val := Value.ref 433 }, { hash := PyData.keyHash P (Str.ofString "LevelFiles"), key := Value.str (Str.ofString "LevelFiles") 768, val := Value.ref 457 }, { hash := PyData.keyHash P (Str.ofString "Version"), key := Value.str (Str.ofString "Version") 910, val := Value.ref 539 }, { hash := PyData.keyHash P (Str.ofString "_law_users"), key := Value.str (Str.ofString "_law_users") 918, val := Value.ref 550 }, { hash := PyData.keyHash P (Str.ofString "_law_draw"), key := Value.str (Str.ofString "_law_draw") 926, val := Value.ref 557 }, { hash := PyData.keyHash P (Str.ofString "_law_ikey"), key := Value.str (Str.ofString "_law_ikey") 936, val := Value.ref 564 }, { hash := PyData.keyHash P (Str.ofString "_law_parts"), key := Value.str (Str.ofString "_law_parts") 947, val := Value.ref 571 }, { hash := PyData.keyHash P (Str.ofString "_law_cache"), key := Value.str (Str.ofString "_law_cache") 953, val := Value.ref 576 }, { hash := PyData.keyHash P (Str.ofString "_law_off"), key := Value.str (Str.ofString "_law_off") 962, val := Value.ref 583 }, { hash := PyData.keyHash P (Str.ofString "_law_walk"), key := Value.str (Str.ofString "_law_walk") 968, val := Value.ref 588 }, { hash := PyData.keyHash P (Str.ofString "law"), key := Value.str (Str.ofString "law") 974, val := Value.ref 593 }] 50 }) ::
  (nat_lit 30, { cls := Value.type "dict", data := Data.dict #[{ hash := PyData.keyHash P (Str.ofString "__module__"), key := Value.str (Str.ofString "__module__") 203, val := Value.str (Str.ofString "raftkeep.errors") 194 }, { hash := PyData.keyHash P (Str.ofString "__firstlineno__"), key := Value.str (Str.ofString "__firstlineno__") 207, val := Value.int 5 206 }, { hash := PyData.keyHash P (Str.ofString "__static_attributes__"), key := Value.str (Str.ofString "__static_attributes__") 208, val := Value.ref 29 }, { hash := PyData.keyHash P (Str.ofString "__weakref__"), key := Value.str (Str.ofString "__weakref__") 210, val := Value.ref 32 }, { hash := PyData.keyHash P (Str.ofString "__doc__"), key := Value.str (Str.ofString "__doc__") 211, val := Value.none }] 3 }) ::
  (nat_lit 31, { cls := Value.type "type", data := Data.cls { name := Str.ofString "KeepError", bases := [Value.type "Exception"], mro := [Value.ref 31, Value.type "Exception", Value.type "BaseException", Value.type "object"], ns := 30, qualname := Str.ofString "KeepError", subclasses := [Value.ref 44] }, slots := #[some (Value.ref 22), none, some (Value.str (Str.ofString "KeepError") 196), some (Value.str (Str.ofString "KeepError") 204), some (Value.builtin "Exception.__new__"), some (Value.bool true)] }) ::
  (nat_lit 32, { cls := Value.type "getset_descriptor", data := Data.fields #[Value.str (Str.ofString "__weakref__") 209, Value.ref 31, Value.builtin "ExceptionGroup.__weakref__", Value.none] }) ::
  (nat_lit 43, { cls := Value.type "dict", data := Data.dict #[{ hash := PyData.keyHash P (Str.ofString "__module__"), key := Value.str (Str.ofString "__module__") 223, val := Value.str (Str.ofString "raftkeep.errors") 194 }, { hash := PyData.keyHash P (Str.ofString "__firstlineno__"), key := Value.str (Str.ofString "__firstlineno__") 227, val := Value.int 7 226 }, { hash := PyData.keyHash P (Str.ofString "__static_attributes__"), key := Value.str (Str.ofString "__static_attributes__") 228, val := Value.ref 42 }, { hash := PyData.keyHash P (Str.ofString "__doc__"), key := Value.str (Str.ofString "__doc__") 229, val := Value.none }] 2 }) ::
  (nat_lit 44, { cls := Value.type "type", data := Data.cls { name := Str.ofString "StoreError", bases := [Value.ref 31], mro := [Value.ref 44, Value.ref 31, Value.type "Exception", Value.type "BaseException", Value.type "object"], ns := 43, qualname := Str.ofString "StoreError", subclasses := [Value.ref 56, Value.ref 80, Value.ref 92] }, slots := #[some (Value.ref 35), none, some (Value.str (Str.ofString "StoreError") 216), some (Value.str (Str.ofString "StoreError") 224), some (Value.builtin "Exception.__new__"), some (Value.bool true)] }) ::
  (nat_lit 55, { cls := Value.type "dict", data := Data.dict #[{ hash := PyData.keyHash P (Str.ofString "__module__"), key := Value.str (Str.ofString "__module__") 239, val := Value.str (Str.ofString "raftkeep.errors") 194 }, { hash := PyData.keyHash P (Str.ofString "__firstlineno__"), key := Value.str (Str.ofString "__firstlineno__") 243, val := Value.int 9 242 }, { hash := PyData.keyHash P (Str.ofString "__static_attributes__"), key := Value.str (Str.ofString "__static_attributes__") 244, val := Value.ref 54 }, { hash := PyData.keyHash P (Str.ofString "__doc__"), key := Value.str (Str.ofString "__doc__") 245, val := Value.none }] 2 }) ::
  (nat_lit 56, { cls := Value.type "type", data := Data.cls { name := Str.ofString "Corrupt", bases := [Value.ref 44], mro := [Value.ref 56, Value.ref 44, Value.ref 31, Value.type "Exception", Value.type "BaseException", Value.type "object"], ns := 55, qualname := Str.ofString "Corrupt", subclasses := [Value.ref 68] }, slots := #[some (Value.ref 47), none, some (Value.str (Str.ofString "Corrupt") 232), some (Value.str (Str.ofString "Corrupt") 240), some (Value.builtin "Exception.__new__"), some (Value.bool true)] }) ::
  (nat_lit 67, { cls := Value.type "dict", data := Data.dict #[{ hash := PyData.keyHash P (Str.ofString "__module__"), key := Value.str (Str.ofString "__module__") 255, val := Value.str (Str.ofString "raftkeep.errors") 194 }, { hash := PyData.keyHash P (Str.ofString "__firstlineno__"), key := Value.str (Str.ofString "__firstlineno__") 259, val := Value.int 11 258 }, { hash := PyData.keyHash P (Str.ofString "__static_attributes__"), key := Value.str (Str.ofString "__static_attributes__") 260, val := Value.ref 66 }, { hash := PyData.keyHash P (Str.ofString "__doc__"), key := Value.str (Str.ofString "__doc__") 261, val := Value.none }] 2 }) ::
  (nat_lit 68, { cls := Value.type "type", data := Data.cls { name := Str.ofString "ShortOctets", bases := [Value.ref 56], mro := [Value.ref 68, Value.ref 56, Value.ref 44, Value.ref 31, Value.type "Exception", Value.type "BaseException", Value.type "object"], ns := 67, qualname := Str.ofString "ShortOctets" }, slots := #[some (Value.ref 59), none, some (Value.str (Str.ofString "ShortOctets") 248), some (Value.str (Str.ofString "ShortOctets") 256), some (Value.builtin "Exception.__new__"), some (Value.bool true)] }) ::
  (nat_lit 79, { cls := Value.type "dict", data := Data.dict #[{ hash := PyData.keyHash P (Str.ofString "__module__"), key := Value.str (Str.ofString "__module__") 271, val := Value.str (Str.ofString "raftkeep.errors") 194 }, { hash := PyData.keyHash P (Str.ofString "__firstlineno__"), key := Value.str (Str.ofString "__firstlineno__") 275, val := Value.int 13 274 }, { hash := PyData.keyHash P (Str.ofString "__static_attributes__"), key := Value.str (Str.ofString "__static_attributes__") 276, val := Value.ref 78 }, { hash := PyData.keyHash P (Str.ofString "__doc__"), key := Value.str (Str.ofString "__doc__") 277, val := Value.none }] 2 }) ::
  (nat_lit 80, { cls := Value.type "type", data := Data.cls { name := Str.ofString "BadOption", bases := [Value.ref 44], mro := [Value.ref 80, Value.ref 44, Value.ref 31, Value.type "Exception", Value.type "BaseException", Value.type "object"], ns := 79, qualname := Str.ofString "BadOption" }, slots := #[some (Value.ref 71), none, some (Value.str (Str.ofString "BadOption") 264), some (Value.str (Str.ofString "BadOption") 272), some (Value.builtin "Exception.__new__"), some (Value.bool true)] }) ::
  (nat_lit 91, { cls := Value.type "dict", data := Data.dict #[{ hash := PyData.keyHash P (Str.ofString "__module__"), key := Value.str (Str.ofString "__module__") 287, val := Value.str (Str.ofString "raftkeep.errors") 194 }, { hash := PyData.keyHash P (Str.ofString "__firstlineno__"), key := Value.str (Str.ofString "__firstlineno__") 291, val := Value.int 15 290 }, { hash := PyData.keyHash P (Str.ofString "__static_attributes__"), key := Value.str (Str.ofString "__static_attributes__") 292, val := Value.ref 90 }, { hash := PyData.keyHash P (Str.ofString "__doc__"), key := Value.str (Str.ofString "__doc__") 293, val := Value.none }] 2 }) ::
  (nat_lit 92, { cls := Value.type "type", data := Data.cls { name := Str.ofString "IterMisuse", bases := [Value.ref 44], mro := [Value.ref 92, Value.ref 44, Value.ref 31, Value.type "Exception", Value.type "BaseException", Value.type "object"], ns := 91, qualname := Str.ofString "IterMisuse" }, slots := #[some (Value.ref 83), none, some (Value.str (Str.ofString "IterMisuse") 280), some (Value.str (Str.ofString "IterMisuse") 288), some (Value.builtin "Exception.__new__"), some (Value.bool true)] }) ::
  (nat_lit 107, { cls := Value.type "code", data := Data.fields #[Value.str (Str.ofString "put_varint") 311, Value.str (Str.ofString "put_varint") 312, Value.str (Str.ofString "/claim/cut.py") 313, Value.int 29 0, Value.int 1 0, Value.int 0 0, Value.int 0 0, Value.int 3 0, Value.ref 102, Value.bool true, Value.int 181 0, Value.ref 103, Value.none, Value.ref 104, Value.ref 105, Value.ref 106, Value.int 315 0, Value.int 29 0, Value.str (Str.ofString "/claim/cut.py") 316] }) ::
  (nat_lit 108, fnF "put_varint" "put_varint" (.refl (stT 12)) (Value.str (Str.ofString "raftkeep.octets") 296) (Value.ref 107)) ::
  (nat_lit 114, { cls := Value.type "code", data := Data.fields #[Value.str (Str.ofString "put_fixed32") 318, Value.str (Str.ofString "put_fixed32") 319, Value.str (Str.ofString "/claim/cut.py") 320, Value.int 33 0, Value.int 1 0, Value.int 0 0, Value.int 0 0, Value.int 3 0, Value.ref 109, Value.bool true, Value.int 181 0, Value.ref 110, Value.none, Value.ref 111, Value.ref 112, Value.ref 113, Value.int 322 0, Value.int 33 0, Value.str (Str.ofString "/claim/cut.py") 323] }) ::
  (nat_lit 115, fnF "put_fixed32" "put_fixed32" (.refl (stT 13)) (Value.str (Str.ofString "raftkeep.octets") 296) (Value.ref 114)) ::
  (nat_lit 121, { cls := Value.type "code", data := Data.fields #[Value.str (Str.ofString "put_fixed64") 325, Value.str (Str.ofString "put_fixed64") 326, Value.str (Str.ofString "/claim/cut.py") 327, Value.int 37 0, Value.int 1 0, Value.int 0 0, Value.int 0 0, Value.int 3 0, Value.ref 116, Value.bool true, Value.int 181 0, Value.ref 117, Value.none, Value.ref 118, Value.ref 119, Value.ref 120, Value.int 329 0, Value.int 37 0, Value.str (Str.ofString "/claim/cut.py") 330] }) ::
  (nat_lit 122, fnF "put_fixed64" "put_fixed64" (.refl (stT 14)) (Value.str (Str.ofString "raftkeep.octets") 296) (Value.ref 121)) ::
  (nat_lit 128, { cls := Value.type "code", data := Data.fields #[Value.str (Str.ofString "read_fixed32") 332, Value.str (Str.ofString "read_fixed32") 333, Value.str (Str.ofString "/claim/cut.py") 334, Value.int 41 0, Value.int 2 0, Value.int 0 0, Value.int 0 0, Value.int 3 0, Value.ref 123, Value.bool true, Value.int 181 0, Value.ref 124, Value.none, Value.ref 125, Value.ref 126, Value.ref 127, Value.int 337 0, Value.int 41 0, Value.str (Str.ofString "/claim/cut.py") 338] }) ::
  (nat_lit 129, fnF "read_fixed32" "read_fixed32" (.refl (stT 15)) (Value.str (Str.ofString "raftkeep.octets") 296) (Value.ref 128)) ::
  (nat_lit 135, { cls := Value.type "code", data := Data.fields #[Value.str (Str.ofString "read_fixed64") 340, Value.str (Str.ofString "read_fixed64") 341, Value.str (Str.ofString "/claim/cut.py") 342, Value.int 45 0, Value.int 2 0, Value.int 0 0, Value.int 0 0, Value.int 3 0, Value.ref 130, Value.bool true, Value.int 181 0, Value.ref 131, Value.none, Value.ref 132, Value.ref 133, Value.ref 134, Value.int 345 0, Value.int 45 0, Value.str (Str.ofString "/claim/cut.py") 346] }) ::
  (nat_lit 136, fnF "read_fixed64" "read_fixed64" (.refl (stT 16)) (Value.str (Str.ofString "raftkeep.octets") 296) (Value.ref 135)) ::
  (nat_lit 142, { cls := Value.type "code", data := Data.fields #[Value.str (Str.ofString "pack_tag") 360, Value.str (Str.ofString "pack_tag") 361, Value.str (Str.ofString "/claim/cut.py") 362, Value.int 55 0, Value.int 2 0, Value.int 0 0, Value.int 0 0, Value.int 3 0, Value.ref 137, Value.bool true, Value.int 181 0, Value.ref 138, Value.none, Value.ref 139, Value.ref 140, Value.ref 141, Value.int 365 0, Value.int 55 0, Value.str (Str.ofString "/claim/cut.py") 366] }) ::
  (nat_lit 143, fnF "pack_tag" "pack_tag" (.refl (stT 23)) (Value.str (Str.ofString "raftkeep.keys") 348) (Value.ref 142)) ::
  (nat_lit 149, { cls := Value.type "code", data := Data.fields #[Value.str (Str.ofString "make_ikey") 368, Value.str (Str.ofString "make_ikey") 369, Value.str (Str.ofString "/claim/cut.py") 370, Value.int 61 0, Value.int 3 0, Value.int 0 0, Value.int 0 0, Value.int 3 0, Value.ref 144, Value.bool true, Value.int 181 0, Value.ref 145, Value.none, Value.ref 146, Value.ref 147, Value.ref 148, Value.int 374 0, Value.int 61 0, Value.str (Str.ofString "/claim/cut.py") 375] }) ::
  (nat_lit 150, fnF "make_ikey" "make_ikey" (.refl (stT 24)) (Value.str (Str.ofString "raftkeep.keys") 348) (Value.ref 149)) ::
  (nat_lit 156, { cls := Value.type "code", data := Data.fields #[Value.str (Str.ofString "split_ikey") 377, Value.str (Str.ofString "split_ikey") 378, Value.str (Str.ofString "/claim/cut.py") 379, Value.int 63 0, Value.int 1 0, Value.int 0 0, Value.int 0 0, Value.int 3 0, Value.ref 151, Value.bool true, Value.int 181 0, Value.ref 152, Value.none, Value.ref 153, Value.ref 154, Value.ref 155, Value.int 384 0, Value.int 63 0, Value.str (Str.ofString "/claim/cut.py") 385] }) ::
  (nat_lit 157, fnF "split_ikey" "split_ikey" (.refl (stT 25)) (Value.str (Str.ofString "raftkeep.keys") 348) (Value.ref 156)) ::
  (nat_lit 163, { cls := Value.type "code", data := Data.fields #[Value.str (Str.ofString "user_of") 387, Value.str (Str.ofString "user_of") 388, Value.str (Str.ofString "/claim/cut.py") 389, Value.int 70 0, Value.int 1 0, Value.int 0 0, Value.int 0 0, Value.int 3 0, Value.ref 158, Value.bool true, Value.int 181 0, Value.ref 159, Value.none, Value.ref 160, Value.ref 161, Value.ref 162, Value.int 391 0, Value.int 70 0, Value.str (Str.ofString "/claim/cut.py") 392] }) ::
  (nat_lit 164, fnF "user_of" "user_of" (.refl (stT 26)) (Value.str (Str.ofString "raftkeep.keys") 348) (Value.ref 163)) ::
  (nat_lit 170, { cls := Value.type "code", data := Data.fields #[Value.str (Str.ofString "tag_of") 394, Value.str (Str.ofString "tag_of") 395, Value.str (Str.ofString "/claim/cut.py") 396, Value.int 74 0, Value.int 1 0, Value.int 0 0, Value.int 0 0, Value.int 3 0, Value.ref 165, Value.bool true, Value.int 181 0, Value.ref 166, Value.none, Value.ref 167, Value.ref 168, Value.ref 169, Value.int 398 0, Value.int 74 0, Value.str (Str.ofString "/claim/cut.py") 399] }) ::
  (nat_lit 171, fnF "tag_of" "tag_of" (.refl (stT 27)) (Value.str (Str.ofString "raftkeep.keys") 348) (Value.ref 170)) ::
  (nat_lit 184, { cls := Value.type "code", data := Data.fields #[Value.str (Str.ofString "compare") 413, Value.str (Str.ofString "Order.compare") 414, Value.str (Str.ofString "/claim/cut.py") 415, Value.int 80 0, Value.int 3 0, Value.int 0 0, Value.int 0 0, Value.int 3 0, Value.ref 179, Value.bool true, Value.int 181 0, Value.ref 180, Value.none, Value.ref 181, Value.ref 182, Value.ref 183, Value.int 419 0, Value.int 80 0, Value.str (Str.ofString "/claim/cut.py") 420] }) ::
  (nat_lit 185, fnF "compare" "Order.compare" (.refl (stM 28 0)) (Value.str (Str.ofString "raftkeep.keys") 348) (Value.ref 184)) ::
  (nat_lit 208, { cls := Value.type "dict", data := Data.dict #[{ hash := PyData.keyHash P (Str.ofString "__module__"), key := Value.str (Str.ofString "__module__") 408, val := Value.str (Str.ofString "raftkeep.keys") 348 }, { hash := PyData.keyHash P (Str.ofString "__firstlineno__"), key := Value.str (Str.ofString "__firstlineno__") 412, val := Value.int 78 411 }, { hash := PyData.keyHash P (Str.ofString "compare"), key := Value.str (Str.ofString "compare") 421, val := Value.ref 185 }, { hash := PyData.keyHash P (Str.ofString "separator"), key := Value.str (Str.ofString "separator") 430, val := Value.ref 192 }, { hash := PyData.keyHash P (Str.ofString "successor"), key := Value.str (Str.ofString "successor") 438, val := Value.ref 199 }, { hash := PyData.keyHash P (Str.ofString "name"), key := Value.str (Str.ofString "name") 445, val := Value.ref 206 }, { hash := PyData.keyHash P (Str.ofString "__static_attributes__"), key := Value.str (Str.ofString "__static_attributes__") 446, val := Value.ref 207 }, { hash := PyData.keyHash P (Str.ofString "__dict__"), key := Value.str (Str.ofString "__dict__") 448, val := Value.ref 210 }, { hash := PyData.keyHash P (Str.ofString "__weakref__"), key := Value.str (Str.ofString "__weakref__") 450, val := Value.ref 211 }, { hash := PyData.keyHash P (Str.ofString "__doc__"), key := Value.str (Str.ofString "__doc__") 451, val := Value.none }] 4 }) ::
  (nat_lit 209, { cls := Value.type "type", data := Data.cls { name := Str.ofString "Order", bases := [Value.type "object"], mro := [Value.ref 209, Value.type "object"], ns := 208, qualname := Str.ofString "Order", subclasses := [Value.ref 244, Value.ref 298] }, slots := #[none, none, some (Value.str (Str.ofString "Order") 401), some (Value.str (Str.ofString "Order") 409), some (Value.builtin "object.__new__"), some (Value.bool true)] }) ::
  (nat_lit 210, { cls := Value.type "getset_descriptor", data := Data.fields #[Value.str (Str.ofString "__dict__") 447, Value.ref 209, Value.builtin "function.__dict__", Value.builtin "function.__dict__#set"] }) ::
  (nat_lit 211, { cls := Value.type "getset_descriptor", data := Data.fields #[Value.str (Str.ofString "__weakref__") 449, Value.ref 209, Value.builtin "ExceptionGroup.__weakref__", Value.none] }) ::
  (nat_lit 243, { cls := Value.type "dict", data := Data.dict #[{ hash := PyData.keyHash P (Str.ofString "__module__"), key := Value.str (Str.ofString "__module__") 461, val := Value.str (Str.ofString "raftkeep.keys") 348 }, { hash := PyData.keyHash P (Str.ofString "__firstlineno__"), key := Value.str (Str.ofString "__firstlineno__") 465, val := Value.int 95 464 }, { hash := PyData.keyHash P (Str.ofString "separator"), key := Value.str (Str.ofString "separator") 474, val := Value.ref 227 }, { hash := PyData.keyHash P (Str.ofString "successor"), key := Value.str (Str.ofString "successor") 482, val := Value.ref 234 }, { hash := PyData.keyHash P (Str.ofString "name"), key := Value.str (Str.ofString "name") 489, val := Value.ref 241 }, { hash := PyData.keyHash P (Str.ofString "__static_attributes__"), key := Value.str (Str.ofString "__static_attributes__") 490, val := Value.ref 242 }, { hash := PyData.keyHash P (Str.ofString "__doc__"), key := Value.str (Str.ofString "__doc__") 491, val := Value.none }] 2 }) ::
  (nat_lit 244, { cls := Value.type "type", data := Data.cls { name := Str.ofString "BytesOrder", bases := [Value.ref 209], mro := [Value.ref 244, Value.ref 209, Value.type "object"], ns := 243, qualname := Str.ofString "BytesOrder" }, slots := #[some (Value.ref 214), none, some (Value.str (Str.ofString "BytesOrder") 454), some (Value.str (Str.ofString "BytesOrder") 462), some (Value.builtin "object.__new__"), some (Value.bool true)] }) ::
  (nat_lit 259, { cls := Value.type "code", data := Data.fields #[Value.str (Str.ofString "__init__") 506, Value.str (Str.ofString "InternalOrder.__init__") 507, Value.str (Str.ofString "/claim/cut.py") 508, Value.int 107 0, Value.int 1 0, Value.int 0 0, Value.int 0 0, Value.int 3 0, Value.ref 254, Value.bool true, Value.int 181 0, Value.ref 255, Value.none, Value.ref 256, Value.ref 257, Value.ref 258, Value.int 510 0, Value.int 107 0, Value.str (Str.ofString "/claim/cut.py") 511] }) ::
  (nat_lit 260, fnF "__init__" "InternalOrder.__init__" (.refl (stM 30 0)) (Value.str (Str.ofString "raftkeep.keys") 348) (Value.ref 259)) ::
  (nat_lit 266, { cls := Value.type "code", data := Data.fields #[Value.str (Str.ofString "compare") 513, Value.str (Str.ofString "InternalOrder.compare") 514, Value.str (Str.ofString "/claim/cut.py") 515, Value.int 110 0, Value.int 3 0, Value.int 0 0, Value.int 0 0, Value.int 3 0, Value.ref 261, Value.bool true, Value.int 181 0, Value.ref 262, Value.none, Value.ref 263, Value.ref 264, Value.ref 265, Value.int 522 0, Value.int 110 0, Value.str (Str.ofString "/claim/cut.py") 523] }) ::
  (nat_lit 267, fnF "compare" "InternalOrder.compare" (.refl (stM 30 1)) (Value.str (Str.ofString "raftkeep.keys") 348) (Value.ref 266)) ::
  (nat_lit 297, { cls := Value.type "dict", data := Data.dict #[{ hash := PyData.keyHash P (Str.ofString "__module__"), key := Value.str (Str.ofString "__module__") 501, val := Value.str (Str.ofString "raftkeep.keys") 348 }, { hash := PyData.keyHash P (Str.ofString "__firstlineno__"), key := Value.str (Str.ofString "__firstlineno__") 505, val := Value.int 105 504 }, { hash := PyData.keyHash P (Str.ofString "__init__"), key := Value.str (Str.ofString "__init__") 512, val := Value.ref 260 }, { hash := PyData.keyHash P (Str.ofString "compare"), key := Value.str (Str.ofString "compare") 524, val := Value.ref 267 }, { hash := PyData.keyHash P (Str.ofString "dress"), key := Value.str (Str.ofString "dress") 534, val := Value.ref 274 }, { hash := PyData.keyHash P (Str.ofString "separator"), key := Value.str (Str.ofString "separator") 543, val := Value.ref 281 }, { hash := PyData.keyHash P (Str.ofString "successor"), key := Value.str (Str.ofString "successor") 551, val := Value.ref 288 }, { hash := PyData.keyHash P (Str.ofString "name"), key := Value.str (Str.ofString "name") 558, val := Value.ref 295 }, { hash := PyData.keyHash P (Str.ofString "__static_attributes__"), key := Value.str (Str.ofString "__static_attributes__") 560, val := Value.ref 296 }, { hash := PyData.keyHash P (Str.ofString "__doc__"), key := Value.str (Str.ofString "__doc__") 561, val := Value.none }] 2 }) ::
  (nat_lit 298, { cls := Value.type "type", data := Data.cls { name := Str.ofString "InternalOrder", bases := [Value.ref 209], mro := [Value.ref 298, Value.ref 209, Value.type "object"], ns := 297, qualname := Str.ofString "InternalOrder" }, slots := #[some (Value.ref 247), none, some (Value.str (Str.ofString "InternalOrder") 494), some (Value.str (Str.ofString "InternalOrder") 502), some (Value.builtin "object.__new__"), some (Value.bool true)] }) ::
  (nat_lit 313, { cls := Value.type "code", data := Data.fields #[Value.str (Str.ofString "__init__") 578, Value.str (Str.ofString "ListIter.__init__") 579, Value.str (Str.ofString "/claim/cut.py") 580, Value.int 136 0, Value.int 3 0, Value.int 0 0, Value.int 0 0, Value.int 3 0, Value.ref 308, Value.bool true, Value.int 181 0, Value.ref 309, Value.none, Value.ref 310, Value.ref 311, Value.ref 312, Value.int 584 0, Value.int 136 0, Value.str (Str.ofString "/claim/cut.py") 585] }) ::
  (nat_lit 314, fnF "__init__" "ListIter.__init__" (.refl (stM 32 0)) (Value.str (Str.ofString "raftkeep.iters") 564) (Value.ref 313)) ::
  (nat_lit 320, { cls := Value.type "code", data := Data.fields #[Value.str (Str.ofString "key_at") 587, Value.str (Str.ofString "ListIter.key_at") 588, Value.str (Str.ofString "/claim/cut.py") 589, Value.int 141 0, Value.int 2 0, Value.int 0 0, Value.int 0 0, Value.int 3 0, Value.ref 315, Value.bool true, Value.int 181 0, Value.ref 316, Value.none, Value.ref 317, Value.ref 318, Value.ref 319, Value.int 592 0, Value.int 141 0, Value.str (Str.ofString "/claim/cut.py") 593] }) ::
  (nat_lit 321, fnF "key_at" "ListIter.key_at" (.refl (stM 32 1)) (Value.str (Str.ofString "raftkeep.iters") 564) (Value.ref 320)) ::
  (nat_lit 327, { cls := Value.type "code", data := Data.fields #[Value.str (Str.ofString "value_at") 595, Value.str (Str.ofString "ListIter.value_at") 596, Value.str (Str.ofString "/claim/cut.py") 597, Value.int 144 0, Value.int 2 0, Value.int 0 0, Value.int 0 0, Value.int 3 0, Value.ref 322, Value.bool true, Value.int 181 0, Value.ref 323, Value.none, Value.ref 324, Value.ref 325, Value.ref 326, Value.int 600 0, Value.int 144 0, Value.str (Str.ofString "/claim/cut.py") 601] }) ::
  (nat_lit 328, fnF "value_at" "ListIter.value_at" (.refl (stM 32 2)) (Value.str (Str.ofString "raftkeep.iters") 564) (Value.ref 327)) ::
  (nat_lit 334, { cls := Value.type "code", data := Data.fields #[Value.str (Str.ofString "valid") 603, Value.str (Str.ofString "ListIter.valid") 604, Value.str (Str.ofString "/claim/cut.py") 605, Value.int 147 0, Value.int 1 0, Value.int 0 0, Value.int 0 0, Value.int 3 0, Value.ref 329, Value.bool true, Value.int 181 0, Value.ref 330, Value.none, Value.ref 331, Value.ref 332, Value.ref 333, Value.int 607 0, Value.int 147 0, Value.str (Str.ofString "/claim/cut.py") 608] }) ::
  (nat_lit 335, fnF "valid" "ListIter.valid" (.refl (stM 32 3)) (Value.str (Str.ofString "raftkeep.iters") 564) (Value.ref 334)) ::
  (nat_lit 341, { cls := Value.type "code", data := Data.fields #[Value.str (Str.ofString "need") 610, Value.str (Str.ofString "ListIter.need") 611, Value.str (Str.ofString "/claim/cut.py") 612, Value.int 150 0, Value.int 1 0, Value.int 0 0, Value.int 0 0, Value.int 3 0, Value.ref 336, Value.bool true, Value.int 181 0, Value.ref 337, Value.none, Value.ref 338, Value.ref 339, Value.ref 340, Value.int 614 0, Value.int 150 0, Value.str (Str.ofString "/claim/cut.py") 615] }) ::
  (nat_lit 342, fnF "need" "ListIter.need" (.refl (stM 32 4)) (Value.str (Str.ofString "raftkeep.iters") 564) (Value.ref 341)) ::
  (nat_lit 362, { cls := Value.type "code", data := Data.fields #[Value.str (Str.ofString "seek") 631, Value.str (Str.ofString "ListIter.seek") 632, Value.str (Str.ofString "/claim/cut.py") 633, Value.int 160 0, Value.int 2 0, Value.int 0 0, Value.int 0 0, Value.int 3 0, Value.ref 357, Value.bool true, Value.int 181 0, Value.ref 358, Value.none, Value.ref 359, Value.ref 360, Value.ref 361, Value.int 639 0, Value.int 160 0, Value.str (Str.ofString "/claim/cut.py") 640] }) ::
  (nat_lit 363, fnF "seek" "ListIter.seek" (.refl (stM 32 7)) (Value.str (Str.ofString "raftkeep.iters") 564) (Value.ref 362)) ::
  (nat_lit 369, { cls := Value.type "code", data := Data.fields #[Value.str (Str.ofString "step") 642, Value.str (Str.ofString "ListIter.step") 643, Value.str (Str.ofString "/claim/cut.py") 644, Value.int 171 0, Value.int 1 0, Value.int 0 0, Value.int 0 0, Value.int 3 0, Value.ref 364, Value.bool true, Value.int 181 0, Value.ref 365, Value.none, Value.ref 366, Value.ref 367, Value.ref 368, Value.int 646 0, Value.int 171 0, Value.str (Str.ofString "/claim/cut.py") 647] }) ::
  (nat_lit 370, fnF "step" "ListIter.step" (.refl (stM 32 8)) (Value.str (Str.ofString "raftkeep.iters") 564) (Value.ref 369)) ::
  (nat_lit 376, { cls := Value.type "code", data := Data.fields #[Value.str (Str.ofString "back") 649, Value.str (Str.ofString "ListIter.back") 650, Value.str (Str.ofString "/claim/cut.py") 651, Value.int 175 0, Value.int 1 0, Value.int 0 0, Value.int 0 0, Value.int 3 0, Value.ref 371, Value.bool true, Value.int 181 0, Value.ref 372, Value.none, Value.ref 373, Value.ref 374, Value.ref 375, Value.int 653 0, Value.int 175 0, Value.str (Str.ofString "/claim/cut.py") 654] }) ::
  (nat_lit 377, fnF "back" "ListIter.back" (.refl (stM 32 9)) (Value.str (Str.ofString "raftkeep.iters") 564) (Value.ref 376)) ::
  (nat_lit 383, { cls := Value.type "code", data := Data.fields #[Value.str (Str.ofString "key") 656, Value.str (Str.ofString "ListIter.key") 657, Value.str (Str.ofString "/claim/cut.py") 658, Value.int 179 0, Value.int 1 0, Value.int 0 0, Value.int 0 0, Value.int 3 0, Value.ref 378, Value.bool true, Value.int 181 0, Value.ref 379, Value.none, Value.ref 380, Value.ref 381, Value.ref 382, Value.int 660 0, Value.int 179 0, Value.str (Str.ofString "/claim/cut.py") 661] }) ::
  (nat_lit 384, fnF "key" "ListIter.key" (.refl (stM 32 10)) (Value.str (Str.ofString "raftkeep.iters") 564) (Value.ref 383)) ::
  (nat_lit 390, { cls := Value.type "code", data := Data.fields #[Value.str (Str.ofString "value") 663, Value.str (Str.ofString "ListIter.value") 664, Value.str (Str.ofString "/claim/cut.py") 665, Value.int 183 0, Value.int 1 0, Value.int 0 0, Value.int 0 0, Value.int 3 0, Value.ref 385, Value.bool true, Value.int 181 0, Value.ref 386, Value.none, Value.ref 387, Value.ref 388, Value.ref 389, Value.int 667 0, Value.int 183 0, Value.str (Str.ofString "/claim/cut.py") 668] }) ::
  (nat_lit 391, fnF "value" "ListIter.value" (.refl (stM 32 11)) (Value.str (Str.ofString "raftkeep.iters") 564) (Value.ref 390)) ::
  (nat_lit 393, { cls := Value.type "dict", data := Data.dict #[{ hash := PyData.keyHash P (Str.ofString "__module__"), key := Value.str (Str.ofString "__module__") 573, val := Value.str (Str.ofString "raftkeep.iters") 564 }, { hash := PyData.keyHash P (Str.ofString "__firstlineno__"), key := Value.str (Str.ofString "__firstlineno__") 577, val := Value.int 134 576 }, { hash := PyData.keyHash P (Str.ofString "__init__"), key := Value.str (Str.ofString "__init__") 586, val := Value.ref 314 }, { hash := PyData.keyHash P (Str.ofString "key_at"), key := Value.str (Str.ofString "key_at") 594, val := Value.ref 321 }, { hash := PyData.keyHash P (Str.ofString "value_at"), key := Value.str (Str.ofString "value_at") 602, val := Value.ref 328 }, { hash := PyData.keyHash P (Str.ofString "valid"), key := Value.str (Str.ofString "valid") 609, val := Value.ref 335 }, { hash := PyData.keyHash P (Str.ofString "need"), key := Value.str (Str.ofString "need") 616, val := Value.ref 342 }, { hash := PyData.keyHash P (Str.ofString "seek_first"), key := Value.str (Str.ofString "seek_first") 623, val := Value.ref 349 }, { hash := PyData.keyHash P (Str.ofString "seek_last"), key := Value.str (Str.ofString "seek_last") 630, val := Value.ref 356 }, { hash := PyData.keyHash P (Str.ofString "seek"), key := Value.str (Str.ofString "seek") 641, val := Value.ref 363 }, { hash := PyData.keyHash P (Str.ofString "step"), key := Value.str (Str.ofString "step") 648, val := Value.ref 370 }, { hash := PyData.keyHash P (Str.ofString "back"), key := Value.str (Str.ofString "back") 655, val := Value.ref 377 }, { hash := PyData.keyHash P (Str.ofString "key"), key := Value.str (Str.ofString "key") 662, val := Value.ref 384 }, { hash := PyData.keyHash P (Str.ofString "value"), key := Value.str (Str.ofString "value") 669, val := Value.ref 391 }, { hash := PyData.keyHash P (Str.ofString "__static_attributes__"), key := Value.str (Str.ofString "__static_attributes__") 673, val := Value.ref 392 }, { hash := PyData.keyHash P (Str.ofString "__dict__"), key := Value.str (Str.ofString "__dict__") 675, val := Value.ref 395 }, { hash := PyData.keyHash P (Str.ofString "__weakref__"), key := Value.str (Str.ofString "__weakref__") 677, val := Value.ref 396 }, { hash := PyData.keyHash P (Str.ofString "__doc__"), key := Value.str (Str.ofString "__doc__") 678, val := Value.none }] 4 }) ::
  (nat_lit 394, { cls := Value.type "type", data := Data.cls { name := Str.ofString "ListIter", bases := [Value.type "object"], mro := [Value.ref 394, Value.type "object"], ns := 393, qualname := Str.ofString "ListIter", subclasses := [Value.ref 457] }, slots := #[none, none, some (Value.str (Str.ofString "ListIter") 566), some (Value.str (Str.ofString "ListIter") 574), some (Value.builtin "object.__new__"), some (Value.bool true)] }) ::
  (nat_lit 395, { cls := Value.type "getset_descriptor", data := Data.fields #[Value.str (Str.ofString "__dict__") 674, Value.ref 394, Value.builtin "function.__dict__", Value.builtin "function.__dict__#set"] }) ::
  (nat_lit 396, { cls := Value.type "getset_descriptor", data := Data.fields #[Value.str (Str.ofString "__weakref__") 676, Value.ref 394, Value.builtin "ExceptionGroup.__weakref__", Value.none] }) ::
  (nat_lit 411, { cls := Value.type "code", data := Data.fields #[Value.str (Str.ofString "__init__") 695, Value.str (Str.ofString "FileMeta.__init__") 696, Value.str (Str.ofString "/claim/cut.py") 697, Value.int 189 0, Value.int 5 0, Value.int 0 0, Value.int 0 0, Value.int 3 0, Value.ref 406, Value.bool true, Value.int 181 0, Value.ref 407, Value.none, Value.ref 408, Value.ref 409, Value.ref 410, Value.int 703 0, Value.int 189 0, Value.str (Str.ofString "/claim/cut.py") 704] }) ::
  (nat_lit 412, fnF "__init__" "FileMeta.__init__" (.refl (stM 34 0)) (Value.str (Str.ofString "raftkeep.versions") 681) (Value.ref 411)) ::
  (nat_lit 421, { cls := Value.type "dict", data := Data.dict #[{ hash := PyData.keyHash P (Str.ofString "__module__"), key := Value.str (Str.ofString "__module__") 690, val := Value.str (Str.ofString "raftkeep.versions") 681 }, { hash := PyData.keyHash P (Str.ofString "__firstlineno__"), key := Value.str (Str.ofString "__firstlineno__") 694, val := Value.int 187 693 }, { hash := PyData.keyHash P (Str.ofString "__init__"), key := Value.str (Str.ofString "__init__") 705, val := Value.ref 412 }, { hash := PyData.keyHash P (Str.ofString "row"), key := Value.str (Str.ofString "row") 712, val := Value.ref 419 }, { hash := PyData.keyHash P (Str.ofString "__static_attributes__"), key := Value.str (Str.ofString "__static_attributes__") 717, val := Value.ref 420 }, { hash := PyData.keyHash P (Str.ofString "__dict__"), key := Value.str (Str.ofString "__dict__") 719, val := Value.ref 423 }, { hash := PyData.keyHash P (Str.ofString "__weakref__"), key := Value.str (Str.ofString "__weakref__") 721, val := Value.ref 424 }, { hash := PyData.keyHash P (Str.ofString "__doc__"), key := Value.str (Str.ofString "__doc__") 722, val := Value.none }] 4 }) ::
  (nat_lit 422, { cls := Value.type "type", data := Data.cls { name := Str.ofString "FileMeta", bases := [Value.type "object"], mro := [Value.ref 422, Value.type "object"], ns := 421, qualname := Str.ofString "FileMeta" }, slots := #[none, none, some (Value.str (Str.ofString "FileMeta") 683), some (Value.str (Str.ofString "FileMeta") 691), some (Value.builtin "object.__new__"), some (Value.bool true)] }) ::
  (nat_lit 423, { cls := Value.type "getset_descriptor", data := Data.fields #[Value.str (Str.ofString "__dict__") 718, Value.ref 422, Value.builtin "function.__dict__", Value.builtin "function.__dict__#set"] }) ::
  (nat_lit 424, { cls := Value.type "getset_descriptor", data := Data.fields #[Value.str (Str.ofString "__weakref__") 720, Value.ref 422, Value.builtin "ExceptionGroup.__weakref__", Value.none] }) ::
  (nat_lit 432, { cls := Value.type "code", data := Data.fields #[Value.str (Str.ofString "find_file") 725, Value.str (Str.ofString "find_file") 726, Value.str (Str.ofString "/claim/cut.py") 727, Value.int 197 0, Value.int 3 0, Value.int 0 0, Value.int 0 0, Value.int 3 0, Value.ref 427, Value.bool true, Value.int 181 0, Value.ref 428, Value.none, Value.ref 429, Value.ref 430, Value.ref 431, Value.int 734 0, Value.int 197 0, Value.str (Str.ofString "/claim/cut.py") 735] }) ::
  (nat_lit 433, fnF "find_file" "find_file" (.refl (stT 35)) (Value.str (Str.ofString "raftkeep.versions") 681) (Value.ref 432)) ::
  (nat_lit 446, { cls := Value.type "code", data := Data.fields #[Value.str (Str.ofString "key_at") 749, Value.str (Str.ofString "LevelFiles.key_at") 750, Value.str (Str.ofString "/claim/cut.py") 751, Value.int 209 0, Value.int 2 0, Value.int 0 0, Value.int 0 0, Value.int 3 0, Value.ref 441, Value.bool true, Value.int 181 0, Value.ref 442, Value.none, Value.ref 443, Value.ref 444, Value.ref 445, Value.int 754 0, Value.int 209 0, Value.str (Str.ofString "/claim/cut.py") 755] }) ::
  (nat_lit 447, fnF "key_at" "LevelFiles.key_at" (.refl (stM 36 0)) (Value.str (Str.ofString "raftkeep.versions") 681) (Value.ref 446)) ::
  (nat_lit 453, { cls := Value.type "code", data := Data.fields #[Value.str (Str.ofString "value_at") 757, Value.str (Str.ofString "LevelFiles.value_at") 758, Value.str (Str.ofString "/claim/cut.py") 759, Value.int 212 0, Value.int 2 0, Value.int 0 0, Value.int 0 0, Value.int 3 0, Value.ref 448, Value.bool true, Value.int 181 0, Value.ref 449, Value.none, Value.ref 450, Value.ref 451, Value.ref 452, Value.int 762 0, Value.int 212 0, Value.str (Str.ofString "/claim/cut.py") 763] }) ::
  (nat_lit 454, fnF "value_at" "LevelFiles.value_at" (.refl (stM 36 1)) (Value.str (Str.ofString "raftkeep.versions") 681) (Value.ref 453)) ::
  (nat_lit 456, { cls := Value.type "dict", data := Data.dict #[{ hash := PyData.keyHash P (Str.ofString "__module__"), key := Value.str (Str.ofString "__module__") 744, val := Value.str (Str.ofString "raftkeep.versions") 681 }, { hash := PyData.keyHash P (Str.ofString "__firstlineno__"), key := Value.str (Str.ofString "__firstlineno__") 748, val := Value.int 207 747 }, { hash := PyData.keyHash P (Str.ofString "key_at"), key := Value.str (Str.ofString "key_at") 756, val := Value.ref 447 }, { hash := PyData.keyHash P (Str.ofString "value_at"), key := Value.str (Str.ofString "value_at") 764, val := Value.ref 454 }, { hash := PyData.keyHash P (Str.ofString "__static_attributes__"), key := Value.str (Str.ofString "__static_attributes__") 765, val := Value.ref 455 }, { hash := PyData.keyHash P (Str.ofString "__doc__"), key := Value.str (Str.ofString "__doc__") 766, val := Value.none }] 2 }) ::
  (nat_lit 457, { cls := Value.type "type", data := Data.cls { name := Str.ofString "LevelFiles", bases := [Value.ref 394], mro := [Value.ref 457, Value.ref 394, Value.type "object"], ns := 456, qualname := Str.ofString "LevelFiles" }, slots := #[some (Value.ref 434), none, some (Value.str (Str.ofString "LevelFiles") 737), some (Value.str (Str.ofString "LevelFiles") 745), some (Value.builtin "object.__new__"), some (Value.bool true)] }) ::
  (nat_lit 472, { cls := Value.type "code", data := Data.fields #[Value.str (Str.ofString "__init__") 781, Value.str (Str.ofString "Version.__init__") 782, Value.str (Str.ofString "/claim/cut.py") 783, Value.int 216 0, Value.int 3 0, Value.int 0 0, Value.int 0 0, Value.int 3 0, Value.ref 467, Value.bool true, Value.int 181 0, Value.ref 468, Value.none, Value.ref 469, Value.ref 470, Value.ref 471, Value.int 788 0, Value.int 216 0, Value.str (Str.ofString "/claim/cut.py") 789] }) ::
  (nat_lit 473, fnF "__init__" "Version.__init__" (.refl (stM 37 0)) (Value.str (Str.ofString "raftkeep.versions") 681) (Value.ref 472)) ::
  (nat_lit 486, { cls := Value.type "code", data := Data.fields #[Value.str (Str.ofString "candidates") 801, Value.str (Str.ofString "Version.candidates") 802, Value.str (Str.ofString "/claim/cut.py") 803, Value.int 229 0, Value.int 2 0, Value.int 0 0, Value.int 0 0, Value.int 3 0, Value.ref 481, Value.bool true, Value.int 181 0, Value.ref 482, Value.none, Value.ref 483, Value.ref 484, Value.ref 485, Value.int 813 0, Value.int 229 0, Value.str (Str.ofString "/claim/cut.py") 814] }) ::
  (nat_lit 487, fnF "candidates" "Version.candidates" (.refl (stM 37 2)) (Value.str (Str.ofString "raftkeep.versions") 681) (Value.ref 486)) ::
  (nat_lit 493, { cls := Value.type "code", data := Data.fields #[Value.str (Str.ofString "get") 816, Value.str (Str.ofString "Version.get") 817, Value.str (Str.ofString "/claim/cut.py") 818, Value.int 244 0, Value.int 4 0, Value.int 0 0, Value.int 0 0, Value.int 3 0, Value.ref 488, Value.bool true, Value.int 181 0, Value.ref 489, Value.none, Value.ref 490, Value.ref 491, Value.ref 492, Value.int 830 0, Value.int 244 0, Value.str (Str.ofString "/claim/cut.py") 831] }) ::
  (nat_lit 494, fnF "get" "Version.get" (.refl (stM 37 3)) (Value.str (Str.ofString "raftkeep.versions") 681) (Value.ref 493)) ::
  (nat_lit 521, { cls := Value.type "code", data := Data.fields #[Value.str (Str.ofString "numbers") 866, Value.str (Str.ofString "Version.numbers") 867, Value.str (Str.ofString "/claim/cut.py") 868, Value.int 279 0, Value.int 1 0, Value.int 0 0, Value.int 0 0, Value.int 3 0, Value.ref 516, Value.bool true, Value.int 181 0, Value.ref 517, Value.none, Value.ref 518, Value.ref 519, Value.ref 520, Value.int 873 0, Value.int 279 0, Value.str (Str.ofString "/claim/cut.py") 874] }) ::
  (nat_lit 522, fnF "numbers" "Version.numbers" (.refl (stM 37 7)) (Value.str (Str.ofString "raftkeep.versions") 681) (Value.ref 521)) ::
  (nat_lit 535, { cls := Value.type "code", data := Data.fields #[Value.str (Str.ofString "check") 884, Value.str (Str.ofString "Version.check") 885, Value.str (Str.ofString "/claim/cut.py") 886, Value.int 289 0, Value.int 1 0, Value.int 0 0, Value.int 0 0, Value.int 3 0, Value.ref 530, Value.bool true, Value.int 181 0, Value.ref 531, Value.none, Value.ref 532, Value.ref 533, Value.ref 534, Value.int 894 0, Value.int 289 0, Value.str (Str.ofString "/claim/cut.py") 895] }) ::
  (nat_lit 536, fnF "check" "Version.check" (.refl (stM 37 9)) (Value.str (Str.ofString "raftkeep.versions") 681) (Value.ref 535)) ::
  (nat_lit 538, { cls := Value.type "dict", data := Data.dict #[{ hash := PyData.keyHash P (Str.ofString "__module__"), key := Value.str (Str.ofString "__module__") 776, val := Value.str (Str.ofString "raftkeep.versions") 681 }, { hash := PyData.keyHash P (Str.ofString "__firstlineno__"), key := Value.str (Str.ofString "__firstlineno__") 780, val := Value.int 214 779 }, { hash := PyData.keyHash P (Str.ofString "__init__"), key := Value.str (Str.ofString "__init__") 790, val := Value.ref 473 }, { hash := PyData.keyHash P (Str.ofString "overlapping"), key := Value.str (Str.ofString "overlapping") 800, val := Value.ref 480 }, { hash := PyData.keyHash P (Str.ofString "candidates"), key := Value.str (Str.ofString "candidates") 815, val := Value.ref 487 }, { hash := PyData.keyHash P (Str.ofString "get"), key := Value.str (Str.ofString "get") 832, val := Value.ref 494 }, { hash := PyData.keyHash P (Str.ofString "overlaps"), key := Value.str (Str.ofString "overlaps") 847, val := Value.ref 501 }, { hash := PyData.keyHash P (Str.ofString "level_for_mem"), key := Value.str (Str.ofString "level_for_mem") 857, val := Value.ref 508 }, { hash := PyData.keyHash P (Str.ofString "level_octets"), key := Value.str (Str.ofString "level_octets") 865, val := Value.ref 515 }, { hash := PyData.keyHash P (Str.ofString "numbers"), key := Value.str (Str.ofString "numbers") 875, val := Value.ref 522 }, { hash := PyData.keyHash P (Str.ofString "iterators"), key := Value.str (Str.ofString "iterators") 883, val := Value.ref 529 }, { hash := PyData.keyHash P (Str.ofString "check"), key := Value.str (Str.ofString "check") 896, val := Value.ref 536 }, { hash := PyData.keyHash P (Str.ofString "__static_attributes__"), key := Value.str (Str.ofString "__static_attributes__") 903, val := Value.ref 537 }, { hash := PyData.keyHash P (Str.ofString "__dict__"), key := Value.str (Str.ofString "__dict__") 905, val := Value.ref 540 }, { hash := PyData.keyHash P (Str.ofString "__weakref__"), key := Value.str (Str.ofString "__weakref__") 907, val := Value.ref 541 }, { hash := PyData.keyHash P (Str.ofString "__doc__"), key := Value.str (Str.ofString "__doc__") 908, val := Value.none }] 4 }) ::
  (nat_lit 539, { cls := Value.type "type", data := Data.cls { name := Str.ofString "Version", bases := [Value.type "object"], mro := [Value.ref 539, Value.type "object"], ns := 538, qualname := Str.ofString "Version" }, slots := #[none, none, some (Value.str (Str.ofString "Version") 769), some (Value.str (Str.ofString "Version") 777), some (Value.builtin "object.__new__"), some (Value.bool true)] }) ::
  (nat_lit 540, { cls := Value.type "getset_descriptor", data := Data.fields #[Value.str (Str.ofString "__dict__") 904, Value.ref 539, Value.builtin "function.__dict__", Value.builtin "function.__dict__#set"] }) ::
  (nat_lit 541, { cls := Value.type "getset_descriptor", data := Data.fields #[Value.str (Str.ofString "__weakref__") 906, Value.ref 539, Value.builtin "ExceptionGroup.__weakref__", Value.none] }) ::
  (nat_lit 549, { cls := Value.type "code", data := Data.fields #[Value.str (Str.ofString "_law_users") 913, Value.str (Str.ofString "_law_users") 914, Value.str (Str.ofString "/claim/cut.py") 915, Value.int 309 0, Value.int 0 0, Value.int 0 0, Value.int 0 0, Value.int 3 0, Value.ref 544, Value.bool true, Value.int 181 0, Value.ref 545, Value.none, Value.ref 546, Value.ref 547, Value.ref 548, Value.int 916 0, Value.int 309 0, Value.str (Str.ofString "/claim/cut.py") 917] }) ::
  (nat_lit 550, fnF "_law_users" "_law_users" (.refl (stT 39)) (Value.str (Str.ofString "law_no0418_01") 911) (Value.ref 549)) ::
  (nat_lit 556, { cls := Value.type "code", data := Data.fields #[Value.str (Str.ofString "_law_draw") 919, Value.str (Str.ofString "_law_draw") 920, Value.str (Str.ofString "/claim/cut.py") 921, Value.int 311 0, Value.int 2 0, Value.int 0 0, Value.int 0 0, Value.int 3 0, Value.ref 551, Value.bool true, Value.int 181 0, Value.ref 552, Value.none, Value.ref 553, Value.ref 554, Value.ref 555, Value.int 924 0, Value.int 311 0, Value.str (Str.ofString "/claim/cut.py") 925] }) ::
  (nat_lit 557, fnF "_law_draw" "_law_draw" (.refl (stT 40)) (Value.str (Str.ofString "law_no0418_01") 911) (Value.ref 556)) ::
  (nat_lit 563, { cls := Value.type "code", data := Data.fields #[Value.str (Str.ofString "_law_ikey") 927, Value.str (Str.ofString "_law_ikey") 928, Value.str (Str.ofString "/claim/cut.py") 929, Value.int 313 0, Value.int 3 0, Value.int 0 0, Value.int 0 0, Value.int 3 0, Value.ref 558, Value.bool true, Value.int 181 0, Value.ref 559, Value.none, Value.ref 560, Value.ref 561, Value.ref 562, Value.int 934 0, Value.int 313 0, Value.str (Str.ofString "/claim/cut.py") 935] }) ::
  (nat_lit 564, fnF "_law_ikey" "_law_ikey" (.refl (stT 41)) (Value.str (Str.ofString "law_no0418_01") 911) (Value.ref 563)) ::
  (nat_lit 570, { cls := Value.type "code", data := Data.fields #[Value.str (Str.ofString "_law_parts") 937, Value.str (Str.ofString "_law_parts") 938, Value.str (Str.ofString "/claim/cut.py") 939, Value.int 316 0, Value.int 2 0, Value.int 0 0, Value.int 0 0, Value.int 3 0, Value.ref 565, Value.bool true, Value.int 181 0, Value.ref 566, Value.none, Value.ref 567, Value.ref 568, Value.ref 569, Value.int 945 0, Value.int 316 0, Value.str (Str.ofString "/claim/cut.py") 946] }) ::
  (nat_lit 571, fnF "_law_parts" "_law_parts" (.refl (stT 42)) (Value.str (Str.ofString "law_no0418_01") 911) (Value.ref 570)) ::
  (nat_lit 575, { cls := Value.type "code", data := Data.fields #[Value.str (Str.ofString "_law_cache") 948, Value.str (Str.ofString "_law_cache") 949, Value.str (Str.ofString "/claim/cut.py") 950, Value.int 324 0, Value.int 5 0, Value.int 0 0, Value.int 0 0, Value.int 3 0, Value.ref 572, Value.bool true, Value.int 181 0, Value.ref 573, Value.none, Value.none, Value.none, Value.ref 574, Value.int 951 0, Value.int 324 0, Value.str (Str.ofString "/claim/cut.py") 952] }) ::
  (nat_lit 576, fnF "_law_cache" "_law_cache" (.refl (stT 43)) (Value.str (Str.ofString "law_no0418_01") 911) (Value.ref 575)) ::
  (nat_lit 582, { cls := Value.type "code", data := Data.fields #[Value.str (Str.ofString "_law_off") 954, Value.str (Str.ofString "_law_off") 955, Value.str (Str.ofString "/claim/cut.py") 956, Value.int 336 0, Value.int 1 0, Value.int 0 0, Value.int 0 0, Value.int 3 0, Value.ref 577, Value.bool true, Value.int 181 0, Value.ref 578, Value.none, Value.ref 579, Value.ref 580, Value.ref 581, Value.int 960 0, Value.int 336 0, Value.str (Str.ofString "/claim/cut.py") 961] }) ::
  (nat_lit 583, fnF "_law_off" "_law_off" (.refl (stT 44)) (Value.str (Str.ofString "law_no0418_01") 911) (Value.ref 582)) ::
  (nat_lit 587, { cls := Value.type "code", data := Data.fields #[Value.str (Str.ofString "_law_walk") 963, Value.str (Str.ofString "_law_walk") 964, Value.str (Str.ofString "/claim/cut.py") 965, Value.int 353 0, Value.int 5 0, Value.int 0 0, Value.int 0 0, Value.int 3 0, Value.ref 584, Value.bool true, Value.int 181 0, Value.ref 585, Value.none, Value.none, Value.none, Value.ref 586, Value.int 966 0, Value.int 353 0, Value.str (Str.ofString "/claim/cut.py") 967] }) ::
  (nat_lit 588, fnF "_law_walk" "_law_walk" (.refl (stT 45)) (Value.str (Str.ofString "law_no0418_01") 911) (Value.ref 587)) ::
  (nat_lit 592, { cls := Value.type "code", data := Data.fields #[Value.str (Str.ofString "law") 969, Value.str (Str.ofString "law") 970, Value.str (Str.ofString "/claim/cut.py") 971, Value.int 372 0, Value.int 1 0, Value.int 0 0, Value.int 0 0, Value.int 3 0, Value.ref 589, Value.bool true, Value.int 181 0, Value.ref 590, Value.none, Value.none, Value.none, Value.ref 591, Value.int 972 0, Value.int 372 0, Value.str (Str.ofString "/claim/cut.py") 973] }) ::
  (nat_lit 593, fnF "law" "law" (.refl (stT 46)) (Value.str (Str.ofString "law_no0418_01") 911) (Value.ref 592)) :: []
end hd
namespace Mine
theorem left_of {p q : Program} {loose : List Str} {Xt : Shared → Bool} {α : Type} {Yf : Shared → α} {Ya : World → α} {N M m₀ : Nat} {ann : Option Value} {S : World → OsState → SharedT}
    (open_ : ∀ w : World, (fencedOpening treeTable p w N).map (fun s => (s.heap, s.gens, s.drawn, s.toks)) = some (boot_heap w.params, Array.mk [], boot_drawn, boot_toks))
    (size : ∀ w : World, ((boot_heap w.params).isNs mainGlobals && (Array.mk [] : Array GenState).size == 0, (boot_heap w.params).objs.size, (boot_heap w.params).nsMap mainGlobals "__annotations__") = (true, m₀, ann))
    (le : Nat.ble M N = true)
    (run : ∀ (w : World) (os : OsState), topRun treeTable p w m₀ ann M ⟨boot_heap w.params, Array.mk [], boot_drawn, boot_toks, os⟩ (topStub p) = some (S w os).abs)
    (looks : ∀ (w : World) (os : OsState), ((staticsOk (importedModules p.main.body) (boot_heap w.params) (S w os).abs.heap && namesBound p (S w os).abs.heap && gensDone (S w os).abs && laidKept (boot_heap w.params) (S w os).abs.heap),
          openSeen q loose (importedModules p.main.body) Xt true (S w os).abs, Yf (S w os).abs) = (true, openGood q loose, Ya w)) : LeftO p q loose Xt Yf Ya N true := fun w => by
  obtain ⟨⟨h, gs, d, k, os⟩, e, e'⟩ := Option.map_eq_some_iff.mp (open_ w)
  obtain ⟨rfl, rfl, rfl, rfl⟩ : h = boot_heap w.params ∧ gs = Array.mk [] ∧ d = boot_drawn ∧ k = boot_toks := by simpa using e'
  obtain ⟨z1, z2, z3⟩ : _ ∧ _ ∧ _ := by simpa only [Prod.mk.injEq] using size w
  obtain ⟨l1, l2, l3⟩ : _ ∧ _ ∧ _ := by simpa only [Prod.mk.injEq] using looks w os
  have r := topRun_mono (N - M) _ _ _ _ (run w os)
  rw [show M + (N - M) = N by have := Nat.le_of_ble_eq_true le; walk_at "o"] at r
  have t : topFrom treeTable p w N ⟨boot_heap w.params, Array.mk [], boot_drawn, boot_toks, os⟩ = some (S w os).abs := by
    unfold topFrom
    dsimp only
    rw [z1, z2, z3, r]
    show (match staticsOk (importedModules p.main.body) (boot_heap w.params) (S w os).abs.heap && namesBound p (S w os).abs.heap && gensDone (S w os).abs && laidKept (boot_heap w.params) (S w os).abs.heap with | true => _ | false => _) = _
    rw [l1]
  unfold openEnds
  rw [e]
  show (topFrom treeTable p w N _).map _ = _
  rw [t]
  exact congrArg some (Prod.ext l2 l3)
end Mine
namespace Mine
theorem seg_of {tb : String → Option Builtin} {p : Program} {w : World} {n₀ : Nat} {ann : Option Value} {n : Nat} {s s' : SharedT} {l : List Stmt} {env : Env} {c c' : Code} {pos q : Pos} {B : List Frame} {f : Flow}
    (h : PySem.W.Fast.tw10110043849684766642 tb p w n₀ ann 1 n s ⟨(PySem.W.Fast.tw12563942051412417395 l env).wrap doneF deadEnd id id, c, pos, B⟩ = some (f, s', c', q)) : segRun tb p w n₀ ann 1 n s.abs (piecesOf l env c pos B) = some (f, s'.abs, c', q) := by
  rw [← PySem.W.Fast.te12563942051412417395, ← PySem.W.Fast.te10110043849684766642] at h
  exact segRun_of h
noncomputable def nthO : List (Addr × Obj) → Nat → Obj
  | [], _ => default
  | x :: _, 0 => x.2
  | _ :: l, n + 1 => nthO l n
noncomputable def nthB : List Obj → Nat → Obj
  | [], _ => default
  | x :: _, 0 => x
  | _ :: l, n + 1 => nthB l n
theorem nine {α₀ α₁ α₂ α₃ α₄ α₅ α₆ α₇ α₈ : Type} (x : α₀ × α₁ × α₂ × α₃ × α₄ × α₅ × α₆ × α₇ × α₈) {a : α₀} {b : α₁} {c : α₂} {d : α₃} {e : α₄} {f : α₅} {g : α₆} {h : α₇} {i : α₈}
    (h0 : x.1 = a) (h1 : x.2.1 = b) (h2 : x.2.2.1 = c) (h3 : x.2.2.2.1 = d) (h4 : x.2.2.2.2.1 = e) (h5 : x.2.2.2.2.2.1 = f) (h6 : x.2.2.2.2.2.2.1 = g) (h7 : x.2.2.2.2.2.2.2.1 = h) (h8 : x.2.2.2.2.2.2.2.2 = i) : x = (a, b, c, d, e, f, g, h, i) := by
  subst h0 h1 h2 h3 h4 h5 h6 h7 h8
  rfl
/-- the globals as they stood when they had n names, under the module's name v -/
noncomputable def cutD (o : Obj) (n : Nat) (v : Value) : Obj := match o.data with
  | .dict es _ => { o with data := .dict ⟨match es.toList.take n with | e :: l => { e with val := v } :: l | [] => []⟩ n }
  | _ => o
/-- the table of the text's code objects -/
noncomputable def regO (l : List (Int × Addr)) : Obj := { cls := .none, data := .fields ⟨l.flatMap fun x => [.int x.1 0, .int 0 0, .ref x.2]⟩ }
noncomputable def codeO : Obj := { cls := Value.type "code", data := Data.fields #[Value.str (Str.ofString "<module>") 182, Value.str (Str.ofString "<module>") 183, Value.str (Str.ofString "/claim/cut.py") 184, Value.int 1 0, Value.int 0 0, Value.int 0 0, Value.int 0 0, Value.int 0 0, Value.ref 11, Value.bool false, Value.int 181 0, Value.ref 12, Value.none, Value.none, Value.none, Value.none, Value.int 185 0, Value.int 1 0, Value.str (Str.ofString "/claim/cut.py") 186] }
/-- the code object of a def that the law does not reach -/
noncomputable def codeX (name qual : Str) (t line args a u v : Nat) : Obj := { cls := Value.type "code", data := Data.fields #[.str name t, .str qual (t + 1), .str (Str.ofString "/claim/cut.py") (t + 2), .int line 0, .int args 0, .int 0 0, .int 0 0, .int 3 0, .ref a, .bool true, .int 181 0, .ref (a + 1), .none, .ref (a + 2), .ref (a + 3), .ref (a + 4), .int u 0, .int line 0, .str (Str.ofString "/claim/cut.py") v] }
noncomputable def nilO : Obj := { cls := .none, data := .fields #[] }
/-- a cell of where a run of statements ends -/
noncomputable def cellR (r : Option (Flow × SharedT × Code × Pos)) (i : Nat) : Obj := match r with
  | some (_, s, _, _) => match s.tree.get i with | some o => o | none => default
  | none => default
end Mine
namespace hd
noncomputable def view_39 : Program := view PySem.Challenge.pw_no0418_01 [0, 2, 3, 4, 5, 6, 7, 9, 10, 11, 12, 13, 14, 15, 16, 18, 19, 20, 21, 22, 23, 24, 25, 26, 27, 28, 29, 30, 32, 34, 35, 36, 37, 39, 40, 41, 42, 43, 44, 45, 46]
noncomputable def asK : List Addr := [2, 3, 30, 31, 32, 43, 44, 55, 56, 67, 68, 79, 80, 91, 92, 107, 108, 114, 115, 121, 122, 128, 129, 135, 136, 142, 143, 149, 150, 156, 157, 163, 164, 170, 171, 184, 185, 208, 209, 210, 211, 243, 244, 259, 260, 266, 267, 297, 298, 313, 314, 320, 321, 327, 328, 334, 335, 341, 342, 362, 363, 369, 370, 376, 377, 383, 384, 390, 391, 393, 394, 395, 396, 411, 412, 421, 422, 423, 424, 432, 433, 446, 447, 453, 454, 456, 457, 472, 473, 486, 487, 493, 494, 521, 522, 535, 536, 538, 539, 540, 541, 549, 550, 556, 557, 563, 564, 570, 571, 575, 576, 582, 583, 587, 588, 592, 593]
theorem asK_eq : ∀ P, asK = (heap_39 P).map (·.1) := fun _ => by kernel_rfl
noncomputable abbrev XT : Shared → Bool := fun s => xlAt view_39 [] s && recOk (RowW.records (OpenRow.toRowW PySem.Challenge.rw_no0418_01.row)) s
theorem open_eq : ∀ w : World, (fencedOpening treeTable PySem.Challenge.pw_no0418_01 w 9658).map (fun s => (s.heap, s.gens, s.drawn, s.toks)) = some (boot_heap w.params, Array.mk [], boot_drawn, boot_toks) :=
  boot_open (by kernel_rfl) (by decide) (fun s => by kernel_rfl)
theorem size_eq : ∀ w : World, ((boot_heap w.params).isNs mainGlobals && (Array.mk [] : Array GenState).size == 0, (boot_heap w.params).objs.size, (boot_heap w.params).nsMap mainGlobals "__annotations__") = (true, 11, some (.ref 6)) := fun w => by kernel_rfl
noncomputable def oF (w : World) (i : Nat) : Obj := nthO (heap_39 w.params) i
noncomputable def oB (w : World) (i : Nat) : Obj := nthB (boot_heap w.params).objs.toList i
noncomputable def body0 : List Stmt := behindTheImports PySem.Challenge.pw_no0418_01
noncomputable def env0 : Env := { scope := PySem.Challenge.pw_no0418_01.main.scope, locals := mainNs, globals := mainNs, cells := [], code := .ref 13, frame := some 14 }
noncomputable def cE : Code := .body body0 env0
noncomputable def pos0 : Pos := ⟨0, 0, 0, 0⟩
noncomputable def B0 : List Frame := [topFrame pos0]
noncomputable def pre0 (w : World) (os : OsState) : Option (Shared × Thread) := PySem.W.Fast.tw15667345088766844465 PySem.W.Fast.tw14364793385576792824 PySem.Challenge.pw_no0418_01 w 11 (some (.ref 6)) 12 ⟨boot_heap w.params, Array.mk [], boot_drawn, boot_toks, os⟩ (topStub PySem.Challenge.pw_no0418_01)
noncomputable def S0 (w : World) (os : OsState) : SharedT := match pre0 w os with
  | some (s, _) => ⟨s.heap.objs.toList.zipIdx.foldl (fun t x => t.ins x.2 x.1) .nil, 15, {}, Array.mk [], boot_drawn, 187, os⟩
  | none => ⟨.nil, 0, {}, Array.mk [], boot_drawn, boot_toks, os⟩
theorem pre_eq : ∀ (w : World) (os : OsState), pre0 w os = some ((S0 w os).abs, ⟨PySem.W.Fast.tw11892475500146522536 PySem.W.Fast.tw14364793385576792824 cE, cE, pos0, B0⟩) := fun w os => by kernel_rfl
theorem block_eq : ∀ (w : World) (os : OsState), PySem.W.Fast.tw10110043849684766642 PySem.W.Fast.tw14364793385576792824 PySem.Challenge.pw_no0418_01 w 11 (some (.ref 6)) 1 1 (S0 w os) ⟨(PySem.W.Fast.tw1066825118222455980 body0 env0).wrap (fun _ => doneF .next) deadEnd id id, cE, pos0, B0⟩ = some (.next, S0 w os, cE, pos0) := fun w os => by kernel_rfl
noncomputable def exO : List Obj := [
  codeX "_wall" "_wall" 187 1 1 15 191 192,
  fnE "_wall" "_wall" (fParams (stT 0)) (fBody (stT 0)) (fScope (stT 0)) (Value.str (Str.ofString "__main__") 164) (Value.ref 20),
  codeX "write_groups" "write_groups" 302 20 2 95 308 309,
  fnE "write_groups" "write_groups" (fParams (stT 11)) (fBody (stT 11)) (fScope (stT 11)) (Value.str (Str.ofString "raftkeep.octets") 296) (Value.ref 100),
  codeX "separator" "Order.separator" 422 87 3 186 428 429,
  fnE "separator" "Order.separator" (fParams (stM 28 1)) (fBody (stM 28 1)) (fScope (stM 28 1)) (Value.str (Str.ofString "raftkeep.keys") 348) (Value.ref 191),
  codeX "successor" "Order.successor" 431 90 2 193 436 437,
  fnE "successor" "Order.successor" (fParams (stM 28 2)) (fBody (stM 28 2)) (fScope (stM 28 2)) (Value.str (Str.ofString "raftkeep.keys") 348) (Value.ref 198),
  codeX "name" "Order.name" 439 93 1 200 443 444,
  fnE "name" "Order.name" (fParams (stM 28 3)) (fBody (stM 28 3)) (fScope (stM 28 3)) (Value.str (Str.ofString "raftkeep.keys") 348) (Value.ref 205),
  codeX "separator" "BytesOrder.separator" 466 97 3 221 472 473,
  fnE "separator" "BytesOrder.separator" (fParams (stM 29 0)) (fBody (stM 29 0)) (fScope (stM 29 0)) (Value.str (Str.ofString "raftkeep.keys") 348) (Value.ref 226),
  codeX "successor" "BytesOrder.successor" 475 100 2 228 480 481,
  fnE "successor" "BytesOrder.successor" (fParams (stM 29 1)) (fBody (stM 29 1)) (fScope (stM 29 1)) (Value.str (Str.ofString "raftkeep.keys") 348) (Value.ref 233),
  codeX "name" "BytesOrder.name" 483 103 1 235 487 488,
  fnE "name" "BytesOrder.name" (fParams (stM 29 2)) (fBody (stM 29 2)) (fScope (stM 29 2)) (Value.str (Str.ofString "raftkeep.keys") 348) (Value.ref 240),
  codeX "dress" "InternalOrder.dress" 525 122 4 268 532 533,
  fnE "dress" "InternalOrder.dress" (fParams (stM 30 2)) (fBody (stM 30 2)) (fScope (stM 30 2)) (Value.str (Str.ofString "raftkeep.keys") 348) (Value.ref 273),
  codeX "separator" "InternalOrder.separator" 535 125 3 275 541 542,
  fnE "separator" "InternalOrder.separator" (fParams (stM 30 3)) (fBody (stM 30 3)) (fScope (stM 30 3)) (Value.str (Str.ofString "raftkeep.keys") 348) (Value.ref 280),
  codeX "successor" "InternalOrder.successor" 544 128 2 282 549 550,
  fnE "successor" "InternalOrder.successor" (fParams (stM 30 4)) (fBody (stM 30 4)) (fScope (stM 30 4)) (Value.str (Str.ofString "raftkeep.keys") 348) (Value.ref 287),
  codeX "name" "InternalOrder.name" 552 131 1 289 556 557,
  fnE "name" "InternalOrder.name" (fParams (stM 30 5)) (fBody (stM 30 5)) (fScope (stM 30 5)) (Value.str (Str.ofString "raftkeep.keys") 348) (Value.ref 294),
  codeX "seek_first" "ListIter.seek_first" 617 154 1 343 621 622,
  fnE "seek_first" "ListIter.seek_first" (fParams (stM 32 5)) (fBody (stM 32 5)) (fScope (stM 32 5)) (Value.str (Str.ofString "raftkeep.iters") 564) (Value.ref 348),
  codeX "seek_last" "ListIter.seek_last" 624 157 1 350 628 629,
  fnE "seek_last" "ListIter.seek_last" (fParams (stM 32 6)) (fBody (stM 32 6)) (fScope (stM 32 6)) (Value.str (Str.ofString "raftkeep.iters") 564) (Value.ref 355),
  codeX "row" "FileMeta.row" 706 195 1 413 710 711,
  fnE "row" "FileMeta.row" (fParams (stM 34 1)) (fBody (stM 34 1)) (fScope (stM 34 1)) (Value.str (Str.ofString "raftkeep.versions") 681) (Value.ref 418),
  codeX "overlapping" "Version.overlapping" 791 226 4 474 798 799,
  fnE "overlapping" "Version.overlapping" (fParams (stM 37 1)) (fBody (stM 37 1)) (fScope (stM 37 1)) (Value.str (Str.ofString "raftkeep.versions") 681) (Value.ref 479),
  codeX "overlaps" "Version.overlaps" 833 257 4 495 845 846,
  fnE "overlaps" "Version.overlaps" (fParams (stM 37 4)) (fBody (stM 37 4)) (fScope (stM 37 4)) (Value.str (Str.ofString "raftkeep.versions") 681) (Value.ref 500),
  codeX "level_for_mem" "Version.level_for_mem" 848 273 4 502 855 856,
  fnE "level_for_mem" "Version.level_for_mem" (fParams (stM 37 5)) (fBody (stM 37 5)) (fScope (stM 37 5)) (Value.str (Str.ofString "raftkeep.versions") 681) (Value.ref 507),
  codeX "level_octets" "Version.level_octets" 858 276 2 509 863 864,
  fnE "level_octets" "Version.level_octets" (fParams (stM 37 6)) (fBody (stM 37 6)) (fScope (stM 37 6)) (Value.str (Str.ofString "raftkeep.versions") 681) (Value.ref 514),
  codeX "iterators" "Version.iterators" 876 286 2 523 881 882,
  fnE "iterators" "Version.iterators" (fParams (stM 37 8)) (fBody (stM 37 8)) (fScope (stM 37 8)) (Value.str (Str.ofString "raftkeep.versions") 681) (Value.ref 528)]
noncomputable def oX (i : Nat) : Obj := nthB exO i
noncomputable def l1 : List Stmt := body0.take 8
noncomputable def run1 (w : World) (os : OsState) : Option (Flow × SharedT × Code × Pos) := PySem.W.Fast.tw10110043849684766642 PySem.W.Fast.tw14364793385576792824 PySem.Challenge.pw_no0418_01 w 11 (some (.ref 6)) 1 1370 (S0 w os) ⟨(PySem.W.Fast.tw12563942051412417395 l1 env0).wrap doneF deadEnd id id, cE, ⟨0, 0, 0, 0⟩, B0⟩
noncomputable def tr1 (F B X L1 : Nat → Obj) (g : Obj) (r c z : Obj) : BT := .node (B (nat_lit 0)) (.node (B (nat_lit 1)) (.node (g) (.node (B (nat_lit 7)) (.node (L1 (nat_lit 15)) (.node (F (nat_lit 3)) (.node (z) .nil .nil) .nil) (.node (L1 (nat_lit 47)) (.node (F (nat_lit 11)) .nil .nil) .nil)) (.node (L1 (nat_lit 23)) (.node (z) (.node (L1 (nat_lit 71)) .nil .nil) .nil) (.node (F (nat_lit 7)) (.node (z) .nil .nil) .nil))) (.node (L1 (nat_lit 11)) (.node (L1 (nat_lit 19)) (.node (L1 (nat_lit 35)) (.node (F (nat_lit 9)) .nil .nil) .nil) (.node (z) (.node (L1 (nat_lit 83)) .nil .nil) .nil)) (.node (L1 (nat_lit 27)) (.node (F (nat_lit 5)) (.node (z) .nil .nil) .nil) (.node (L1 (nat_lit 59)) (.node (F (nat_lit 13)) .nil .nil) .nil)))) (.node (B (nat_lit 5)) (.node (B (nat_lit 9)) (.node (L1 (nat_lit 17)) (.node (L1 (nat_lit 33)) (.node (L1 (nat_lit 65)) .nil .nil) .nil) (.node (L1 (nat_lit 49)) (.node (L1 (nat_lit 81)) .nil .nil) .nil)) (.node (L1 (nat_lit 25)) (.node (L1 (nat_lit 41)) (.node (L1 (nat_lit 73)) .nil .nil) .nil) (.node (L1 (nat_lit 57)) (.node (L1 (nat_lit 89)) .nil .nil) .nil))) (.node (c) (.node (X (nat_lit 1)) (.node (L1 (nat_lit 37)) (.node (L1 (nat_lit 69)) .nil .nil) .nil) (.node (L1 (nat_lit 53)) (.node (L1 (nat_lit 85)) .nil .nil) .nil)) (.node (L1 (nat_lit 29)) (.node (L1 (nat_lit 45)) (.node (L1 (nat_lit 77)) .nil .nil) .nil) (.node (L1 (nat_lit 61)) (.node (L1 (nat_lit 93)) .nil .nil) .nil))))) (.node (F (nat_lit 0)) (.node (B (nat_lit 4)) (.node (B (nat_lit 8)) (.node (z) (.node (F (nat_lit 4)) (.node (L1 (nat_lit 64)) .nil .nil) .nil) (.node (L1 (nat_lit 48)) (.node (F (nat_lit 12)) .nil .nil) .nil)) (.node (L1 (nat_lit 24)) (.node (L1 (nat_lit 40)) (.node (L1 (nat_lit 72)) .nil .nil) .nil) (.node (F (nat_lit 8)) (.node (L1 (nat_lit 88)) .nil .nil) .nil))) (.node (r) (.node (X (nat_lit 0)) (.node (L1 (nat_lit 36)) (.node (F (nat_lit 10)) .nil .nil) .nil) (.node (L1 (nat_lit 52)) (.node (L1 (nat_lit 84)) .nil .nil) .nil)) (.node (L1 (nat_lit 28)) (.node (F (nat_lit 6)) (.node (L1 (nat_lit 76)) .nil .nil) .nil) (.node (L1 (nat_lit 60)) (.node (F (nat_lit 14)) .nil .nil) .nil)))) (.node (B (nat_lit 6)) (.node (B (nat_lit 10)) (.node (L1 (nat_lit 18)) (.node (L1 (nat_lit 34)) (.node (L1 (nat_lit 66)) .nil .nil) .nil) (.node (L1 (nat_lit 50)) (.node (L1 (nat_lit 82)) .nil .nil) .nil)) (.node (z) (.node (L1 (nat_lit 42)) (.node (L1 (nat_lit 74)) .nil .nil) .nil) (.node (L1 (nat_lit 58)) (.node (L1 (nat_lit 90)) .nil .nil) .nil))) (.node (L1 (nat_lit 14)) (.node (L1 (nat_lit 22)) (.node (L1 (nat_lit 38)) (.node (L1 (nat_lit 70)) .nil .nil) .nil) (.node (L1 (nat_lit 54)) (.node (L1 (nat_lit 86)) .nil .nil) .nil)) (.node (F (nat_lit 2)) (.node (L1 (nat_lit 46)) (.node (L1 (nat_lit 78)) .nil .nil) .nil) (.node (L1 (nat_lit 62)) (.node (L1 (nat_lit 94)) .nil .nil) .nil)))))
noncomputable def S1 (w : World) (os : OsState) : SharedT := ⟨tr1 (oF w) (oB w) oX (cellR (run1 w os)) (cutD (oF w 1) 16 (.str (Str.ofString "raftkeep.errors") 194)) (regO [(1, 20), (5, 27), (7, 40), (9, 52), (11, 64), (13, 76), (15, 88)]) codeO nilO, 95, {}, Array.mk [], boot_drawn, 296, os⟩
theorem run1_eq : ∀ (w : World) (os : OsState), run1 w os = some (.next, S1 w os, cE, ⟨15, 0, 16, 8⟩) := fun w os => by kernel_rfl
noncomputable def l2 : List Stmt := (body0.drop 8).take 23
noncomputable def run2 (w : World) (os : OsState) : Option (Flow × SharedT × Code × Pos) := PySem.W.Fast.tw10110043849684766642 PySem.W.Fast.tw14364793385576792824 PySem.Challenge.pw_no0418_01 w 11 (some (.ref 6)) 1 1447 (S1 w os) ⟨(PySem.W.Fast.tw12563942051412417395 l2 env0).wrap doneF deadEnd id id, cE, ⟨15, 0, 16, 8⟩, B0⟩
noncomputable def tr2 (F B X L1 L2 : Nat → Obj) (g : Obj) (r c z : Obj) : BT := .node (B (nat_lit 0)) (.node (B (nat_lit 1)) (.node (g) (.node (B (nat_lit 7)) (.node (L1 (nat_lit 15)) (.node (F (nat_lit 3)) (.node (z) (.node (L2 (nat_lit 127)) (.node (z) .nil .nil) .nil) (.node (X (nat_lit 4)) .nil .nil)) (.node (L2 (nat_lit 95)) (.node (z) (.node (X (nat_lit 20)) .nil .nil) .nil) (.node (L2 (nat_lit 223)) .nil .nil))) (.node (L1 (nat_lit 47)) (.node (F (nat_lit 11)) (.node (F (nat_lit 26)) (.node (L2 (nat_lit 271)) .nil .nil) .nil) (.node (L2 (nat_lit 207)) .nil .nil)) (.node (L2 (nat_lit 111)) (.node (L2 (nat_lit 175)) .nil .nil) (.node (L2 (nat_lit 239)) .nil .nil)))) (.node (L1 (nat_lit 23)) (.node (z) (.node (L1 (nat_lit 71)) (.node (F (nat_lit 23)) (.node (L2 (nat_lit 263)) .nil .nil) .nil) (.node (X (nat_lit 7)) .nil .nil)) (.node (z) (.node (L2 (nat_lit 167)) (.node (X (nat_lit 23)) .nil .nil) .nil) (.node (L2 (nat_lit 231)) .nil .nil))) (.node (F (nat_lit 7)) (.node (z) (.node (L2 (nat_lit 151)) (.node (L2 (nat_lit 279)) .nil .nil) .nil) (.node (L2 (nat_lit 215)) .nil .nil)) (.node (L2 (nat_lit 119)) (.node (L2 (nat_lit 183)) .nil .nil) (.node (L2 (nat_lit 247)) .nil .nil))))) (.node (L1 (nat_lit 11)) (.node (L1 (nat_lit 19)) (.node (L1 (nat_lit 35)) (.node (F (nat_lit 9)) (.node (z) (.node (F (nat_lit 43)) .nil .nil) .nil) (.node (L2 (nat_lit 195)) .nil .nil)) (.node (L2 (nat_lit 99)) (.node (F (nat_lit 31)) (.node (L2 (nat_lit 291)) .nil .nil) .nil) (.node (X (nat_lit 11)) .nil .nil))) (.node (z) (.node (L1 (nat_lit 83)) (.node (L2 (nat_lit 147)) (.node (L2 (nat_lit 275)) .nil .nil) .nil) (.node (F (nat_lit 40)) .nil .nil)) (.node (F (nat_lit 18)) (.node (L2 (nat_lit 179)) .nil .nil) (.node (F (nat_lit 41)) .nil .nil)))) (.node (L1 (nat_lit 27)) (.node (F (nat_lit 5)) (.node (z) (.node (L2 (nat_lit 139)) (.node (F (nat_lit 46)) .nil .nil) .nil) (.node (L2 (nat_lit 203)) .nil .nil)) (.node (F (nat_lit 15)) (.node (F (nat_lit 34)) (.node (L2 (nat_lit 299)) .nil .nil) .nil) (.node (L2 (nat_lit 235)) .nil .nil))) (.node (L1 (nat_lit 59)) (.node (F (nat_lit 13)) (.node (L2 (nat_lit 155)) (.node (z) .nil .nil) .nil) (.node (L2 (nat_lit 219)) .nil .nil)) (.node (L2 (nat_lit 123)) (.node (z) .nil .nil) (.node (L2 (nat_lit 251)) .nil .nil)))))) (.node (B (nat_lit 5)) (.node (B (nat_lit 9)) (.node (L1 (nat_lit 17)) (.node (L1 (nat_lit 33)) (.node (L1 (nat_lit 65)) (.node (F (nat_lit 22)) (.node (L2 (nat_lit 257)) .nil .nil) .nil) (.node (L2 (nat_lit 193)) .nil .nil)) (.node (L2 (nat_lit 97)) (.node (L2 (nat_lit 161)) (.node (L2 (nat_lit 289)) .nil .nil) .nil) (.node (L2 (nat_lit 225)) .nil .nil))) (.node (L1 (nat_lit 49)) (.node (L1 (nat_lit 81)) (.node (z) (.node (X (nat_lit 16)) .nil .nil) .nil) (.node (F (nat_lit 38)) .nil .nil)) (.node (L2 (nat_lit 113)) (.node (L2 (nat_lit 177)) .nil .nil) (.node (X (nat_lit 15)) .nil .nil)))) (.node (L1 (nat_lit 25)) (.node (L1 (nat_lit 41)) (.node (L1 (nat_lit 73)) (.node (L2 (nat_lit 137)) (.node (L2 (nat_lit 265)) .nil .nil) .nil) (.node (z) .nil .nil)) (.node (L2 (nat_lit 105)) (.node (L2 (nat_lit 169)) (.node (F (nat_lit 47)) .nil .nil) .nil) (.node (X (nat_lit 12)) .nil .nil))) (.node (L1 (nat_lit 57)) (.node (L1 (nat_lit 89)) (.node (L2 (nat_lit 153)) (.node (X (nat_lit 19)) .nil .nil) .nil) (.node (L2 (nat_lit 217)) .nil .nil)) (.node (F (nat_lit 19)) (.node (F (nat_lit 36)) .nil .nil) (.node (L2 (nat_lit 249)) .nil .nil))))) (.node (c) (.node (X (nat_lit 1)) (.node (L1 (nat_lit 37)) (.node (L1 (nat_lit 69)) (.node (L2 (nat_lit 133)) (.node (L2 (nat_lit 261)) .nil .nil) .nil) (.node (L2 (nat_lit 197)) .nil .nil)) (.node (X (nat_lit 3)) (.node (L2 (nat_lit 165)) (.node (L2 (nat_lit 293)) .nil .nil) .nil) (.node (z) .nil .nil))) (.node (L1 (nat_lit 53)) (.node (L1 (nat_lit 85)) (.node (F (nat_lit 27)) (.node (L2 (nat_lit 277)) .nil .nil) .nil) (.node (L2 (nat_lit 213)) .nil .nil)) (.node (z) (.node (L2 (nat_lit 181)) .nil .nil) (.node (L2 (nat_lit 245)) .nil .nil)))) (.node (L1 (nat_lit 29)) (.node (L1 (nat_lit 45)) (.node (L1 (nat_lit 77)) (.node (L2 (nat_lit 141)) (.node (z) .nil .nil) .nil) (.node (X (nat_lit 8)) .nil .nil)) (.node (L2 (nat_lit 109)) (.node (L2 (nat_lit 173)) .nil .nil) (.node (L2 (nat_lit 237)) .nil .nil))) (.node (L1 (nat_lit 61)) (.node (L1 (nat_lit 93)) (.node (F (nat_lit 30)) (.node (L2 (nat_lit 285)) .nil .nil) .nil) (.node (L2 (nat_lit 221)) .nil .nil)) (.node (L2 (nat_lit 125)) (.node (L2 (nat_lit 189)) .nil .nil) (.node (L2 (nat_lit 253)) .nil .nil))))))) (.node (F (nat_lit 0)) (.node (B (nat_lit 4)) (.node (B (nat_lit 8)) (.node (z) (.node (F (nat_lit 4)) (.node (L1 (nat_lit 64)) (.node (F (nat_lit 21)) (.node (L2 (nat_lit 256)) .nil .nil) .nil) (.node (X (nat_lit 5)) .nil .nil)) (.node (z) (.node (L2 (nat_lit 160)) (.node (X (nat_lit 21)) .nil .nil) .nil) (.node (L2 (nat_lit 224)) .nil .nil))) (.node (L1 (nat_lit 48)) (.node (F (nat_lit 12)) (.node (L2 (nat_lit 144)) (.node (L2 (nat_lit 272)) .nil .nil) .nil) (.node (F (nat_lit 37)) .nil .nil)) (.node (L2 (nat_lit 112)) (.node (L2 (nat_lit 176)) .nil .nil) (.node (X (nat_lit 14)) .nil .nil)))) (.node (L1 (nat_lit 24)) (.node (L1 (nat_lit 40)) (.node (L1 (nat_lit 72)) (.node (F (nat_lit 24)) (.node (L2 (nat_lit 264)) .nil .nil) .nil) (.node (L2 (nat_lit 200)) .nil .nil)) (.node (L2 (nat_lit 104)) (.node (L2 (nat_lit 168)) (.node (L2 (nat_lit 296)) .nil .nil) .nil) (.node (L2 (nat_lit 232)) .nil .nil))) (.node (F (nat_lit 8)) (.node (L1 (nat_lit 88)) (.node (z) (.node (X (nat_lit 18)) .nil .nil) .nil) (.node (L2 (nat_lit 216)) .nil .nil)) (.node (L2 (nat_lit 120)) (.node (F (nat_lit 35)) .nil .nil) (.node (L2 (nat_lit 248)) .nil .nil))))) (.node (r) (.node (X (nat_lit 0)) (.node (L1 (nat_lit 36)) (.node (F (nat_lit 10)) (.node (L2 (nat_lit 132)) (.node (F (nat_lit 44)) .nil .nil) .nil) (.node (L2 (nat_lit 196)) .nil .nil)) (.node (X (nat_lit 2)) (.node (F (nat_lit 32)) (.node (L2 (nat_lit 292)) .nil .nil) .nil) (.node (L2 (nat_lit 228)) .nil .nil))) (.node (L1 (nat_lit 52)) (.node (L1 (nat_lit 84)) (.node (L2 (nat_lit 148)) (.node (z) .nil .nil) .nil) (.node (L2 (nat_lit 212)) .nil .nil)) (.node (L2 (nat_lit 116)) (.node (z) .nil .nil) (.node (F (nat_lit 42)) .nil .nil)))) (.node (L1 (nat_lit 28)) (.node (F (nat_lit 6)) (.node (L1 (nat_lit 76)) (.node (L2 (nat_lit 140)) (.node (L2 (nat_lit 268)) .nil .nil) .nil) (.node (L2 (nat_lit 204)) .nil .nil)) (.node (F (nat_lit 16)) (.node (L2 (nat_lit 172)) (.node (L2 (nat_lit 300)) .nil .nil) .nil) (.node (z) .nil .nil))) (.node (L1 (nat_lit 60)) (.node (F (nat_lit 14)) (.node (F (nat_lit 29)) (.node (L2 (nat_lit 284)) .nil .nil) .nil) (.node (L2 (nat_lit 220)) .nil .nil)) (.node (z) (.node (L2 (nat_lit 188)) .nil .nil) (.node (L2 (nat_lit 252)) .nil .nil)))))) (.node (B (nat_lit 6)) (.node (B (nat_lit 10)) (.node (L1 (nat_lit 18)) (.node (L1 (nat_lit 34)) (.node (L1 (nat_lit 66)) (.node (L2 (nat_lit 130)) (.node (L2 (nat_lit 258)) .nil .nil) .nil) (.node (z) .nil .nil)) (.node (L2 (nat_lit 98)) (.node (L2 (nat_lit 162)) (.node (z) .nil .nil) .nil) (.node (X (nat_lit 10)) .nil .nil))) (.node (L1 (nat_lit 50)) (.node (L1 (nat_lit 82)) (.node (L2 (nat_lit 146)) (.node (X (nat_lit 17)) .nil .nil) .nil) (.node (F (nat_lit 39)) .nil .nil)) (.node (F (nat_lit 17)) (.node (L2 (nat_lit 178)) .nil .nil) (.node (L2 (nat_lit 242)) .nil .nil)))) (.node (z) (.node (L1 (nat_lit 42)) (.node (L1 (nat_lit 74)) (.node (z) (.node (F (nat_lit 45)) .nil .nil) .nil) (.node (L2 (nat_lit 202)) .nil .nil)) (.node (L2 (nat_lit 106)) (.node (F (nat_lit 33)) (.node (F (nat_lit 48)) .nil .nil) .nil) (.node (X (nat_lit 13)) .nil .nil))) (.node (L1 (nat_lit 58)) (.node (L1 (nat_lit 90)) (.node (L2 (nat_lit 154)) (.node (L2 (nat_lit 282)) .nil .nil) .nil) (.node (L2 (nat_lit 218)) .nil .nil)) (.node (F (nat_lit 20)) (.node (L2 (nat_lit 186)) .nil .nil) (.node (L2 (nat_lit 250)) .nil .nil))))) (.node (L1 (nat_lit 14)) (.node (L1 (nat_lit 22)) (.node (L1 (nat_lit 38)) (.node (L1 (nat_lit 70)) (.node (L2 (nat_lit 134)) (.node (z) .nil .nil) .nil) (.node (X (nat_lit 6)) .nil .nil)) (.node (L2 (nat_lit 102)) (.node (z) (.node (X (nat_lit 22)) .nil .nil) .nil) (.node (L2 (nat_lit 230)) .nil .nil))) (.node (L1 (nat_lit 54)) (.node (L1 (nat_lit 86)) (.node (F (nat_lit 28)) (.node (L2 (nat_lit 278)) .nil .nil) .nil) (.node (L2 (nat_lit 214)) .nil .nil)) (.node (L2 (nat_lit 118)) (.node (L2 (nat_lit 182)) .nil .nil) (.node (L2 (nat_lit 246)) .nil .nil)))) (.node (F (nat_lit 2)) (.node (L1 (nat_lit 46)) (.node (L1 (nat_lit 78)) (.node (F (nat_lit 25)) (.node (L2 (nat_lit 270)) .nil .nil) .nil) (.node (X (nat_lit 9)) .nil .nil)) (.node (z) (.node (L2 (nat_lit 174)) .nil .nil) (.node (L2 (nat_lit 238)) .nil .nil))) (.node (L1 (nat_lit 62)) (.node (L1 (nat_lit 94)) (.node (L2 (nat_lit 158)) (.node (L2 (nat_lit 286)) .nil .nil) .nil) (.node (z) .nil .nil)) (.node (L2 (nat_lit 126)) (.node (L2 (nat_lit 190)) .nil .nil) (.node (L2 (nat_lit 254)) .nil .nil)))))))
noncomputable def S2 (w : World) (os : OsState) : SharedT := ⟨tr2 (oF w) (oB w) oX (cellR (run1 w os)) (cellR (run2 w os)) (cutD (oF w 1) 37 (.str (Str.ofString "raftkeep.keys") 348)) (regO [(1, 20), (5, 27), (7, 40), (9, 52), (11, 64), (13, 76), (15, 88), (20, 100), (29, 107), (33, 114), (37, 121), (41, 128), (45, 135), (55, 142), (61, 149), (63, 156), (70, 163), (74, 170), (78, 177), (95, 219), (105, 252)]) codeO nilO, 301, {}, Array.mk [], boot_drawn, 564, os⟩
theorem run2_eq : ∀ (w : World) (os : OsState), run2 w os = some (.next, S2 w os, cE, ⟨105, 0, 132, 16⟩) := fun w os => by kernel_rfl
noncomputable def l3 : List Stmt := (body0.drop 31).take 6
noncomputable def run3 (w : World) (os : OsState) : Option (Flow × SharedT × Code × Pos) := PySem.W.Fast.tw10110043849684766642 PySem.W.Fast.tw14364793385576792824 PySem.Challenge.pw_no0418_01 w 11 (some (.ref 6)) 1 1160 (S2 w os) ⟨(PySem.W.Fast.tw12563942051412417395 l3 env0).wrap doneF deadEnd id id, cE, ⟨105, 0, 132, 16⟩, B0⟩
noncomputable def tr3 (F B X L1 L2 L3 : Nat → Obj) (g : Obj) (r c z : Obj) : BT := .node (B (nat_lit 0)) (.node (B (nat_lit 1)) (.node (g) (.node (B (nat_lit 7)) (.node (L1 (nat_lit 15)) (.node (F (nat_lit 3)) (.node (z) (.node (L2 (nat_lit 127)) (.node (z) .nil .nil) (.node (F (nat_lit 65)) .nil .nil)) (.node (X (nat_lit 4)) (.node (L3 (nat_lit 319)) .nil .nil) (.node (F (nat_lit 82)) .nil .nil))) (.node (L2 (nat_lit 95)) (.node (z) (.node (X (nat_lit 20)) .nil .nil) (.node (L3 (nat_lit 415)) .nil .nil)) (.node (L2 (nat_lit 223)) (.node (z) .nil .nil) .nil))) (.node (L1 (nat_lit 47)) (.node (F (nat_lit 11)) (.node (F (nat_lit 26)) (.node (L2 (nat_lit 271)) .nil .nil) (.node (L3 (nat_lit 399)) .nil .nil)) (.node (L2 (nat_lit 207)) (.node (F (nat_lit 56)) .nil .nil) .nil)) (.node (L2 (nat_lit 111)) (.node (L2 (nat_lit 175)) (.node (L3 (nat_lit 303)) .nil .nil) (.node (L3 (nat_lit 431)) .nil .nil)) (.node (L2 (nat_lit 239)) (.node (L3 (nat_lit 367)) .nil .nil) .nil)))) (.node (L1 (nat_lit 23)) (.node (z) (.node (L1 (nat_lit 71)) (.node (F (nat_lit 23)) (.node (L2 (nat_lit 263)) .nil .nil) (.node (F (nat_lit 68)) .nil .nil)) (.node (X (nat_lit 7)) (.node (F (nat_lit 53)) .nil .nil) (.node (L3 (nat_lit 455)) .nil .nil))) (.node (z) (.node (L2 (nat_lit 167)) (.node (X (nat_lit 23)) .nil .nil) (.node (F (nat_lit 77)) .nil .nil)) (.node (L2 (nat_lit 231)) (.node (L3 (nat_lit 359)) .nil .nil) .nil))) (.node (F (nat_lit 7)) (.node (z) (.node (L2 (nat_lit 151)) (.node (L2 (nat_lit 279)) .nil .nil) (.node (z) .nil .nil)) (.node (L2 (nat_lit 215)) (.node (L3 (nat_lit 343)) .nil .nil) .nil)) (.node (L2 (nat_lit 119)) (.node (L2 (nat_lit 183)) (.node (L3 (nat_lit 311)) .nil .nil) (.node (L3 (nat_lit 439)) .nil .nil)) (.node (L2 (nat_lit 247)) (.node (L3 (nat_lit 375)) .nil .nil) .nil))))) (.node (L1 (nat_lit 11)) (.node (L1 (nat_lit 19)) (.node (L1 (nat_lit 35)) (.node (F (nat_lit 9)) (.node (z) (.node (F (nat_lit 43)) .nil .nil) (.node (L3 (nat_lit 387)) .nil .nil)) (.node (L2 (nat_lit 195)) (.node (z) .nil .nil) (.node (L3 (nat_lit 451)) .nil .nil))) (.node (L2 (nat_lit 99)) (.node (F (nat_lit 31)) (.node (L2 (nat_lit 291)) .nil .nil) (.node (X (nat_lit 29)) .nil .nil)) (.node (X (nat_lit 11)) (.node (X (nat_lit 26)) .nil .nil) .nil))) (.node (z) (.node (L1 (nat_lit 83)) (.node (L2 (nat_lit 147)) (.node (L2 (nat_lit 275)) .nil .nil) (.node (L3 (nat_lit 403)) .nil .nil)) (.node (F (nat_lit 40)) (.node (L3 (nat_lit 339)) .nil .nil) .nil)) (.node (F (nat_lit 18)) (.node (L2 (nat_lit 179)) (.node (L3 (nat_lit 307)) .nil .nil) (.node (L3 (nat_lit 435)) .nil .nil)) (.node (F (nat_lit 41)) (.node (L3 (nat_lit 371)) .nil .nil) .nil)))) (.node (L1 (nat_lit 27)) (.node (F (nat_lit 5)) (.node (z) (.node (L2 (nat_lit 139)) (.node (F (nat_lit 46)) .nil .nil) (.node (F (nat_lit 71)) .nil .nil)) (.node (L2 (nat_lit 203)) (.node (L3 (nat_lit 331)) .nil .nil) (.node (L3 (nat_lit 459)) .nil .nil))) (.node (F (nat_lit 15)) (.node (F (nat_lit 34)) (.node (L2 (nat_lit 299)) .nil .nil) (.node (L3 (nat_lit 427)) .nil .nil)) (.node (L2 (nat_lit 235)) (.node (F (nat_lit 60)) .nil .nil) .nil))) (.node (L1 (nat_lit 59)) (.node (F (nat_lit 13)) (.node (L2 (nat_lit 155)) (.node (z) .nil .nil) (.node (F (nat_lit 73)) .nil .nil)) (.node (L2 (nat_lit 219)) (.node (L3 (nat_lit 347)) .nil .nil) .nil)) (.node (L2 (nat_lit 123)) (.node (z) (.node (L3 (nat_lit 315)) .nil .nil) (.node (L3 (nat_lit 443)) .nil .nil)) (.node (L2 (nat_lit 251)) (.node (z) .nil .nil) .nil)))))) (.node (B (nat_lit 5)) (.node (B (nat_lit 9)) (.node (L1 (nat_lit 17)) (.node (L1 (nat_lit 33)) (.node (L1 (nat_lit 65)) (.node (F (nat_lit 22)) (.node (L2 (nat_lit 257)) .nil .nil) (.node (L3 (nat_lit 385)) .nil .nil)) (.node (L2 (nat_lit 193)) (.node (F (nat_lit 52)) .nil .nil) (.node (z) .nil .nil))) (.node (L2 (nat_lit 97)) (.node (L2 (nat_lit 161)) (.node (L2 (nat_lit 289)) .nil .nil) (.node (L3 (nat_lit 417)) .nil .nil)) (.node (L2 (nat_lit 225)) (.node (L3 (nat_lit 353)) .nil .nil) .nil))) (.node (L1 (nat_lit 49)) (.node (L1 (nat_lit 81)) (.node (z) (.node (X (nat_lit 16)) .nil .nil) (.node (L3 (nat_lit 401)) .nil .nil)) (.node (F (nat_lit 38)) (.node (z) .nil .nil) .nil)) (.node (L2 (nat_lit 113)) (.node (L2 (nat_lit 177)) (.node (L3 (nat_lit 305)) .nil .nil) (.node (F (nat_lit 80)) .nil .nil)) (.node (X (nat_lit 15)) (.node (F (nat_lit 61)) .nil .nil) .nil)))) (.node (L1 (nat_lit 25)) (.node (L1 (nat_lit 41)) (.node (L1 (nat_lit 73)) (.node (L2 (nat_lit 137)) (.node (L2 (nat_lit 265)) .nil .nil) (.node (F (nat_lit 69)) .nil .nil)) (.node (z) (.node (L3 (nat_lit 329)) .nil .nil) (.node (F (nat_lit 86)) .nil .nil))) (.node (L2 (nat_lit 105)) (.node (L2 (nat_lit 169)) (.node (F (nat_lit 47)) .nil .nil) (.node (L3 (nat_lit 425)) .nil .nil)) (.node (X (nat_lit 12)) (.node (L3 (nat_lit 361)) .nil .nil) .nil))) (.node (L1 (nat_lit 57)) (.node (L1 (nat_lit 89)) (.node (L2 (nat_lit 153)) (.node (X (nat_lit 19)) .nil .nil) (.node (L3 (nat_lit 409)) .nil .nil)) (.node (L2 (nat_lit 217)) (.node (L3 (nat_lit 345)) .nil .nil) .nil)) (.node (F (nat_lit 19)) (.node (F (nat_lit 36)) (.node (F (nat_lit 49)) .nil .nil) (.node (L3 (nat_lit 441)) .nil .nil)) (.node (L2 (nat_lit 249)) (.node (F (nat_lit 64)) .nil .nil) .nil))))) (.node (c) (.node (X (nat_lit 1)) (.node (L1 (nat_lit 37)) (.node (L1 (nat_lit 69)) (.node (L2 (nat_lit 133)) (.node (L2 (nat_lit 261)) .nil .nil) (.node (L3 (nat_lit 389)) .nil .nil)) (.node (L2 (nat_lit 197)) (.node (L3 (nat_lit 325)) .nil .nil) (.node (F (nat_lit 83)) .nil .nil))) (.node (X (nat_lit 3)) (.node (L2 (nat_lit 165)) (.node (L2 (nat_lit 293)) .nil .nil) (.node (F (nat_lit 75)) .nil .nil)) (.node (z) (.node (L3 (nat_lit 357)) .nil .nil) .nil))) (.node (L1 (nat_lit 53)) (.node (L1 (nat_lit 85)) (.node (F (nat_lit 27)) (.node (L2 (nat_lit 277)) .nil .nil) (.node (L3 (nat_lit 405)) .nil .nil)) (.node (L2 (nat_lit 213)) (.node (F (nat_lit 57)) .nil .nil) .nil)) (.node (z) (.node (L2 (nat_lit 181)) (.node (z) .nil .nil) (.node (L3 (nat_lit 437)) .nil .nil)) (.node (L2 (nat_lit 245)) (.node (L3 (nat_lit 373)) .nil .nil) .nil)))) (.node (L1 (nat_lit 29)) (.node (L1 (nat_lit 45)) (.node (L1 (nat_lit 77)) (.node (L2 (nat_lit 141)) (.node (z) .nil .nil) (.node (L3 (nat_lit 397)) .nil .nil)) (.node (X (nat_lit 8)) (.node (L3 (nat_lit 333)) .nil .nil) .nil)) (.node (L2 (nat_lit 109)) (.node (L2 (nat_lit 173)) (.node (L3 (nat_lit 301)) .nil .nil) (.node (L3 (nat_lit 429)) .nil .nil)) (.node (L2 (nat_lit 237)) (.node (z) .nil .nil) .nil))) (.node (L1 (nat_lit 61)) (.node (L1 (nat_lit 93)) (.node (F (nat_lit 30)) (.node (L2 (nat_lit 285)) .nil .nil) (.node (L3 (nat_lit 413)) .nil .nil)) (.node (L2 (nat_lit 221)) (.node (X (nat_lit 25)) .nil .nil) .nil)) (.node (L2 (nat_lit 125)) (.node (L2 (nat_lit 189)) (.node (L3 (nat_lit 317)) .nil .nil) (.node (L3 (nat_lit 445)) .nil .nil)) (.node (L2 (nat_lit 253)) (.node (L3 (nat_lit 381)) .nil .nil) .nil))))))) (.node (F (nat_lit 0)) (.node (B (nat_lit 4)) (.node (B (nat_lit 8)) (.node (z) (.node (F (nat_lit 4)) (.node (L1 (nat_lit 64)) (.node (F (nat_lit 21)) (.node (L2 (nat_lit 256)) .nil .nil) (.node (F (nat_lit 66)) .nil .nil)) (.node (X (nat_lit 5)) (.node (F (nat_lit 51)) .nil .nil) (.node (L3 (nat_lit 448)) .nil .nil))) (.node (z) (.node (L2 (nat_lit 160)) (.node (X (nat_lit 21)) .nil .nil) (.node (L3 (nat_lit 416)) .nil .nil)) (.node (L2 (nat_lit 224)) (.node (L3 (nat_lit 352)) .nil .nil) .nil))) (.node (L1 (nat_lit 48)) (.node (F (nat_lit 12)) (.node (L2 (nat_lit 144)) (.node (L2 (nat_lit 272)) .nil .nil) (.node (L3 (nat_lit 400)) .nil .nil)) (.node (F (nat_lit 37)) (.node (L3 (nat_lit 336)) .nil .nil) .nil)) (.node (L2 (nat_lit 112)) (.node (L2 (nat_lit 176)) (.node (L3 (nat_lit 304)) .nil .nil) (.node (F (nat_lit 79)) .nil .nil)) (.node (X (nat_lit 14)) (.node (L3 (nat_lit 368)) .nil .nil) .nil)))) (.node (L1 (nat_lit 24)) (.node (L1 (nat_lit 40)) (.node (L1 (nat_lit 72)) (.node (F (nat_lit 24)) (.node (L2 (nat_lit 264)) .nil .nil) (.node (L3 (nat_lit 392)) .nil .nil)) (.node (L2 (nat_lit 200)) (.node (F (nat_lit 54)) .nil .nil) (.node (F (nat_lit 85)) .nil .nil))) (.node (L2 (nat_lit 104)) (.node (L2 (nat_lit 168)) (.node (L2 (nat_lit 296)) .nil .nil) (.node (F (nat_lit 78)) .nil .nil)) (.node (L2 (nat_lit 232)) (.node (L3 (nat_lit 360)) .nil .nil) .nil))) (.node (F (nat_lit 8)) (.node (L1 (nat_lit 88)) (.node (z) (.node (X (nat_lit 18)) .nil .nil) (.node (L3 (nat_lit 408)) .nil .nil)) (.node (L2 (nat_lit 216)) (.node (z) .nil .nil) .nil)) (.node (L2 (nat_lit 120)) (.node (F (nat_lit 35)) (.node (L3 (nat_lit 312)) .nil .nil) (.node (L3 (nat_lit 440)) .nil .nil)) (.node (L2 (nat_lit 248)) (.node (F (nat_lit 63)) .nil .nil) .nil))))) (.node (r) (.node (X (nat_lit 0)) (.node (L1 (nat_lit 36)) (.node (F (nat_lit 10)) (.node (L2 (nat_lit 132)) (.node (F (nat_lit 44)) .nil .nil) (.node (L3 (nat_lit 388)) .nil .nil)) (.node (L2 (nat_lit 196)) (.node (L3 (nat_lit 324)) .nil .nil) (.node (L3 (nat_lit 452)) .nil .nil))) (.node (X (nat_lit 2)) (.node (F (nat_lit 32)) (.node (L2 (nat_lit 292)) .nil .nil) (.node (L3 (nat_lit 420)) .nil .nil)) (.node (L2 (nat_lit 228)) (.node (X (nat_lit 27)) .nil .nil) .nil))) (.node (L1 (nat_lit 52)) (.node (L1 (nat_lit 84)) (.node (L2 (nat_lit 148)) (.node (z) .nil .nil) (.node (L3 (nat_lit 404)) .nil .nil)) (.node (L2 (nat_lit 212)) (.node (L3 (nat_lit 340)) .nil .nil) .nil)) (.node (L2 (nat_lit 116)) (.node (z) (.node (L3 (nat_lit 308)) .nil .nil) (.node (L3 (nat_lit 436)) .nil .nil)) (.node (F (nat_lit 42)) (.node (z) .nil .nil) .nil)))) (.node (L1 (nat_lit 28)) (.node (F (nat_lit 6)) (.node (L1 (nat_lit 76)) (.node (L2 (nat_lit 140)) (.node (L2 (nat_lit 268)) .nil .nil) (.node (F (nat_lit 72)) .nil .nil)) (.node (L2 (nat_lit 204)) (.node (L3 (nat_lit 332)) .nil .nil) .nil)) (.node (F (nat_lit 16)) (.node (L2 (nat_lit 172)) (.node (L2 (nat_lit 300)) .nil .nil) (.node (z) .nil .nil)) (.node (z) (.node (L3 (nat_lit 364)) .nil .nil) .nil))) (.node (L1 (nat_lit 60)) (.node (F (nat_lit 14)) (.node (F (nat_lit 29)) (.node (L2 (nat_lit 284)) .nil .nil) (.node (F (nat_lit 74)) .nil .nil)) (.node (L2 (nat_lit 220)) (.node (X (nat_lit 24)) .nil .nil) .nil)) (.node (z) (.node (L2 (nat_lit 188)) (.node (z) .nil .nil) (.node (L3 (nat_lit 444)) .nil .nil)) (.node (L2 (nat_lit 252)) (.node (L3 (nat_lit 380)) .nil .nil) .nil)))))) (.node (B (nat_lit 6)) (.node (B (nat_lit 10)) (.node (L1 (nat_lit 18)) (.node (L1 (nat_lit 34)) (.node (L1 (nat_lit 66)) (.node (L2 (nat_lit 130)) (.node (L2 (nat_lit 258)) .nil .nil) (.node (z) .nil .nil)) (.node (z) (.node (L3 (nat_lit 322)) .nil .nil) (.node (L3 (nat_lit 450)) .nil .nil))) (.node (L2 (nat_lit 98)) (.node (L2 (nat_lit 162)) (.node (z) .nil .nil) (.node (X (nat_lit 28)) .nil .nil)) (.node (X (nat_lit 10)) (.node (L3 (nat_lit 354)) .nil .nil) .nil))) (.node (L1 (nat_lit 50)) (.node (L1 (nat_lit 82)) (.node (L2 (nat_lit 146)) (.node (X (nat_lit 17)) .nil .nil) (.node (L3 (nat_lit 402)) .nil .nil)) (.node (F (nat_lit 39)) (.node (L3 (nat_lit 338)) .nil .nil) .nil)) (.node (F (nat_lit 17)) (.node (L2 (nat_lit 178)) (.node (L3 (nat_lit 306)) .nil .nil) (.node (L3 (nat_lit 434)) .nil .nil)) (.node (L2 (nat_lit 242)) (.node (F (nat_lit 62)) .nil .nil) .nil)))) (.node (z) (.node (L1 (nat_lit 42)) (.node (L1 (nat_lit 74)) (.node (z) (.node (F (nat_lit 45)) .nil .nil) (.node (F (nat_lit 70)) .nil .nil)) (.node (L2 (nat_lit 202)) (.node (z) .nil .nil) (.node (L3 (nat_lit 458)) .nil .nil))) (.node (L2 (nat_lit 106)) (.node (F (nat_lit 33)) (.node (F (nat_lit 48)) .nil .nil) (.node (L3 (nat_lit 426)) .nil .nil)) (.node (X (nat_lit 13)) (.node (F (nat_lit 59)) .nil .nil) .nil))) (.node (L1 (nat_lit 58)) (.node (L1 (nat_lit 90)) (.node (L2 (nat_lit 154)) (.node (L2 (nat_lit 282)) .nil .nil) (.node (L3 (nat_lit 410)) .nil .nil)) (.node (L2 (nat_lit 218)) (.node (L3 (nat_lit 346)) .nil .nil) .nil)) (.node (F (nat_lit 20)) (.node (L2 (nat_lit 186)) (.node (F (nat_lit 50)) .nil .nil) (.node (z) .nil .nil)) (.node (L2 (nat_lit 250)) (.node (L3 (nat_lit 378)) .nil .nil) .nil))))) (.node (L1 (nat_lit 14)) (.node (L1 (nat_lit 22)) (.node (L1 (nat_lit 38)) (.node (L1 (nat_lit 70)) (.node (L2 (nat_lit 134)) (.node (z) .nil .nil) (.node (F (nat_lit 67)) .nil .nil)) (.node (X (nat_lit 6)) (.node (L3 (nat_lit 326)) .nil .nil) (.node (F (nat_lit 84)) .nil .nil))) (.node (L2 (nat_lit 102)) (.node (z) (.node (X (nat_lit 22)) .nil .nil) (.node (F (nat_lit 76)) .nil .nil)) (.node (L2 (nat_lit 230)) (.node (z) .nil .nil) .nil))) (.node (L1 (nat_lit 54)) (.node (L1 (nat_lit 86)) (.node (F (nat_lit 28)) (.node (L2 (nat_lit 278)) .nil .nil) (.node (L3 (nat_lit 406)) .nil .nil)) (.node (L2 (nat_lit 214)) (.node (F (nat_lit 58)) .nil .nil) .nil)) (.node (L2 (nat_lit 118)) (.node (L2 (nat_lit 182)) (.node (L3 (nat_lit 310)) .nil .nil) (.node (L3 (nat_lit 438)) .nil .nil)) (.node (L2 (nat_lit 246)) (.node (L3 (nat_lit 374)) .nil .nil) .nil)))) (.node (F (nat_lit 2)) (.node (L1 (nat_lit 46)) (.node (L1 (nat_lit 78)) (.node (F (nat_lit 25)) (.node (L2 (nat_lit 270)) .nil .nil) (.node (L3 (nat_lit 398)) .nil .nil)) (.node (X (nat_lit 9)) (.node (F (nat_lit 55)) .nil .nil) .nil)) (.node (z) (.node (L2 (nat_lit 174)) (.node (L3 (nat_lit 302)) .nil .nil) (.node (L3 (nat_lit 430)) .nil .nil)) (.node (L2 (nat_lit 238)) (.node (L3 (nat_lit 366)) .nil .nil) .nil))) (.node (L1 (nat_lit 62)) (.node (L1 (nat_lit 94)) (.node (L2 (nat_lit 158)) (.node (L2 (nat_lit 286)) .nil .nil) (.node (z) .nil .nil)) (.node (z) (.node (L3 (nat_lit 350)) .nil .nil) .nil)) (.node (L2 (nat_lit 126)) (.node (L2 (nat_lit 190)) (.node (L3 (nat_lit 318)) .nil .nil) (.node (F (nat_lit 81)) .nil .nil)) (.node (L2 (nat_lit 254)) (.node (L3 (nat_lit 382)) .nil .nil) .nil)))))))
noncomputable def S3 (w : World) (os : OsState) : SharedT := ⟨tr3 (oF w) (oB w) oX (cellR (run1 w os)) (cellR (run2 w os)) (cellR (run3 w os)) (cutD (oF w 1) 41 (.str (Str.ofString "raftkeep.versions") 681)) (regO [(1, 20), (5, 27), (7, 40), (9, 52), (11, 64), (13, 76), (15, 88), (20, 100), (29, 107), (33, 114), (37, 121), (41, 128), (45, 135), (55, 142), (61, 149), (63, 156), (70, 163), (74, 170), (78, 177), (95, 219), (105, 252), (134, 306), (187, 404), (197, 432), (207, 439)]) codeO nilO, 460, {}, Array.mk [], boot_drawn, 769, os⟩
theorem run3_eq : ∀ (w : World) (os : OsState), run3 w os = some (.next, S3 w os, cE, ⟨207, 0, 213, 46⟩) := fun w os => by kernel_rfl
noncomputable def l4 : List Stmt := (body0.drop 37).take 10
noncomputable def run4 (w : World) (os : OsState) : Option (Flow × SharedT × Code × Pos) := PySem.W.Fast.tw10110043849684766642 PySem.W.Fast.tw14364793385576792824 PySem.Challenge.pw_no0418_01 w 11 (some (.ref 6)) 1 793 (S3 w os) ⟨(PySem.W.Fast.tw12563942051412417395 l4 env0).wrap doneF deadEnd id id, cE, ⟨207, 0, 213, 46⟩, B0⟩
noncomputable def tr4 (F B X L1 L2 L3 L4 : Nat → Obj) (r c z : Obj) : BT := .node (B (nat_lit 0)) (.node (B (nat_lit 1)) (.node (F (nat_lit 1)) (.node (B (nat_lit 7)) (.node (L1 (nat_lit 15)) (.node (F (nat_lit 3)) (.node (z) (.node (L2 (nat_lit 127)) (.node (z) (.node (L4 (nat_lit 511)) .nil .nil) .nil) (.node (F (nat_lit 65)) .nil .nil)) (.node (X (nat_lit 4)) (.node (L3 (nat_lit 319)) (.node (F (nat_lit 109)) .nil .nil) .nil) (.node (F (nat_lit 82)) .nil .nil))) (.node (L2 (nat_lit 95)) (.node (z) (.node (X (nat_lit 20)) (.node (L4 (nat_lit 543)) .nil .nil) .nil) (.node (L3 (nat_lit 415)) .nil .nil)) (.node (L2 (nat_lit 223)) (.node (z) .nil .nil) (.node (X (nat_lit 30)) .nil .nil)))) (.node (L1 (nat_lit 47)) (.node (F (nat_lit 11)) (.node (F (nat_lit 26)) (.node (L2 (nat_lit 271)) (.node (L4 (nat_lit 527)) .nil .nil) .nil) (.node (L3 (nat_lit 399)) .nil .nil)) (.node (L2 (nat_lit 207)) (.node (F (nat_lit 56)) (.node (L4 (nat_lit 591)) .nil .nil) .nil) (.node (L4 (nat_lit 463)) .nil .nil))) (.node (L2 (nat_lit 111)) (.node (L2 (nat_lit 175)) (.node (L3 (nat_lit 303)) (.node (z) .nil .nil) .nil) (.node (L3 (nat_lit 431)) .nil .nil)) (.node (L2 (nat_lit 239)) (.node (L3 (nat_lit 367)) .nil .nil) (.node (L4 (nat_lit 495)) .nil .nil))))) (.node (L1 (nat_lit 23)) (.node (z) (.node (L1 (nat_lit 71)) (.node (F (nat_lit 23)) (.node (L2 (nat_lit 263)) (.node (L4 (nat_lit 519)) .nil .nil) .nil) (.node (F (nat_lit 68)) .nil .nil)) (.node (X (nat_lit 7)) (.node (F (nat_lit 53)) (.node (F (nat_lit 112)) .nil .nil) .nil) (.node (L3 (nat_lit 455)) .nil .nil))) (.node (z) (.node (L2 (nat_lit 167)) (.node (X (nat_lit 23)) (.node (L4 (nat_lit 551)) .nil .nil) .nil) (.node (F (nat_lit 77)) .nil .nil)) (.node (L2 (nat_lit 231)) (.node (L3 (nat_lit 359)) .nil .nil) (.node (F (nat_lit 90)) .nil .nil)))) (.node (F (nat_lit 7)) (.node (z) (.node (L2 (nat_lit 151)) (.node (L2 (nat_lit 279)) (.node (F (nat_lit 95)) .nil .nil) .nil) (.node (z) .nil .nil)) (.node (L2 (nat_lit 215)) (.node (L3 (nat_lit 343)) .nil .nil) (.node (L4 (nat_lit 471)) .nil .nil))) (.node (L2 (nat_lit 119)) (.node (L2 (nat_lit 183)) (.node (L3 (nat_lit 311)) (.node (L4 (nat_lit 567)) .nil .nil) .nil) (.node (L3 (nat_lit 439)) .nil .nil)) (.node (L2 (nat_lit 247)) (.node (L3 (nat_lit 375)) .nil .nil) (.node (z) .nil .nil)))))) (.node (L1 (nat_lit 11)) (.node (L1 (nat_lit 19)) (.node (L1 (nat_lit 35)) (.node (F (nat_lit 9)) (.node (z) (.node (F (nat_lit 43)) (.node (X (nat_lit 37)) .nil .nil) .nil) (.node (L3 (nat_lit 387)) .nil .nil)) (.node (L2 (nat_lit 195)) (.node (z) (.node (L4 (nat_lit 579)) .nil .nil) .nil) (.node (L3 (nat_lit 451)) .nil .nil))) (.node (L2 (nat_lit 99)) (.node (F (nat_lit 31)) (.node (L2 (nat_lit 291)) (.node (L4 (nat_lit 547)) .nil .nil) .nil) (.node (X (nat_lit 29)) .nil .nil)) (.node (X (nat_lit 11)) (.node (X (nat_lit 26)) .nil .nil) (.node (L4 (nat_lit 483)) .nil .nil)))) (.node (z) (.node (L1 (nat_lit 83)) (.node (L2 (nat_lit 147)) (.node (L2 (nat_lit 275)) (.node (z) .nil .nil) .nil) (.node (L3 (nat_lit 403)) .nil .nil)) (.node (F (nat_lit 40)) (.node (L3 (nat_lit 339)) .nil .nil) (.node (L4 (nat_lit 467)) .nil .nil))) (.node (F (nat_lit 18)) (.node (L2 (nat_lit 179)) (.node (L3 (nat_lit 307)) (.node (F (nat_lit 105)) .nil .nil) .nil) (.node (L3 (nat_lit 435)) .nil .nil)) (.node (F (nat_lit 41)) (.node (L3 (nat_lit 371)) .nil .nil) (.node (L4 (nat_lit 499)) .nil .nil))))) (.node (L1 (nat_lit 27)) (.node (F (nat_lit 5)) (.node (z) (.node (L2 (nat_lit 139)) (.node (F (nat_lit 46)) (.node (L4 (nat_lit 523)) .nil .nil) .nil) (.node (F (nat_lit 71)) .nil .nil)) (.node (L2 (nat_lit 203)) (.node (L3 (nat_lit 331)) (.node (F (nat_lit 113)) .nil .nil) .nil) (.node (L3 (nat_lit 459)) .nil .nil))) (.node (F (nat_lit 15)) (.node (F (nat_lit 34)) (.node (L2 (nat_lit 299)) (.node (L4 (nat_lit 555)) .nil .nil) .nil) (.node (L3 (nat_lit 427)) .nil .nil)) (.node (L2 (nat_lit 235)) (.node (F (nat_lit 60)) .nil .nil) (.node (L4 (nat_lit 491)) .nil .nil)))) (.node (L1 (nat_lit 59)) (.node (F (nat_lit 13)) (.node (L2 (nat_lit 155)) (.node (z) (.node (F (nat_lit 98)) .nil .nil) .nil) (.node (F (nat_lit 73)) .nil .nil)) (.node (L2 (nat_lit 219)) (.node (L3 (nat_lit 347)) .nil .nil) (.node (z) .nil .nil))) (.node (L2 (nat_lit 123)) (.node (z) (.node (L3 (nat_lit 315)) (.node (F (nat_lit 108)) .nil .nil) .nil) (.node (L3 (nat_lit 443)) .nil .nil)) (.node (L2 (nat_lit 251)) (.node (z) .nil .nil) (.node (X (nat_lit 34)) .nil .nil))))))) (.node (B (nat_lit 5)) (.node (B (nat_lit 9)) (.node (L1 (nat_lit 17)) (.node (L1 (nat_lit 33)) (.node (L1 (nat_lit 65)) (.node (F (nat_lit 22)) (.node (L2 (nat_lit 257)) (.node (L4 (nat_lit 513)) .nil .nil) .nil) (.node (L3 (nat_lit 385)) .nil .nil)) (.node (L2 (nat_lit 193)) (.node (F (nat_lit 52)) (.node (L4 (nat_lit 577)) .nil .nil) .nil) (.node (z) .nil .nil))) (.node (L2 (nat_lit 97)) (.node (L2 (nat_lit 161)) (.node (L2 (nat_lit 289)) (.node (z) .nil .nil) .nil) (.node (L3 (nat_lit 417)) .nil .nil)) (.node (L2 (nat_lit 225)) (.node (L3 (nat_lit 353)) .nil .nil) (.node (L4 (nat_lit 481)) .nil .nil)))) (.node (L1 (nat_lit 49)) (.node (L1 (nat_lit 81)) (.node (z) (.node (X (nat_lit 16)) (.node (X (nat_lit 39)) .nil .nil) .nil) (.node (L3 (nat_lit 401)) .nil .nil)) (.node (F (nat_lit 38)) (.node (z) (.node (F (nat_lit 116)) .nil .nil) .nil) (.node (L4 (nat_lit 465)) .nil .nil))) (.node (L2 (nat_lit 113)) (.node (L2 (nat_lit 177)) (.node (L3 (nat_lit 305)) (.node (L4 (nat_lit 561)) .nil .nil) .nil) (.node (F (nat_lit 80)) .nil .nil)) (.node (X (nat_lit 15)) (.node (F (nat_lit 61)) .nil .nil) (.node (L4 (nat_lit 497)) .nil .nil))))) (.node (L1 (nat_lit 25)) (.node (L1 (nat_lit 41)) (.node (L1 (nat_lit 73)) (.node (L2 (nat_lit 137)) (.node (L2 (nat_lit 265)) (.node (F (nat_lit 93)) .nil .nil) .nil) (.node (F (nat_lit 69)) .nil .nil)) (.node (z) (.node (L3 (nat_lit 329)) (.node (z) .nil .nil) .nil) (.node (F (nat_lit 86)) .nil .nil))) (.node (L2 (nat_lit 105)) (.node (L2 (nat_lit 169)) (.node (F (nat_lit 47)) (.node (L4 (nat_lit 553)) .nil .nil) .nil) (.node (L3 (nat_lit 425)) .nil .nil)) (.node (X (nat_lit 12)) (.node (L3 (nat_lit 361)) .nil .nil) (.node (z) .nil .nil)))) (.node (L1 (nat_lit 57)) (.node (L1 (nat_lit 89)) (.node (L2 (nat_lit 153)) (.node (X (nat_lit 19)) (.node (L4 (nat_lit 537)) .nil .nil) .nil) (.node (L3 (nat_lit 409)) .nil .nil)) (.node (L2 (nat_lit 217)) (.node (L3 (nat_lit 345)) .nil .nil) (.node (F (nat_lit 88)) .nil .nil))) (.node (F (nat_lit 19)) (.node (F (nat_lit 36)) (.node (F (nat_lit 49)) (.node (L4 (nat_lit 569)) .nil .nil) .nil) (.node (L3 (nat_lit 441)) .nil .nil)) (.node (L2 (nat_lit 249)) (.node (F (nat_lit 64)) .nil .nil) (.node (L4 (nat_lit 505)) .nil .nil)))))) (.node (c) (.node (X (nat_lit 1)) (.node (L1 (nat_lit 37)) (.node (L1 (nat_lit 69)) (.node (L2 (nat_lit 133)) (.node (L2 (nat_lit 261)) (.node (z) .nil .nil) .nil) (.node (L3 (nat_lit 389)) .nil .nil)) (.node (L2 (nat_lit 197)) (.node (L3 (nat_lit 325)) (.node (L4 (nat_lit 581)) .nil .nil) .nil) (.node (F (nat_lit 83)) .nil .nil))) (.node (X (nat_lit 3)) (.node (L2 (nat_lit 165)) (.node (L2 (nat_lit 293)) (.node (F (nat_lit 101)) .nil .nil) .nil) (.node (F (nat_lit 75)) .nil .nil)) (.node (z) (.node (L3 (nat_lit 357)) .nil .nil) (.node (L4 (nat_lit 485)) .nil .nil)))) (.node (L1 (nat_lit 53)) (.node (L1 (nat_lit 85)) (.node (F (nat_lit 27)) (.node (L2 (nat_lit 277)) (.node (L4 (nat_lit 533)) .nil .nil) .nil) (.node (L3 (nat_lit 405)) .nil .nil)) (.node (L2 (nat_lit 213)) (.node (F (nat_lit 57)) .nil .nil) (.node (L4 (nat_lit 469)) .nil .nil))) (.node (z) (.node (L2 (nat_lit 181)) (.node (z) (.node (L4 (nat_lit 565)) .nil .nil) .nil) (.node (L3 (nat_lit 437)) .nil .nil)) (.node (L2 (nat_lit 245)) (.node (L3 (nat_lit 373)) .nil .nil) (.node (X (nat_lit 33)) .nil .nil))))) (.node (L1 (nat_lit 29)) (.node (L1 (nat_lit 45)) (.node (L1 (nat_lit 77)) (.node (L2 (nat_lit 141)) (.node (z) (.node (L4 (nat_lit 525)) .nil .nil) .nil) (.node (L3 (nat_lit 397)) .nil .nil)) (.node (X (nat_lit 8)) (.node (L3 (nat_lit 333)) (.node (L4 (nat_lit 589)) .nil .nil) .nil) (.node (L4 (nat_lit 461)) .nil .nil))) (.node (L2 (nat_lit 109)) (.node (L2 (nat_lit 173)) (.node (L3 (nat_lit 301)) (.node (F (nat_lit 104)) .nil .nil) .nil) (.node (L3 (nat_lit 429)) .nil .nil)) (.node (L2 (nat_lit 237)) (.node (z) .nil .nil) (.node (F (nat_lit 91)) .nil .nil)))) (.node (L1 (nat_lit 61)) (.node (L1 (nat_lit 93)) (.node (F (nat_lit 30)) (.node (L2 (nat_lit 285)) (.node (F (nat_lit 100)) .nil .nil) .nil) (.node (L3 (nat_lit 413)) .nil .nil)) (.node (L2 (nat_lit 221)) (.node (X (nat_lit 25)) .nil .nil) (.node (L4 (nat_lit 477)) .nil .nil))) (.node (L2 (nat_lit 125)) (.node (L2 (nat_lit 189)) (.node (L3 (nat_lit 317)) (.node (z) .nil .nil) .nil) (.node (L3 (nat_lit 445)) .nil .nil)) (.node (L2 (nat_lit 253)) (.node (L3 (nat_lit 381)) .nil .nil) (.node (L4 (nat_lit 509)) .nil .nil)))))))) (.node (F (nat_lit 0)) (.node (B (nat_lit 4)) (.node (B (nat_lit 8)) (.node (z) (.node (F (nat_lit 4)) (.node (L1 (nat_lit 64)) (.node (F (nat_lit 21)) (.node (L2 (nat_lit 256)) (.node (L4 (nat_lit 512)) .nil .nil) .nil) (.node (F (nat_lit 66)) .nil .nil)) (.node (X (nat_lit 5)) (.node (F (nat_lit 51)) (.node (F (nat_lit 110)) .nil .nil) .nil) (.node (L3 (nat_lit 448)) .nil .nil))) (.node (z) (.node (L2 (nat_lit 160)) (.node (X (nat_lit 21)) (.node (L4 (nat_lit 544)) .nil .nil) .nil) (.node (L3 (nat_lit 416)) .nil .nil)) (.node (L2 (nat_lit 224)) (.node (L3 (nat_lit 352)) .nil .nil) (.node (X (nat_lit 31)) .nil .nil)))) (.node (L1 (nat_lit 48)) (.node (F (nat_lit 12)) (.node (L2 (nat_lit 144)) (.node (L2 (nat_lit 272)) (.node (X (nat_lit 38)) .nil .nil) .nil) (.node (L3 (nat_lit 400)) .nil .nil)) (.node (F (nat_lit 37)) (.node (L3 (nat_lit 336)) (.node (F (nat_lit 115)) .nil .nil) .nil) (.node (L4 (nat_lit 464)) .nil .nil))) (.node (L2 (nat_lit 112)) (.node (L2 (nat_lit 176)) (.node (L3 (nat_lit 304)) (.node (L4 (nat_lit 560)) .nil .nil) .nil) (.node (F (nat_lit 79)) .nil .nil)) (.node (X (nat_lit 14)) (.node (L3 (nat_lit 368)) .nil .nil) (.node (z) .nil .nil))))) (.node (L1 (nat_lit 24)) (.node (L1 (nat_lit 40)) (.node (L1 (nat_lit 72)) (.node (F (nat_lit 24)) (.node (L2 (nat_lit 264)) (.node (L4 (nat_lit 520)) .nil .nil) .nil) (.node (L3 (nat_lit 392)) .nil .nil)) (.node (L2 (nat_lit 200)) (.node (F (nat_lit 54)) (.node (L4 (nat_lit 584)) .nil .nil) .nil) (.node (F (nat_lit 85)) .nil .nil))) (.node (L2 (nat_lit 104)) (.node (L2 (nat_lit 168)) (.node (L2 (nat_lit 296)) (.node (z) .nil .nil) .nil) (.node (F (nat_lit 78)) .nil .nil)) (.node (L2 (nat_lit 232)) (.node (L3 (nat_lit 360)) .nil .nil) (.node (L4 (nat_lit 488)) .nil .nil)))) (.node (F (nat_lit 8)) (.node (L1 (nat_lit 88)) (.node (z) (.node (X (nat_lit 18)) (.node (F (nat_lit 96)) .nil .nil) .nil) (.node (L3 (nat_lit 408)) .nil .nil)) (.node (L2 (nat_lit 216)) (.node (z) .nil .nil) (.node (F (nat_lit 87)) .nil .nil))) (.node (L2 (nat_lit 120)) (.node (F (nat_lit 35)) (.node (L3 (nat_lit 312)) (.node (L4 (nat_lit 568)) .nil .nil) .nil) (.node (L3 (nat_lit 440)) .nil .nil)) (.node (L2 (nat_lit 248)) (.node (F (nat_lit 63)) .nil .nil) (.node (L4 (nat_lit 504)) .nil .nil)))))) (.node (r) (.node (X (nat_lit 0)) (.node (L1 (nat_lit 36)) (.node (F (nat_lit 10)) (.node (L2 (nat_lit 132)) (.node (F (nat_lit 44)) (.node (L4 (nat_lit 516)) .nil .nil) .nil) (.node (L3 (nat_lit 388)) .nil .nil)) (.node (L2 (nat_lit 196)) (.node (L3 (nat_lit 324)) (.node (L4 (nat_lit 580)) .nil .nil) .nil) (.node (L3 (nat_lit 452)) .nil .nil))) (.node (X (nat_lit 2)) (.node (F (nat_lit 32)) (.node (L2 (nat_lit 292)) (.node (L4 (nat_lit 548)) .nil .nil) .nil) (.node (L3 (nat_lit 420)) .nil .nil)) (.node (L2 (nat_lit 228)) (.node (X (nat_lit 27)) .nil .nil) (.node (L4 (nat_lit 484)) .nil .nil)))) (.node (L1 (nat_lit 52)) (.node (L1 (nat_lit 84)) (.node (L2 (nat_lit 148)) (.node (z) (.node (L4 (nat_lit 532)) .nil .nil) .nil) (.node (L3 (nat_lit 404)) .nil .nil)) (.node (L2 (nat_lit 212)) (.node (L3 (nat_lit 340)) .nil .nil) (.node (z) .nil .nil))) (.node (L2 (nat_lit 116)) (.node (z) (.node (L3 (nat_lit 308)) (.node (F (nat_lit 106)) .nil .nil) .nil) (.node (L3 (nat_lit 436)) .nil .nil)) (.node (F (nat_lit 42)) (.node (z) .nil .nil) (.node (X (nat_lit 32)) .nil .nil))))) (.node (L1 (nat_lit 28)) (.node (F (nat_lit 6)) (.node (L1 (nat_lit 76)) (.node (L2 (nat_lit 140)) (.node (L2 (nat_lit 268)) (.node (z) .nil .nil) .nil) (.node (F (nat_lit 72)) .nil .nil)) (.node (L2 (nat_lit 204)) (.node (L3 (nat_lit 332)) (.node (F (nat_lit 114)) .nil .nil) .nil) (.node (L4 (nat_lit 460)) .nil .nil))) (.node (F (nat_lit 16)) (.node (L2 (nat_lit 172)) (.node (L2 (nat_lit 300)) (.node (F (nat_lit 103)) .nil .nil) .nil) (.node (z) .nil .nil)) (.node (z) (.node (L3 (nat_lit 364)) .nil .nil) (.node (L4 (nat_lit 492)) .nil .nil)))) (.node (L1 (nat_lit 60)) (.node (F (nat_lit 14)) (.node (F (nat_lit 29)) (.node (L2 (nat_lit 284)) (.node (F (nat_lit 99)) .nil .nil) .nil) (.node (F (nat_lit 74)) .nil .nil)) (.node (L2 (nat_lit 220)) (.node (X (nat_lit 24)) .nil .nil) (.node (L4 (nat_lit 476)) .nil .nil))) (.node (z) (.node (L2 (nat_lit 188)) (.node (z) (.node (L4 (nat_lit 572)) .nil .nil) .nil) (.node (L3 (nat_lit 444)) .nil .nil)) (.node (L2 (nat_lit 252)) (.node (L3 (nat_lit 380)) .nil .nil) (.node (X (nat_lit 35)) .nil .nil))))))) (.node (B (nat_lit 6)) (.node (B (nat_lit 10)) (.node (L1 (nat_lit 18)) (.node (L1 (nat_lit 34)) (.node (L1 (nat_lit 66)) (.node (L2 (nat_lit 130)) (.node (L2 (nat_lit 258)) (.node (X (nat_lit 36)) .nil .nil) .nil) (.node (z) .nil .nil)) (.node (z) (.node (L3 (nat_lit 322)) (.node (z) .nil .nil) .nil) (.node (L3 (nat_lit 450)) .nil .nil))) (.node (L2 (nat_lit 98)) (.node (L2 (nat_lit 162)) (.node (z) (.node (L4 (nat_lit 546)) .nil .nil) .nil) (.node (X (nat_lit 28)) .nil .nil)) (.node (X (nat_lit 10)) (.node (L3 (nat_lit 354)) .nil .nil) (.node (z) .nil .nil)))) (.node (L1 (nat_lit 50)) (.node (L1 (nat_lit 82)) (.node (L2 (nat_lit 146)) (.node (X (nat_lit 17)) (.node (L4 (nat_lit 530)) .nil .nil) .nil) (.node (L3 (nat_lit 402)) .nil .nil)) (.node (F (nat_lit 39)) (.node (L3 (nat_lit 338)) .nil .nil) (.node (L4 (nat_lit 466)) .nil .nil))) (.node (F (nat_lit 17)) (.node (L2 (nat_lit 178)) (.node (L3 (nat_lit 306)) (.node (L4 (nat_lit 562)) .nil .nil) .nil) (.node (L3 (nat_lit 434)) .nil .nil)) (.node (L2 (nat_lit 242)) (.node (F (nat_lit 62)) .nil .nil) (.node (L4 (nat_lit 498)) .nil .nil))))) (.node (z) (.node (L1 (nat_lit 42)) (.node (L1 (nat_lit 74)) (.node (z) (.node (F (nat_lit 45)) (.node (F (nat_lit 94)) .nil .nil) .nil) (.node (F (nat_lit 70)) .nil .nil)) (.node (L2 (nat_lit 202)) (.node (z) (.node (L4 (nat_lit 586)) .nil .nil) .nil) (.node (L3 (nat_lit 458)) .nil .nil))) (.node (L2 (nat_lit 106)) (.node (F (nat_lit 33)) (.node (F (nat_lit 48)) (.node (L4 (nat_lit 554)) .nil .nil) .nil) (.node (L3 (nat_lit 426)) .nil .nil)) (.node (X (nat_lit 13)) (.node (F (nat_lit 59)) .nil .nil) (.node (L4 (nat_lit 490)) .nil .nil)))) (.node (L1 (nat_lit 58)) (.node (L1 (nat_lit 90)) (.node (L2 (nat_lit 154)) (.node (L2 (nat_lit 282)) (.node (F (nat_lit 97)) .nil .nil) .nil) (.node (L3 (nat_lit 410)) .nil .nil)) (.node (L2 (nat_lit 218)) (.node (L3 (nat_lit 346)) .nil .nil) (.node (L4 (nat_lit 474)) .nil .nil))) (.node (F (nat_lit 20)) (.node (L2 (nat_lit 186)) (.node (F (nat_lit 50)) (.node (F (nat_lit 107)) .nil .nil) .nil) (.node (z) .nil .nil)) (.node (L2 (nat_lit 250)) (.node (L3 (nat_lit 378)) .nil .nil) (.node (L4 (nat_lit 506)) .nil .nil)))))) (.node (L1 (nat_lit 14)) (.node (L1 (nat_lit 22)) (.node (L1 (nat_lit 38)) (.node (L1 (nat_lit 70)) (.node (L2 (nat_lit 134)) (.node (z) (.node (L4 (nat_lit 518)) .nil .nil) .nil) (.node (F (nat_lit 67)) .nil .nil)) (.node (X (nat_lit 6)) (.node (L3 (nat_lit 326)) (.node (F (nat_lit 111)) .nil .nil) .nil) (.node (F (nat_lit 84)) .nil .nil))) (.node (L2 (nat_lit 102)) (.node (z) (.node (X (nat_lit 22)) (.node (F (nat_lit 102)) .nil .nil) .nil) (.node (F (nat_lit 76)) .nil .nil)) (.node (L2 (nat_lit 230)) (.node (z) .nil .nil) (.node (F (nat_lit 89)) .nil .nil)))) (.node (L1 (nat_lit 54)) (.node (L1 (nat_lit 86)) (.node (F (nat_lit 28)) (.node (L2 (nat_lit 278)) (.node (L4 (nat_lit 534)) .nil .nil) .nil) (.node (L3 (nat_lit 406)) .nil .nil)) (.node (L2 (nat_lit 214)) (.node (F (nat_lit 58)) .nil .nil) (.node (L4 (nat_lit 470)) .nil .nil))) (.node (L2 (nat_lit 118)) (.node (L2 (nat_lit 182)) (.node (L3 (nat_lit 310)) (.node (z) .nil .nil) .nil) (.node (L3 (nat_lit 438)) .nil .nil)) (.node (L2 (nat_lit 246)) (.node (L3 (nat_lit 374)) .nil .nil) (.node (L4 (nat_lit 502)) .nil .nil))))) (.node (F (nat_lit 2)) (.node (L1 (nat_lit 46)) (.node (L1 (nat_lit 78)) (.node (F (nat_lit 25)) (.node (L2 (nat_lit 270)) (.node (L4 (nat_lit 526)) .nil .nil) .nil) (.node (L3 (nat_lit 398)) .nil .nil)) (.node (X (nat_lit 9)) (.node (F (nat_lit 55)) (.node (z) .nil .nil) .nil) (.node (L4 (nat_lit 462)) .nil .nil))) (.node (z) (.node (L2 (nat_lit 174)) (.node (L3 (nat_lit 302)) (.node (L4 (nat_lit 558)) .nil .nil) .nil) (.node (L3 (nat_lit 430)) .nil .nil)) (.node (L2 (nat_lit 238)) (.node (L3 (nat_lit 366)) .nil .nil) (.node (F (nat_lit 92)) .nil .nil)))) (.node (L1 (nat_lit 62)) (.node (L1 (nat_lit 94)) (.node (L2 (nat_lit 158)) (.node (L2 (nat_lit 286)) (.node (L4 (nat_lit 542)) .nil .nil) .nil) (.node (z) .nil .nil)) (.node (z) (.node (L3 (nat_lit 350)) .nil .nil) (.node (L4 (nat_lit 478)) .nil .nil))) (.node (L2 (nat_lit 126)) (.node (L2 (nat_lit 190)) (.node (L3 (nat_lit 318)) (.node (L4 (nat_lit 574)) .nil .nil) .nil) (.node (F (nat_lit 81)) .nil .nil)) (.node (L2 (nat_lit 254)) (.node (L3 (nat_lit 382)) .nil .nil) (.node (z) .nil .nil))))))))
noncomputable def S4 (w : World) (os : OsState) : SharedT := ⟨tr4 (oF w) (oB w) oX (cellR (run1 w os)) (cellR (run2 w os)) (cellR (run3 w os)) (cellR (run4 w os)) (regO [(1, 20), (5, 27), (7, 40), (9, 52), (11, 64), (13, 76), (15, 88), (20, 100), (29, 107), (33, 114), (37, 121), (41, 128), (45, 135), (55, 142), (61, 149), (63, 156), (70, 163), (74, 170), (78, 177), (95, 219), (105, 252), (134, 306), (187, 404), (197, 432), (207, 439), (214, 465), (309, 549), (311, 556), (313, 563), (316, 570), (324, 575), (336, 582), (353, 587), (372, 592)]) codeO nilO, 594, {}, Array.mk [], boot_drawn, 975, os⟩
theorem run4_eq : ∀ (w : World) (os : OsState), run4 w os = some (.next, S4 w os, cE, ⟨372, 0, 457, 18⟩) := fun w os => by kernel_rfl
theorem fin_eq : ∀ (w : World) (os : OsState), PySem.W.Fast.tw14082659384304107361 PySem.W.Fast.tw14364793385576792824 PySem.Challenge.pw_no0418_01 w 11 (some (.ref 6)) 3 (S4 w os).abs ⟨doneF .next, cE, ⟨372, 0, 457, 18⟩, B0⟩ = some (S4 w os).abs := fun w os => by kernel_rfl
theorem k_statics : ∀ (w : World) (os : OsState), staticsOk (importedModules PySem.Challenge.pw_no0418_01.main.body) (boot_heap w.params) (S4 w os).abs.heap = true := fun w os => by kernel_rfl
theorem k_names : ∀ (w : World) (os : OsState), namesBound PySem.Challenge.pw_no0418_01 (S4 w os).abs.heap = true := fun w os => by kernel_rfl
theorem k_laid : ∀ (w : World) (os : OsState), laidKept (boot_heap w.params) (S4 w os).abs.heap = true := fun w os => by kernel_rfl
theorem k_ask : ∀ (w : World) (os : OsState), asK.map (S4 w os).abs.heap.get? = (heap_39 w.params).map fun p => some p.2 := fun w os => by kernel_rfl
noncomputable abbrev seenQ (w : World) (os : OsState) := PySem.W.Fast.tw4187177175401517315 view_39 [] (importedModules PySem.Challenge.pw_no0418_01.main.body) XT true (S4 w os).abs
theorem k_seen0 : ∀ (w : World) (os : OsState), (seenQ w os).1 = expectedOf view_39 := fun w os => by kernel_rfl
theorem k_seen1 : ∀ (w : World) (os : OsState), (seenQ w os).2.1 = bltViewBooted := fun w os => by kernel_rfl
theorem k_seen2 : ∀ (w : World) (os : OsState), (seenQ w os).2.2.1 = true := fun w os => by kernel_rfl
theorem k_seen3 : ∀ (w : World) (os : OsState), (seenQ w os).2.2.2.1 = true := fun w os => by kernel_rfl
theorem k_seen4 : ∀ (w : World) (os : OsState), (seenQ w os).2.2.2.2.1 = pinGoodD (drecsOf view_39) := fun w os => by kernel_rfl
theorem k_seen5 : ∀ (w : World) (os : OsState), (seenQ w os).2.2.2.2.2.1 = plainGoodE view_39 (looseW view_39 []) := fun w os => by kernel_rfl
theorem k_seen6 : ∀ (w : World) (os : OsState), (seenQ w os).2.2.2.2.2.2.1 = plainGoodD view_39 [] := fun w os => by kernel_rfl
theorem k_seen7 : ∀ (w : World) (os : OsState), (seenQ w os).2.2.2.2.2.2.2.1 = wideGood view_39 := fun w os => by kernel_rfl
theorem k_seen8 : ∀ (w : World) (os : OsState), (seenQ w os).2.2.2.2.2.2.2.2 = clsGoodW view_39 [] := fun w os => by kernel_rfl
theorem looks_eq : ∀ (w : World) (os : OsState), ((staticsOk (importedModules PySem.Challenge.pw_no0418_01.main.body) (boot_heap w.params) (S4 w os).abs.heap && namesBound PySem.Challenge.pw_no0418_01 (S4 w os).abs.heap && gensDone (S4 w os).abs && laidKept (boot_heap w.params) (S4 w os).abs.heap),
    PySem.W.Fast.tw4187177175401517315 view_39 [] (importedModules PySem.Challenge.pw_no0418_01.main.body) XT true (S4 w os).abs, asK.map (S4 w os).abs.heap.get?) = (true, openGood view_39 [], (heap_39 w.params).map fun p => some p.2) := fun w os => by
  rw [k_statics, k_names, k_laid, k_ask]
  unfold openGood
  exact congrArg (Prod.mk _) (congrArg (Prod.mk · _) (nine _ (k_seen0 w os) (k_seen1 w os) (k_seen2 w os) (k_seen3 w os) (k_seen4 w os) (k_seen5 w os) (k_seen6 w os) (k_seen7 w os) (k_seen8 w os)))
theorem body_eq : body0 = l1 ++ (l2 ++ (l3 ++ (l4 ++ []))) := by kernel_rfl
theorem top_eq (w : World) (os : OsState) : topRun treeTable PySem.Challenge.pw_no0418_01 w 11 (some (.ref 6)) (12 + (1 + (1370 + (1447 + (1160 + (793 + 3)))))) ⟨boot_heap w.params, Array.mk [], boot_drawn, boot_toks, os⟩ (topStub PySem.Challenge.pw_no0418_01) = some (S4 w os).abs := by
  have a := pre_eq w os
  have b := block_eq w os
  have r1 := run1_eq w os
  have r2 := run2_eq w os
  have r3 := run3_eq w os
  have r4 := run4_eq w os
  have f := fin_eq w os
  unfold pre0 at a
  unfold run1 at r1
  unfold run2 at r2
  unfold run3 at r3
  unfold run4 at r4
  rw [← PySem.W.Fast.te14364793385576792824] at a b r1 r2 r3 r4 f
  rw [← PySem.W.Fast.te11892475500146522536, ← PySem.W.Fast.te15667345088766844465] at a
  rw [← PySem.W.Fast.te1066825118222455980, ← PySem.W.Fast.te10110043849684766642] at b
  rw [← PySem.W.Fast.te14082659384304107361] at f
  refine go_top a (piece_block (segRun_of b) ?_)
  rw [body_eq]
  exact piece_app (seg_of r1) (piece_app (seg_of r2) (piece_app (seg_of r3) (piece_app (seg_of r4) (piece_nil f))))
theorem left : LeftO PySem.Challenge.pw_no0418_01 view_39 [] XT (fun s => asK.map s.heap.get?) (fun w => (heap_39 w.params).map fun p => some p.2) 9658 true := by
  refine left_of (S := S4) open_eq size_eq (M := 12 + (1 + (1370 + (1447 + (1160 + (793 + 3)))))) (by decide) top_eq ?_
  have h := looks_eq
  rw [← PySem.W.Fast.te4187177175401517315] at h
  exact h
end hd
namespace Mine
noncomputable abbrev PG : Program := PySem.Challenge.rw_no0418_01.row.prog
structure GK (w : World) (mg mb : Str → Option Value) (h : Heap) : Prop where
  x : (hd.heap_39 w.params).In h
  t : TopRead hd.view_39 (looseW hd.view_39 []) mg mb h
theorem GK.keeps {w : World} {mg mb : Str → Option Value} {h h' : Heap} (G : GK w mg mb h) (k : h.StaysIn h') : GK w mg mb h' :=
  ⟨G.x.keeps k, G.t.keeps k⟩
/-- the call of a def of the text, everything that stands kept -/
theorem enter {w : World} {A : Around} {s : Shared} {mg mb : Str → Option Value} {R : Result → Shared → Prop}
    {name qual : Str} {params : Arguments} {body : List Stmt} {scope : Scope} {dV kV doc pm cdv ct oc : Value} {an od : Option Addr} {osl : Array (Option Value)} {f : Addr} {args : Args} {binds : List (Str × Value)}
    (G : GK w mg mb s.heap)
    (ho : (hd.heap_39 w.params).lookup f = some ⟨oc, od, .func (fnOf name qual params body scope dV kV doc pm an cdv ct), osl⟩) (hcd : codeIn (hd.heap_39 w.params) cdv qual = true) (hroom : A.depth < recursionLimit)
    (hbind : BindsTo s (fnOf name qual params body scope dV kV doc pm an cdv ct) args binds) (hloc : ∀ y ∈ binds, scope.names.lookup y.1 = some .local)
    (h : ∀ h₁, Fr s.heap s.heap.objs.size h₁ (fun y => binds.reverse.lookup y) →
      wpAny (model PG w) (A.deeper (envOf qual scope s.heap.objs.size f cdv)) (execs body (envOf qual scope s.heap.objs.size f cdv))
        (fun fl s' => R (.ok (.ret (match fl with | .ret v => v | _ => .none))) s')
        (fun e s' => wpAny (model PG w) (A.deeper (envOf qual scope s.heap.objs.size f cdv)) (leaving (envOf qual scope s.heap.objs.size f cdv) e) (fun _ s'' => R (.error e) s'') (fun e' s'' => R (.error e') s'') s')
        { s with heap := h₁, toks := s.toks + binds.length })
    (hco : scope.isCoroutine = false := by rfl) (hgen : scope.isGenerator = false := by rfl) (hk : scope.kind = .function := by rfl)
    (hcell : ∀ x ∈ scope.names, x.2 ≠ .cell := by decide) : codeAny (model PG w) A (.call (.ref f) args) R s :=
  codeAny_call_def (fd := fnOf name qual params body scope dV kV doc pm an cdv ct) (body := body) (binds := binds) hroom (G.x _ _ ho) rfl G.t.nolimit (codeRec_of G.x hcd) rfl hbind hcell hloc
    (fun h₁ hns hk₁ => h h₁ ⟨hns, hk₁, Nat.le_refl _⟩) hco hgen hk
theorem fill_now : PySem.Challenge.rw_no0418_01.foot = 8 ∧ hd.heap_39 = hd.heap_39 := by
  k_fill
  exact ⟨rfl, rfl⟩
end Mine
namespace Mine
noncomputable def S3 (s : Shared) (h : Heap) (k : Nat) : Shared := { s with heap := h, toks := k }
theorem S3_self (s : Shared) : S3 s s.heap s.toks = s := rfl
structure Own (g : Heap) (L : Addr) (h : Heap) (m : Str → Option Value) (mu : List (Addr × Obj)) : Prop where
  ns : h.Ns L m
  keep : ∀ b o, g.get? b = some o → h.get? b = some o
  off : g.get? L = none
  mus : ∀ p ∈ mu, h.get? p.1 = some p.2 ∧ p.1 ≠ L ∧ g.get? p.1 = none
  nd : (mu.map (·.1)).Nodup
structure OkA (A : Around) (n : Nat) : Prop where
  handled : A.handled = none
  depth : A.depth + 2 * n < recursionLimit
  units : A.units + 10 * n < cLine
theorem OkA.deeper {A : Around} {n : Nat} (h : OkA A (n + 1)) (env : Env) : OkA (A.deeper env) n :=
  ⟨h.handled, by have := h.depth; show A.depth + 1 + 2 * n < _; walk_at "o", by have := h.units; show A.units + 3 + 10 * n < _; walk_at "o"⟩
theorem OkA.le {A : Around} {n n' : Nat} (h : OkA A n) (hn : n' ≤ n) : OkA A n' :=
  ⟨h.handled, by have := h.depth; walk_at "o", by have := h.units; walk_at "o"⟩
theorem OkA.room {A : Around} {n : Nat} (h : OkA A n) : A.depth < recursionLimit := by have := h.depth; walk_at "o"
theorem OkA.cRoom {A : Around} {n : Nat} (h : OkA A n) : A.units < cLine := by have := h.units; walk_at "o"
theorem OkA.in1 {A : Around} {n : Nat} (h : OkA A (n + 1)) : OkA A.in1 n :=
  ⟨h.handled, by have := h.depth; show A.depth + 2 * n < _; walk_at "o", by have := h.units; show A.units + 1 + 10 * n < _; walk_at "o"⟩
section own
variable {g h h' : Heap} {L : Addr} {m m' : Str → Option Value} {mu : List (Addr × Obj)} {b : Addr} {o : Obj}
theorem Own.get (O : Own g L h m mu) (e : g.get? b = some o) : h.get? b = some o := O.keep b o e
theorem Own.ne (O : Own g L h m mu) (e : g.get? b = some o) : b ≠ L := fun q => by subst q; rw [O.off] at e; cases e
theorem Own.list {its : Array Value} (O : Own g L h m mu) (e : g.IsList b its) : h.IsList b its := stays_list O.keep e
theorem Own.tup {its : Array Value} (O : Own g L h m mu) (e : IsTup g b its) : IsTup h b its := stays_tup O.keep e
theorem Own.fr (O : Own g L h m mu) : Fr {} L h m := ⟨O.ns, fun b o e => by simp [Heap.get?] at e, Nat.zero_le _⟩
/-- a heap that keeps all that stands -/
theorem Own.grow (O : Own g L h m mu) (k : h.StaysIn h') : Own g L h' m mu :=
  ⟨O.ns.keeps k, fun b o e => k b o (O.keep b o e), O.off, fun p hp => ⟨k _ _ (O.mus p hp).1, (O.mus p hp).2⟩, O.nd⟩
theorem Own.push (O : Own g L h m mu) (o : Obj) : Own g L (h.push o) m mu := O.grow fun _ _ e => Heap.get?_push_of_some _ e
theorem Own.store (O : Own g L h m mu) (hn : h'.Ns L m') (hs : Heap.SameBut L h h') : Own g L h' m' mu :=
  ⟨hn, fun b o e => (hs.2 b (O.ne e)).trans (O.keep b o e), O.off, fun p hp => ⟨(hs.2 p.1 (O.mus p hp).2.1).trans (O.mus p hp).1, (O.mus p hp).2⟩, O.nd⟩
theorem Own.fresh (O : Own g L h m mu) {b : Addr} (e : h.get? b = none) : g.get? b = none := by
  cases q : g.get? b with
  | none => rfl
  | some o => rw [O.keep b o q] at e; cases e
theorem Own.neL (O : Own g L h m mu) {b : Addr} (e : h.get? b = none) : b ≠ L := fun q => by
  obtain ⟨oL, _, _, hL, _⟩ := O.ns
  subst q; rw [hL] at e; cases e
theorem Own.neMu (O : Own g L h m mu) {b : Addr} (e : h.get? b = none) : b ∉ mu.map (·.1) := fun q => by
  obtain ⟨p, hp, rfl⟩ := List.mem_map.mp q
  rw [(O.mus p hp).1] at e; cases e
theorem get_size (h : Heap) : h.get? h.objs.size = none := by
  cases q : h.get? h.objs.size with
  | none => rfl
  | some o => exact absurd (Heap.lt_size q) (Nat.lt_irrefl _)
/-- a new object, put onto the list of what may turn -/
theorem Own.add (O : Own g L h m mu) (k : h.StaysIn h') (e : h.get? b = none) (e' : h'.get? b = some o) : Own g L h' m ((b, o) :: mu) :=
  let O' := O.grow k
  ⟨O'.ns, O'.keep, O'.off, fun p hp => by
    rcases List.mem_cons.mp hp with rfl | hp
    · exact ⟨e', O.neL e, O.fresh e⟩
    · exact O'.mus p hp, List.nodup_cons.mpr ⟨O.neMu e, O.nd⟩⟩
theorem Own.drop (O : Own g L h m ((b, o) :: mu)) : Own g L h m mu :=
  ⟨O.ns, O.keep, O.off, fun p hp => O.mus p (.tail _ hp), (List.nodup_cons.mp O.nd).2⟩
theorem Own.perm {mu' : List (Addr × Obj)} (O : Own g L h m mu) (p : mu.Perm mu') : Own g L h m mu' :=
  ⟨O.ns, O.keep, O.off, fun q hq => O.mus q (p.mem_iff.mpr hq), (p.map _).nodup_iff.mp O.nd⟩
theorem Own.swap {p q : Addr × Obj} (O : Own g L h m (p :: q :: mu)) : Own g L h m (q :: p :: mu) := O.perm (.swap _ _ _)
theorem Own.head (O : Own g L h m ((b, o) :: mu)) : h.get? b = some o := (O.mus _ (.head _)).1
theorem isList_of {its : Array Value} {n : Nat} (e : h.get? b = some (listOf its n)) : h.IsList b its := ⟨_, e, rfl, _, rfl⟩
theorem Own.headList {its : Array Value} {n : Nat} (O : Own g L h m ((b, listOf its n) :: mu)) : h.IsList b its := isList_of O.head
theorem Own.second {p : Addr × Obj} (O : Own g L h m (p :: (b, o) :: mu)) : h.get? b = some o := (O.mus _ (.tail _ (.head _))).1
/-- all that stands is fenced, but the frame and what may turn -/
theorem Own.rebase (O : Own g L h m mu) : Own (hideAll h (L :: mu.map (·.1))) L h m mu ∧ g.StaysIn (hideAll h (L :: mu.map (·.1))) ∧
    (∀ b o, b ≠ L → b ∉ mu.map (·.1) → h.get? b = some o → (hideAll h (L :: mu.map (·.1))).get? b = some o) := by
  have k3 : ∀ b o, b ≠ L → b ∉ mu.map (·.1) → h.get? b = some o → (hideAll h (L :: mu.map (·.1))).get? b = some o := fun b o hb hm e =>
    hideAll_get _ e fun q => (List.mem_cons.mp q).elim hb hm
  refine ⟨⟨O.ns, fun b o e => of_hideAll _ e, hideAll_none _ (.head _), fun p hp => ⟨(O.mus p hp).1, (O.mus p hp).2.1, hideAll_none _ (.tail _ (List.mem_map_of_mem hp))⟩, O.nd⟩, fun b o e => ?_, k3⟩
  refine k3 b o (O.ne e) (fun q => ?_) (O.keep b o e)
  obtain ⟨p, hp, rfl⟩ := List.mem_map.mp q
  rw [(O.mus p hp).2.2] at e; cases e
/-- an object of the head turned -/
theorem Own.upd {o' : Obj} (O : Own g L h m ((b, o) :: mu)) (hs : Heap.SameBut b h h') (e : h'.get? b = some o') : Own g L h' m ((b, o') :: mu) := by
  have hb := O.mus _ (.head _)
  have hnd := List.nodup_cons.mp O.nd
  refine ⟨?_, fun c x q => (hs.2 c fun z => ?_).trans (O.keep c x q), O.off, fun p hp => ?_, O.nd⟩
  · obtain ⟨oL, es, ep, hL, r⟩ := O.ns
    exact ⟨oL, es, ep, (hs.2 L fun z => hb.2.1 z.symm).trans hL, r⟩
  · subst z; rw [hb.2.2] at q; cases q
  · rcases List.mem_cons.mp hp with rfl | hp
    · exact ⟨e, hb.2⟩
    · have P := O.mus p (.tail _ hp)
      exact ⟨(hs.2 p.1 fun z => hnd.1 (List.mem_map.mpr ⟨p, hp, z⟩)).trans P.1, P.2⟩
theorem Own.upd2 {p : Addr × Obj} {o' : Obj} (O : Own g L h m (p :: (b, o) :: mu)) (hs : Heap.SameBut b h h') (e : h'.get? b = some o') : Own g L h' m (p :: (b, o') :: mu) :=
  (O.swap.upd hs e).swap
theorem Own.gk {w : World} {mg mb : Str → Option Value} (O : Own g L h m mu) (G : GK w mg mb g) : GK w mg mb h := G.keeps O.keep
end own
noncomputable def retQ (Q : Value → Shared → Prop) (f : Flow) (s : Shared) : Prop := Q (match f with | .ret v => v | _ => .none) s
noncomputable def thenQ (w : World) (A : Around) (rest : List Stmt) (env : Env) (Q : Flow → Shared → Prop) (E : Value → Shared → Prop) (f : Flow) (s : Shared) : Prop :=
  match f with
  | .next => wpAny (model PG w) A (execs rest env) Q E s
  | f => Q f s
/-- the call of a def of the text that raises nothing: all that stands is kept -/
theorem enter_ret {w : World} {A : Around} {s : Shared} {hp : Heap} {k : Nat} {mg mb : Str → Option Value} {Q : Value → Shared → Prop} {E : Value → Shared → Prop} {n : Nat}
    {name qual : Str} {params : Arguments} {body : List Stmt} {scope : Scope} {dV kV doc pm cdv ct oc : Value} {an od : Option Addr} {osl : Array (Option Value)} {f : Addr} {args : Args}
    (binds : List (Str × Value))
    (G : GK w mg mb hp) (hA : OkA A (n + 1))
    (ho : (hd.heap_39 w.params).lookup f = some ⟨oc, od, .func (fnOf name qual params body scope dV kV doc pm an cdv ct), osl⟩) (hcd : codeIn (hd.heap_39 w.params) cdv qual = true)
    (hbind : ∀ s, BindsTo s (fnOf name qual params body scope dV kV doc pm an cdv ct) args binds) (hloc : ∀ y ∈ binds, scope.names.lookup y.1 = some .local)
    (h : ∀ A' E' h₁ L k₁, OkA A' n → hp.get? L = none → Own hp L h₁ (fun y => binds.reverse.lookup y) [] →
      wpAny (model PG w) A' (execs body (envOf qual scope L f cdv)) (retQ Q) E' (S3 s h₁ k₁))
    (hco : scope.isCoroutine = false := by rfl) (hgen : scope.isGenerator = false := by rfl) (hk : scope.kind = .function := by rfl)
    (hcell : ∀ x ∈ scope.names, x.2 ≠ .cell := by decide) : codeAny (model PG w) A (.call (.ref f) args) (fun r s' => match r with | .ok (.ret v) => Q v s' | .ok _ => False | .error e => E e s') (S3 s hp k) := by
  refine enter (s := S3 s hp k) G ho hcd hA.room (hbind _) hloc (fun h₁ F => ?_) hco hgen hk hcell
  exact h _ _ h₁ hp.objs.size _ (hA.deeper _) (get_size hp) ⟨F.ns, F.keep, get_size hp, (fun _ hp => nomatch hp), .nil⟩
section rules
variable {w : World} {A : Around} {E : Value → Shared → Prop} {s : Shared} {g h : Heap} {k : Nat} {L : Addr} {m mg mb : Str → Option Value} {mu : List (Addr × Obj)} {env : Env} {na : Nat}
/-- a local name -/
theorem r_loc {x : Str} {pos : Pos} {v : Value} {Q : Value → Shared → Prop} (O : Own g L h m mu) (hv : m x = some v) (hl : env.kindOf x = some .local) (hL : env.locals = L) (q : Q v (S3 s h k))
    (hk : env.scope.kind = .function := by rfl) (hd : (x == ("__debug__" : Str)) = false := by decide) : wpAny (model PG w) A (eval (.Name x pos) env) Q E (S3 s h k) :=
  wpAny_Name (wpAny_loadName_local hk hl (hL ▸ O.ns) hv q) hd
theorem r_loadName {x : Str} {v : Value} {Q : Value → Shared → Prop} (O : Own g L h m mu) (hv : m x = some v) (hl : env.kindOf x = some .local) (hL : env.locals = L) (q : Q v (S3 s h k))
    (hk : env.scope.kind = .function := by rfl) : wpAny (model PG w) A (loadName env x) Q E (S3 s h k) :=
  wpAny_loadName_local hk hl (hL ▸ O.ns) hv q
/-- a global name of the text -/
theorem r_glob {x : Str} {pos : Pos} {v : Value} {Q : Value → Shared → Prop} (G : GK w mg mb g) (O : Own g L h m mu) (hx : env.kindOf x = some .globalImplicit) (e : nsIn (hd.heap_39 w.params) mainGlobals x = some (some v)) (q : Q v (S3 s h k))
    (he : env.globals = mainGlobals := by rfl) (hk : env.scope.kind = .function := by rfl) (hd : (x == ("__debug__" : Str)) = false := by decide) : wpAny (model PG w) A (eval (.Name x pos) env) Q E (S3 s h k) :=
  Name_function_global hk hx (loadGlobal_global (by rw [he]; exact G.t.g.keeps O.keep) (mg_of G.x G.t.g e) q) hd
theorem r_builtin {x : Str} {pos : Pos} {v : Value} {Q : Value → Shared → Prop} (G : GK w mg mb g) (O : Own g L h m mu) (hx : env.kindOf x = some .globalImplicit) (e : nsIn (hd.heap_39 w.params) mainGlobals x = some none) (hv : bootBuiltins x = some v) (q : Q v (S3 s h k))
    (hn : x ≠ "__name__" := by decide) (he : env.globals = mainGlobals := by rfl) (hb : env.builtins = builtinsNs := by rfl) (hk : env.scope.kind = .function := by rfl) (hd : (x == ("__debug__" : Str)) = false := by decide) : wpAny (model PG w) A (eval (.Name x pos) env) Q E (S3 s h k) :=
  Name_function_global hk hx (loadGlobal_builtin (by rw [he]; exact G.t.g.keeps O.keep) (mg_none_of G.x G.t.g e) (by rw [hb]; exact G.t.b.keeps O.keep) ((G.t.builtins x hn).trans hv) q) hd
theorem r_int {i : Int} {c : Nat} {pos : Pos} {Q : Value → Shared → Prop} (q : Q (.int i k) (S3 s h (k + 1))) : wpAny (model PG w) A (eval (.Constant (.int i) c pos) env) Q E (S3 s h k) := wpAny_Constant_int q
theorem r_store {x : Str} {v : Value} {Q : Unit → Shared → Prop} (O : Own g L h m mu) (hl : env.kindOf x = some .local) (hL : env.locals = L)
    (q : ∀ h', Own g L h' (fun y => if y = x then some v else m y) mu → Q () (S3 s h' (k + 1)))
    (hp : (env.scope.kind == .class || (env.scope.kind == .module && env.locals != env.globals)) = false := by rfl) : wpAny (model PG w) A (storeName env x v) Q E (S3 s h k) :=
  by subst hL; exact wpAny_storeName_local hl O.ns (fun h' hn hs => q h' (O.store hn hs)) hp
/-- statements -/
theorem r_nil {Q : Flow → Shared → Prop} {s : Shared} (q : Q .next s) : wpAny (model PG w) A (execs [] env) Q E s := wpAny_execs_nil q
theorem r_cons {st : Stmt} {rest : List Stmt} {Q : Flow → Shared → Prop} {s : Shared} (q : wpAny (model PG w) A (exec st env) (thenQ w A rest env Q E) E s) : wpAny (model PG w) A (execs (st :: rest) env) Q E s := by
  refine wpAny_execs_cons (wpAny_mono q (fun f s' h' => ?_) fun _ _ x => x)
  cases f <;> exact h'
theorem t_next {rest : List Stmt} {Q : Flow → Shared → Prop} {s : Shared} (q : wpAny (model PG w) A (execs rest env) Q E s) : thenQ w A rest env Q E .next s := q
theorem t_ret {rest : List Stmt} {v : Value} {Q : Flow → Shared → Prop} {s : Shared} (q : Q (.ret v) s) : thenQ w A rest env Q E (.ret v) s := q
theorem t_cont {rest : List Stmt} {Q : Flow → Shared → Prop} {s : Shared} (q : Q .cont s) : thenQ w A rest env Q E .cont s := q
theorem t_brk {rest : List Stmt} {Q : Flow → Shared → Prop} {s : Shared} (q : Q .brk s) : thenQ w A rest env Q E .brk s := q
theorem t_retQ {v : Value} {Q : Value → Shared → Prop} {s : Shared} (q : Q v s) : retQ Q (.ret v) s := q
theorem t_retN {Q : Value → Shared → Prop} {s : Shared} (q : Q .none s) : retQ Q .next s := q
end rules
end Mine
namespace Mine
/-- an octet of a key -/
noncomputable def oct (b : Array UInt8) (i : Int) : Int := ((b.toList.getD i.toNat 0).toNat : Nat)
theorem oct_lo (b : Array UInt8) (i : Int) : 0 ≤ oct b i := Int.natCast_nonneg _
theorem oct_hi (b : Array UInt8) (i : Int) : oct b i < 256 := by
  unfold oct; have := (b.toList.getD i.toNat 0).toNat_lt; walk_at "o"
section intops
variable {w : World} {A : Around} {E : Value → Shared → Prop} {s : Shared} {h : Heap} {k : Nat} {a b : Int} {t u : Tok} {Q : Value → Shared → Prop}
theorem r_add (q : Q (.int (a + b) k) (S3 s h (k + 1))) : wpAny (model PG w) A (binaryOp .Add (.int a t) (.int b u)) Q E (S3 s h k) := by
  with_reducible refine add_int ?_
  exact q
theorem r_sub (q : Q (.int (a - b) k) (S3 s h (k + 1))) : wpAny (model PG w) A (binaryOp .Sub (.int a t) (.int b u)) Q E (S3 s h k) := by
  with_reducible refine sub_int ?_
  exact q
theorem r_mul (ha : a.natAbs < 2 ^ 63) (q : Q (.int (a * b) k) (S3 s h (k + 1))) : wpAny (model PG w) A (binaryOp .Mult (.int a t) (.int b u)) Q E (S3 s h k) := by
  with_reducible refine mul_int ?_ ?_
  · exact q
  · exact PySem.IntMulOk.of_left (PySem.intBits_le_64 (by walk_at "o") (by walk_at "o"))
theorem r_fdiv (hb : 0 < b) (hb2 : b.natAbs < 1073741824) (q : Q (.int (a / b) k) (S3 s h (k + 1))) : wpAny (model PG w) A (binaryOp .FloorDiv (.int a t) (.int b u)) Q E (S3 s h k) := by
  with_reducible refine floordiv_int (show b ≠ 0 by walk_at "o") ?_ ?_
  · rw [Int.fdiv_eq_ediv_of_nonneg a (by walk_at "o")]; exact q
  · exact Or.inl (PyProof.noPylong_small (by walk_at "o"))
theorem r_mod (hb : 0 < b) (q : Q (.int (a % b) k) (S3 s h (k + 1))) : wpAny (model PG w) A (binaryOp .Mod (.int a t) (.int b u)) Q E (S3 s h k) := by
  with_reducible refine mod_int' (show b ≠ 0 by walk_at "o") ?_
  rw [Int.fmod_eq_emod_of_nonneg a (by walk_at "o")]; exact q
theorem r_and (q : Q (.int (Builtin.bitAnd a b) k) (S3 s h (k + 1))) : wpAny (model PG w) A (binaryOp .BitAnd (.int a t) (.int b u)) Q E (S3 s h k) := by
  with_reducible refine and_int ?_
  exact q
theorem r_or (q : Q (.int (Builtin.bitOr a b) k) (S3 s h (k + 1))) : wpAny (model PG w) A (binaryOp .BitOr (.int a t) (.int b u)) Q E (S3 s h k) := by
  with_reducible refine or_int ?_
  exact q
theorem r_shr (hb : 0 ≤ b) (q : Q (.int (a / (2 ^ b.toNat)) k) (S3 s h (k + 1))) : wpAny (model PG w) A (binaryOp .RShift (.int a t) (.int b u)) Q E (S3 s h k) := by
  with_reducible refine rshift_int hb ?_
  rw [Int.fdiv_eq_ediv_of_nonneg a (Int.le_of_lt (Int.pow_pos (by decide)))]; exact q
theorem r_shl (hb : 0 ≤ b) (hb2 : b ≤ 1000000) (ha : a.natAbs < 2 ^ 63) (q : Q (.int (a * 2 ^ b.toNat) k) (S3 s h (k + 1))) : wpAny (model PG w) A (binaryOp .LShift (.int a t) (.int b u)) Q E (S3 s h k) := by
  with_reducible refine lshift_int_small hb hb2 (by walk_at "o") ?_
  exact q
theorem r_pow (hb : 0 ≤ b) (hb2 : b ≤ 1000000) (ha : a.natAbs < 2 ^ 63) (q : Q (.int (a ^ b.toNat) k) (S3 s h (k + 1))) : wpAny (model PG w) A (binaryOp .Pow (.int a t) (.int b u)) Q E (S3 s h k) := by
  with_reducible refine pow_int_small hb hb2 (by walk_at "o") ?_
  exact q
theorem r_iadd (q : Q (.int (a + b) k) (S3 s h (k + 1))) : wpAny (model PG w) A (inplaceOp .Add (.int a t) (.int b u)) Q E (S3 s h k) := by
  with_reducible refine iadd_int ?_
  exact q
theorem r_isub (q : Q (.int (a - b) k) (S3 s h (k + 1))) : wpAny (model PG w) A (inplaceOp .Sub (.int a t) (.int b u)) Q E (S3 s h k) := by
  with_reducible refine isub_int ?_
  exact q
theorem r_neg (q : Q (.int (-a) k) (S3 s h (k + 1))) : wpAny (model PG w) A (unaryOp .USub (.int a t)) Q E (S3 s h k) := by
  with_reducible refine neg_int ?_
  exact q
theorem r_cbytes {env : Env} {x : List UInt8} {c : Nat} {pos : Pos} (q : Q (.bytes x.toArray k) (S3 s h (k + 1))) : wpAny (model PG w) A (eval (.Constant (.bytes x) c pos) env) Q E (S3 s h k) := Constant_bytes q
theorem r_len_list {l : Addr} {its : Array Value} (hl : h.IsList l its) (hz : its.size < 2 ^ 62) (q : Q (.int its.size (k + 1)) (S3 s h (k + 2))) : wpAny (model PG w) A (call (.builtin "len") [.ref l] []) Q E (S3 s h k) := by
  have hl' : (S3 s h k).heap.IsList l its := hl
  with_reducible refine call_len_list hl' (by walk_at "o") ?_
  exact q
theorem r_len_bytes {b : Array UInt8} (hz : b.size ≤ 1000000) (q : Q (.int b.size (k + 1)) (S3 s h (k + 2))) : wpAny (model PG w) A (call (.builtin "len") [.bytes b t] []) Q E (S3 s h k) := by
  with_reducible refine len_bytes (by walk_at "o") ?_
  exact q
theorem r_item_list {value slice : Expr} {l : Addr} {its : Array Value} {i : Int} {x : Value} (hl : h.IsList l its) (h0 : 0 ≤ i) (hfit : i < 2 ^ 62) (hx : its[i.toNat]? = some x) (q : Q x (S3 s h k))
    (hs : subscripted slice false (.ref l) (.int i u) = operate [.ref l, .int i u] (getItem (.ref l) (.int i u)) := by with_unfolding_all rfl) :
    wpAny (model PG w) A (subscriptTail value slice (.ref l) (.int i u)) Q E (S3 s h k) :=
  tail_any hl.typeIs slot_list_getitem.lookup (wpAny_getItem_list hl h0 (by walk_at "o") hx q) hs
theorem r_item_tup {value slice : Expr} {l : Addr} {its : List Value} {i : Int} {x : Value} (hl : IsTup h l its.toArray) (h0 : 0 ≤ i) (hfit : i < its.length) (hz : its.length < 2 ^ 62) (hx : its[i.toNat]? = some x) (q : Q x (S3 s h k))
    (hs : subscripted slice false (.ref l) (.int i u) = operate [.ref l, .int i u] (getItem (.ref l) (.int i u)) := by with_unfolding_all rfl) :
    wpAny (model PG w) A (subscriptTail value slice (.ref l) (.int i u)) Q E (S3 s h k) := by
  refine item_tupleT (j := i.toNat) hl (by walk_at "o") (by walk_at "o") ?_ hx q hs
  unfold seqIndex?
  simp only []
  split <;> (try simp) <;> walk_at "o"
theorem r_item_bytes {value slice : Expr} {b : Array UInt8} {i : Int} (hz : b.size ≤ 1000000) (h0 : 0 ≤ i) (h1 : i < (b.size : Int)) (q : Q (.int (oct b i) k) (S3 s h (k + 1)))
    (hs : subscripted slice false (.bytes b t) (.int i u) = operate [.bytes b t, .int i u] (getItem (.bytes b t) (.int i u)) := by with_unfolding_all rfl)
    (ht : ∀ r, letTemporaryGo value (.bytes b t) r = pure () := by intro _; with_unfolding_all rfl) :
    wpAny (model PG w) A (subscriptTail value slice (.bytes b t) (.int i u)) Q E (S3 s h k) := by
  obtain ⟨b⟩ := b
  simp only [List.size_toArray] at hz h1
  exact KBy.item_N (by walk_at "o") h0 (by simpa using h1) q hs ht
theorem r_newList {vs : List Value} (hz : vs.length ≤ 1000000) (q : ∀ a h', h.get? a = none → h.StaysIn h' → h'.get? a = some (listOf vs.toArray 0) → Q (.ref a) (S3 s h' k)) : wpAny (model PG w) A (newList vs) Q E (S3 s h k) := by
  have hz' : vs.toArray.size ≤ sizeLine := by rw [List.size_toArray, sizeLine_eq]; walk_at "o"
  exact wpAny_newObj_type (q h.objs.size _ (get_size h) (fun _ _ e => Heap.get?_push_of_some _ e) (Heap.get?_push_size _ rfl)) hz'
theorem r_newTuple {vs : List Value} (hz : vs.length ≤ 1000000) (q : ∀ a h', h.get? a = none → h.StaysIn h' → IsTup h' a vs.toArray → Q (.ref a) (S3 s h' k)) : wpAny (model PG w) A (newTuple vs) Q E (S3 s h k) := by
  have hz' : vs.toArray.size ≤ sizeLine := by rw [List.size_toArray, sizeLine_eq]; walk_at "o"
  exact wpAny_newObj_type (q h.objs.size _ (get_size h) (fun _ _ e => Heap.get?_push_of_some _ e) ⟨_, Heap.get?_push_size _ rfl, rfl, _, rfl⟩) hz'
theorem r_bytes_ints {l : Addr} {vs : List Value} {ns : List Int} (hA : A.handled = none) (hl : h.IsList l vs.toArray) (hi : IntsAre vs ns) (hr : ∀ n ∈ ns, 0 ≤ n ∧ n < 256) (hz : vs.length ≤ 1000000)
    (q : ∀ h' t k', h.StaysIn h' → Q (.bytes (byteArr ns) t) (S3 s h' k')) : wpAny (model PG w) A (call (.type "bytes") [.ref l] []) Q E (S3 s h k) :=
  call_bytes_ints hl hi hr (by rw [sizeLine_eq]; walk_at "o") hA fun h' t k' hk => q h' t k' hk
theorem r_add_bytes {b c : Array UInt8} (hz : b.size + c.size ≤ 1000000) (q : ∀ t' k', Q (.bytes (b ++ c) t') (S3 s h k')) : wpAny (model PG w) A (binaryOp .Add (.bytes b t) (.bytes c u)) Q E (S3 s h k) :=
  KBy.add_bytes (by walk_at "o") fun t' k' => q t' k'
theorem r_slice_bytes {value slice : Expr} {b : Array UInt8} {l v : Value} {lo hi : Option Int} (hl : IsPart l lo) (hu : IsPart v hi) (hne : KBy.whole b lo hi = false) (hz : (KBy.picked b lo hi).size ≤ 1000000)
    (q : ∀ h' t' k', h.StaysIn h' → Q (.bytes (KBy.picked b lo hi) t') (S3 s h' k'))
    (hs : subscripted slice false (.bytes b t) (.ref h.objs.size) = operate [.ref h.objs.size, .bytes b t] (getItem (.bytes b t) (.ref h.objs.size)) := by with_unfolding_all rfl)
    (ht : ∀ r, letTemporaryGo value (.bytes b t) r = pure () := by intro _; with_unfolding_all rfl) :
    wpAny (model PG w) A (subscriptTail value slice (.bytes b t) (.ref h.objs.size)) Q E (S3 s (h.push { cls := .type "slice", data := .fields #[l, v, .none] }) k) :=
  tail_of_ItemOn ⟨"bytes", _, FB.slot_bytes_getitem.lookup, typeIs_bytes _ _ _, getItem_meets (typeIs_bytes _ _ _) (by decide) FB.slot_bytes_getitem FB.entry_bytes_getitem (FB.args_bytes_getitem_2 _ _) (KBy.meets_slice b t _ hl hu hne)
    ⟨Heap.IsSliceOf.new _ _ _ _, by rw [sizeLine_eq]; walk_at "o", q _ _ _ fun _ _ e => Heap.get?_push_of_some _ e⟩⟩ hs ht
end intops
end Mine
namespace Mine
section calls
variable {w : World} {A : Around} {E : Value → Shared → Prop} {s : Shared} {h g : Heap} {L : Addr} {m mg mb : Str → Option Value} {mu : List (Addr × Obj)} {k : Nat} {env : Env} {pos : Pos} {f x : Value} {e : Expr} {rest : List Expr} {Q : Value → Shared → Prop}
theorem r_kin {P : Prop} (G : GK w mg mb g) (O : Own g L h m mu) (q : P) : (hd.heap_39 w.params).In (S3 s h k).heap ∧ P := ⟨(G.keeps O.keep).x, q⟩
theorem r_callW (hk : keepIn (hd.heap_39 w.params) f = true) (he : starEach (e :: rest) env = (false, eval e env) :: starEach rest env) (hp : (backTo pos (starEach rest env)).any (·.1) = false)
    {s : Shared} (q : wpAny (model PG w) A (spliced (backTo pos (starEach (e :: rest) env))) (fun vs s₁ => (hd.heap_39 w.params).In s₁.heap ∧ wpAny (model PG w) A (call f vs []) Q E s₁) E s) :
    wpAny (model PG w) A (callWith pos f [] (backTo pos (starEach (e :: rest) env)) []) Q E s := by
  rw [he] at q ⊢
  exact callWith_of (by show ((false || (backTo pos (starEach rest env)).any (·.1)) || false) = false; rw [hp]; rfl) (keeps_K hk) (evalArgs_plain q)
theorem r_callW0 (G : GK w mg mb g) (O : Own g L h m mu) (hk : keepIn (hd.heap_39 w.params) f = true) (q : wpAny (model PG w) A (call f [] []) Q E (S3 s h k)) :
    wpAny (model PG w) A (callWith pos f [] (backTo pos (starEach [] env)) []) Q E (S3 s h k) :=
  callWith_of rfl (keeps_K hk) (evalArgs_nil3 ⟨(G.keeps O.keep).x, q⟩)
theorem r_callM (hk : keepIn (hd.heap_39 w.params) f = true) (he : starEach (e :: rest) env = (false, eval e env) :: starEach rest env) (hp : (backTo pos (starEach rest env)).any (·.1) = false)
    {s : Shared} (q : wpAny (model PG w) A (spliced (backTo pos (starEach (e :: rest) env))) (fun vs s₁ => (hd.heap_39 w.params).In s₁.heap ∧ wpAny (model PG w) A (call f (x :: vs) []) Q E s₁) E s) :
    wpAny (model PG w) A (callWith pos f [x] (backTo pos (starEach (e :: rest) env)) []) Q E s := by
  rw [he] at q ⊢
  exact callWith_of (by show ((false || (backTo pos (starEach rest env)).any (·.1)) || false) = false; rw [hp]; rfl) (keeps_K hk) (evalArgs_plain q)
theorem r_callM0 (G : GK w mg mb g) (O : Own g L h m mu) (hk : keepIn (hd.heap_39 w.params) f = true) (q : wpAny (model PG w) A (call f [x] []) Q E (S3 s h k)) :
    wpAny (model PG w) A (callWith pos f [x] (backTo pos (starEach [] env)) []) Q E (S3 s h k) :=
  callWith_of rfl (keeps_K hk) (evalArgs_nil3 ⟨(G.keeps O.keep).x, q⟩)
theorem r_callB {id : String} (he : starEach (e :: rest) env = (false, eval e env) :: starEach rest env) (hp : (backTo pos (starEach rest env)).any (·.1) = false)
    {s : Shared} (q : wpAny (model PG w) A (spliced (backTo pos (starEach (e :: rest) env))) (fun vs s₁ => wpAny (model PG w) A (call (.builtin id) vs []) Q E s₁) E s) :
    wpAny (model PG w) A (callWith pos (.builtin id) [] (backTo pos (starEach (e :: rest) env)) []) Q E s := callWith_method1 q he hp
theorem r_callBM {id : String} (he : starEach (e :: rest) env = (false, eval e env) :: starEach rest env) (hp : (backTo pos (starEach rest env)).any (·.1) = false)
    {s : Shared} (q : wpAny (model PG w) A (spliced (backTo pos (starEach (e :: rest) env))) (fun vs s₁ => wpAny (model PG w) A (call (.builtin id) (x :: vs) []) Q E s₁) E s) :
    wpAny (model PG w) A (callWith pos (.builtin id) [x] (backTo pos (starEach (e :: rest) env)) []) Q E s := callWith_method1 q he hp
theorem r_callT {T : String} (he : starEach (e :: rest) env = (false, eval e env) :: starEach rest env) (hp : (backTo pos (starEach rest env)).any (·.1) = false)
    {s : Shared} (q : wpAny (model PG w) A (spliced (backTo pos (starEach (e :: rest) env))) (fun vs s₁ => wpAny (model PG w) A (call (.type T) vs []) Q E s₁) E s) :
    wpAny (model PG w) A (callWith pos (.type T) [] (backTo pos (starEach (e :: rest) env)) []) Q E s := callWith_type1 q he hp
theorem if_dec {p : Prop} [Decidable p] {X Y : Prop} (h1 : p → X) (h2 : ¬ p → Y) : if decide p = true then X else Y := by
  by_cases hp : p
  · rw [if_pos (decide_eq_true hp)]; exact h1 hp
  · rw [if_neg (by simp [hp])]; exact h2 hp
theorem if_dec_t {p : Prop} [Decidable p] {X Y : Prop} (hp : p) (h1 : X) : if decide p = true then X else Y := by
  rw [if_pos (decide_eq_true hp)]; exact h1
theorem if_dec_f {p : Prop} [Decidable p] {X Y : Prop} (hp : ¬ p) (h1 : Y) : if decide p = true then X else Y := by
  rw [if_neg (by simp [hp])]; exact h1
theorem if_T {b : Bool} {X Y : Prop} (hb : b = true) (h1 : X) : if b = true then X else Y := by rw [if_pos hb]; exact h1
theorem if_F {b : Bool} {X Y : Prop} (hb : b = false) (h1 : Y) : if b = true then X else Y := by rw [if_neg (by rw [hb]; exact Bool.false_ne_true)]; exact h1
theorem if_t {X Y : Prop} (h1 : X) : if true = true then X else Y := h1
theorem if_f {X Y : Prop} (h1 : Y) : if false = true then X else Y := h1
theorem if_bool {b : Bool} {X Y : Prop} (h1 : b = true → X) (h2 : b = false → Y) : if b = true then X else Y := by
  cases b
  · exact h2 rfl
  · exact h1 rfl
end calls
end Mine
namespace Mine
namespace FB
open Builtin
theorem slot_lt : Slot "bytes" (cmpInfo .Lt).2.1 "bytes.__lt__" :=
  .of (owner := "bytes") (n := "__lt__") (by rw [typeLookup_type, builtinLookup_eq_fast]; kernel_rfl) (by decide +kernel) (by decide +kernel) (by decide +kernel)
    (by first | exact .inl (by decide +kernel) | exact .inr (by decide +kernel)) (by rw [isSubtype_type]; kernel_rfl)
theorem entry_lt : entryFor table "bytes.__lt__" = some Builtin.«bytes.__lt__» := entryFor_of_tree (by kernel_rfl)
theorem args_lt (a b : Value) : argsOk "bytes.__lt__" ⟨[a, b], []⟩ := by
  unfold argsOk; rw [signature?_of (id := "bytes.__lt__") (n := ['_', '_', 't', 'l', '_', '_']) (o := ['s', 'e', 't', 'y', 'b']) (by kernel_rfl) PySem.W.FB.owner_bytes]; kernel_rfl
theorem slot_le : Slot "bytes" (cmpInfo .LtE).2.1 "bytes.__le__" :=
  .of (owner := "bytes") (n := "__le__") (by rw [typeLookup_type, builtinLookup_eq_fast]; kernel_rfl) (by decide +kernel) (by decide +kernel) (by decide +kernel)
    (by first | exact .inl (by decide +kernel) | exact .inr (by decide +kernel)) (by rw [isSubtype_type]; kernel_rfl)
theorem entry_le : entryFor table "bytes.__le__" = some Builtin.«bytes.__le__» := entryFor_of_tree (by kernel_rfl)
theorem args_le (a b : Value) : argsOk "bytes.__le__" ⟨[a, b], []⟩ := by
  unfold argsOk; rw [signature?_of (id := "bytes.__le__") (n := ['_', '_', 'e', 'l', '_', '_']) (o := ['s', 'e', 't', 'y', 'b']) (by kernel_rfl) PySem.W.FB.owner_bytes]; kernel_rfl
theorem slot_gt : Slot "bytes" (cmpInfo .Gt).2.1 "bytes.__gt__" :=
  .of (owner := "bytes") (n := "__gt__") (by rw [typeLookup_type, builtinLookup_eq_fast]; kernel_rfl) (by decide +kernel) (by decide +kernel) (by decide +kernel)
    (by first | exact .inl (by decide +kernel) | exact .inr (by decide +kernel)) (by rw [isSubtype_type]; kernel_rfl)
theorem entry_gt : entryFor table "bytes.__gt__" = some Builtin.«bytes.__gt__» := entryFor_of_tree (by kernel_rfl)
theorem args_gt (a b : Value) : argsOk "bytes.__gt__" ⟨[a, b], []⟩ := by
  unfold argsOk; rw [signature?_of (id := "bytes.__gt__") (n := ['_', '_', 't', 'g', '_', '_']) (o := ['s', 'e', 't', 'y', 'b']) (by kernel_rfl) PySem.W.FB.owner_bytes]; kernel_rfl
theorem slot_ge : Slot "bytes" (cmpInfo .GtE).2.1 "bytes.__ge__" :=
  .of (owner := "bytes") (n := "__ge__") (by rw [typeLookup_type, builtinLookup_eq_fast]; kernel_rfl) (by decide +kernel) (by decide +kernel) (by decide +kernel)
    (by first | exact .inl (by decide +kernel) | exact .inr (by decide +kernel)) (by rw [isSubtype_type]; kernel_rfl)
theorem entry_ge : entryFor table "bytes.__ge__" = some Builtin.«bytes.__ge__» := entryFor_of_tree (by kernel_rfl)
theorem args_ge (a b : Value) : argsOk "bytes.__ge__" ⟨[a, b], []⟩ := by
  unfold argsOk; rw [signature?_of (id := "bytes.__ge__") (n := ['_', '_', 'e', 'g', '_', '_']) (o := ['s', 'e', 't', 'y', 'b']) (by kernel_rfl) PySem.W.FB.owner_bytes]; kernel_rfl
theorem bytes_bytes : typeLookup (.type "bytes") "__bytes__" = pure (some (.builtin "bytes.__bytes__")) := by rw [typeLookup_type, builtinLookup_eq_fast]; kernel_rfl
end FB
/-- bytes by their places -/
noncomputable def ord (a b : Array UInt8) : Ordering := Builtin.Bytes.order a.toList b.toList
section bts
open Builtin
variable {w : World} {A : Around} {E : Value → Shared → Prop} {s : Shared} {h : Heap} {k : Nat} {b c : Array UInt8} {t u : Tok} {Q : Value → Shared → Prop}
theorem gives_lt : Gives («bytes.__lt__» ⟨[.bytes b t, .bytes c u], []⟩) (.val (.bool (ord b c == .lt))) := by
  refine .of_wp fun M A E s Q hq => ?_
  show wpAny M A (isInstance (.bytes c u) (.type "bytes") >>= fun r => _) _ E s
  exact wpAny_bind (wpAny_isInstance (typeIs_bytes s c u) F.sub_bytes_bytes (wpAny_pure ⟨_, rfl, hq⟩))
theorem gives_le : Gives («bytes.__le__» ⟨[.bytes b t, .bytes c u], []⟩) (.val (.bool (ord b c != .gt))) := by
  refine .of_wp fun M A E s Q hq => ?_
  show wpAny M A (isInstance (.bytes c u) (.type "bytes") >>= fun r => _) _ E s
  exact wpAny_bind (wpAny_isInstance (typeIs_bytes s c u) F.sub_bytes_bytes (wpAny_pure ⟨_, rfl, hq⟩))
theorem gives_gt : Gives («bytes.__gt__» ⟨[.bytes b t, .bytes c u], []⟩) (.val (.bool (ord b c == .gt))) := by
  refine .of_wp fun M A E s Q hq => ?_
  show wpAny M A (isInstance (.bytes c u) (.type "bytes") >>= fun r => _) _ E s
  exact wpAny_bind (wpAny_isInstance (typeIs_bytes s c u) F.sub_bytes_bytes (wpAny_pure ⟨_, rfl, hq⟩))
theorem gives_ge : Gives («bytes.__ge__» ⟨[.bytes b t, .bytes c u], []⟩) (.val (.bool (ord b c != .lt))) := by
  refine .of_wp fun M A E s Q hq => ?_
  show wpAny M A (isInstance (.bytes c u) (.type "bytes") >>= fun r => _) _ E s
  exact wpAny_bind (wpAny_isInstance (typeIs_bytes s c u) F.sub_bytes_bytes (wpAny_pure ⟨_, rfl, hq⟩))
theorem lt_bytes {s : Shared} (q : Q (.bool (ord b c == .lt)) s) : wpAny (model PG w) A (compareOp .Lt (.bytes b t) (.bytes c u)) Q E s :=
  compareOp_gives (op := .Lt) (typeIs_bytes s b t) (typeIs_bytes s c u) FB.slot_lt FB.entry_lt (FB.args_lt _ _) gives_lt (fun e => nomatch e) q
theorem le_bytes {s : Shared} (q : Q (.bool (ord b c != .gt)) s) : wpAny (model PG w) A (compareOp .LtE (.bytes b t) (.bytes c u)) Q E s :=
  compareOp_gives (op := .LtE) (typeIs_bytes s b t) (typeIs_bytes s c u) FB.slot_le FB.entry_le (FB.args_le _ _) gives_le (fun e => nomatch e) q
theorem gt_bytes {s : Shared} (q : Q (.bool (ord b c == .gt)) s) : wpAny (model PG w) A (compareOp .Gt (.bytes b t) (.bytes c u)) Q E s :=
  compareOp_gives (op := .Gt) (typeIs_bytes s b t) (typeIs_bytes s c u) FB.slot_gt FB.entry_gt (FB.args_gt _ _) gives_gt (fun e => nomatch e) q
theorem ge_bytes {s : Shared} (q : Q (.bool (ord b c != .lt)) s) : wpAny (model PG w) A (compareOp .GtE (.bytes b t) (.bytes c u)) Q E s :=
  compareOp_gives (op := .GtE) (typeIs_bytes s b t) (typeIs_bytes s c u) FB.slot_ge FB.entry_ge (FB.args_ge _ _) gives_ge (fun e => nomatch e) q
theorem new_of_bytes {s : Shared} (q : Q (.bytes b t) s) : codeAny (model PG w) A (.call (.builtin "bytes.__new__") ⟨[.type "bytes", .bytes b t], []⟩) (wants Q E) s := by
  refine codeAny_of_tree ?_
  show wpAny _ A.in1 (do checkBuiltinCall "bytes.__new__" ⟨[.type "bytes", .bytes b t], []⟩; again (.builtin "bytes.__new__" ⟨[.type "bytes", .bytes b t], []⟩)) _ _ s
  refine wpAny_bind (wpAny_of_eq (F.bm_newCall _) (wpAny_pure ⟨plainId_quiet F.bm_plain _, codeAny_builtin F.bm_entry ?_⟩))
  rw [Around.under_plainId F.bm_plain _]
  unfold Builtin.«bytes.__new__»
  refine wpAny_bind (wpAny_of_eq (a := true) rfl ?_)
  refine bm_if_false rfl ?_
  refine wpAny_bind (wpAny_of_eq F.bm_sub ?_)
  refine bm_if_false rfl ?_
  refine wpAny_bind (wpAny_of_eq (F.bm_bind _) ?_)
  refine wpAny_bind (wpAny_of_eq (a := ()) rfl ?_)
  refine wpAny_bind (wpAny_of_eq (a := ()) rfl ?_)
  refine bm_if_false rfl ?_
  refine wpAny_bind (wpAny_specialOf (typeIs_bytes _ _ _) FB.bytes_bytes ?_)
  refine wpAny_bind (wpAny_rule ?_)
  refine wpAny_bind (wpAny_typeOf (typeIs_bytes _ _ _) ?_)
  refine bm_if_true (by decide +kernel) ?_
  show wpAny _ _ (if (Value.type "bytes" == Value.type "bytes") = true then _ else _) _ _ _
  refine bm_if_true (by decide) ?_
  first
    | exact wpAny_pure q
    | exact wpAny_bind (wpAny_pure (wpAny_pure q))
theorem r_bytes_bytes (q : Q (.bytes b t) (S3 s h k)) : wpAny (model PG w) A (call (.type "bytes") [.bytes b t] []) Q E (S3 s h k) := by
  refine callType_codes (Q₁ := fun obj s₁ => s₁.TypeIs obj "bytes" ∧ Q obj s₁) F.bm_called (F.bm_typeCall _) F.entry_object_init (new_of_bytes ⟨typeIs_bytes _ _ _, q⟩) fun obj s₁ h₁ => ?_
  exact ⟨h₁.1, F.args_object_init_2 obj _, object_init_meets F.bm_called.init.lookup F.bm_called.made (by decide) PG w A.in1 _ s₁ ⟨h₁.1, rfl, h₁.2⟩⟩
noncomputable def sliceQ (Q : Value → Shared → Prop) (u : Value) (s₁ : Shared) : Prop := Q (.ref s₁.heap.objs.size) { s₁ with heap := s₁.heap.push { cls := .type "slice", data := .fields #[.none, u, .none] } }
theorem t_sliceQ {u : Value} (q : Q (.ref h.objs.size) (S3 s (h.push { cls := .type "slice", data := .fields #[.none, u, .none] }) k)) : sliceQ Q u (S3 s h k) := q
theorem r_slice_to {env : Env} {e : Expr} {pos : Pos} {s : Shared} (q : wpAny (model PG w) A (eval e env) (sliceQ Q) E s) : wpAny (model PG w) A (eval (.Slice none (some e) none pos) env) Q E s := by
  refine wpAny_Slice ?_
  refine wpAny_evalPart_none ?_
  refine wpAny_evalPart_some ?_
  exact wpAny_mono q (fun u s₂ h₂ => wpAny_evalPart_none h₂) fun _ _ x => x
end bts
end Mine
namespace Mine
theorem filterMap_range (l : List UInt8) : ∀ n, n ≤ l.length → (List.range n).filterMap (fun i => l[i]?) = l.take n
  | 0, _ => by simp
  | n + 1, hn => by
    have hx : l[n]? = some (l[n]'(by walk_at "o")) := List.getElem?_eq_getElem (by walk_at "o")
    rw [List.range_succ, List.filterMap_append, filterMap_range l n (by walk_at "o"), List.take_add_one, hx]
    simp [hx]
theorem picked_to (b : Array UInt8) (n : Int) (h0 : 0 ≤ n) (h1 : n ≤ (b.size : Int)) : KBy.picked b none (some n) = (b.toList.take n.toNat).toArray := by
  unfold KBy.picked sliceBounds Builtin.Bytes.sliced
  have hn : ¬ n < 0 := by walk_at "o"
  have hm : max 0 (min n (b.size : Int)) = n := by walk_at "o"
  simp only [Option.getD_none, hn, if_false, hm, show ((1 : Int) > 0) = True from by simp, if_true]
  congr 1
  obtain ⟨l⟩ := b
  simp only [List.size_toArray] at h1 ⊢
  rw [← filterMap_range l n.toNat (by walk_at "o")]
  have e : sliceRange 0 n 1 = List.range n.toNat := by
    unfold sliceRange
    have e1 : (if (1 : Int) > 0 then (if (0 : Int) < n then (n - 0 + 1 - 1) / 1 else 0) else (if (0 : Int) > n then (0 - n - 1 - 1) / (-1) else 0)).toNat = n.toNat := by
      simp only [show ((1 : Int) > 0) = True from by simp, if_true]
      split <;> walk_at "o"
    simp only [e1]
    conv => rhs; rw [← List.map_id (List.range n.toNat)]
    exact List.map_congr_left fun x _ => by simp
  rw [e]
  simp
theorem whole_to (b : Array UInt8) (n : Int) (h1 : n < (b.size : Int)) (h0 : 0 ≤ n) : KBy.whole b none (some n) = false := by
  unfold KBy.whole sliceBounds
  have hn : ¬ n < 0 := by walk_at "o"
  have hm : max 0 (min n (b.size : Int)) = n := by walk_at "o"
  simp only [Option.getD_none, hn, if_false, hm, show ((1 : Int) > 0) = True from by simp, if_true]
  have : (n == (b.size : Int)) = false := by simp; walk_at "o"
  simp [this]
theorem bitOr_nat (x y : Nat) : Builtin.bitOr (x : Int) (y : Int) = ((x ||| y : Nat) : Int) := by
  unfold Builtin.bitOr Builtin.bitAnd Builtin.bitNot
  have h1 : decide (0 ≤ (-(x : Int) - 1)) = false := by simp; walk_at "o"
  have h2 : decide (0 ≤ (-(y : Int) - 1)) = false := by simp; walk_at "o"
  rw [h1, h2]
  have e1 : (-(-(x : Int) - 1) - 1).toNat = x := by walk_at "o"
  have e2 : (-(-(y : Int) - 1) - 1).toNat = y := by walk_at "o"
  simp only [e1, e2]
  walk_at "o"
/-- the or of two parts that share no bit -/
theorem bitOr_parts {a b : Int} (k : Nat) (a0 : 0 ≤ a) (a1 : a < 2 ^ k) (b0 : 0 ≤ b) : Builtin.bitOr a (b * 2 ^ k) = a + b * 2 ^ k := by
  obtain ⟨x, rfl⟩ := Int.eq_ofNat_of_zero_le a0
  obtain ⟨y, rfl⟩ := Int.eq_ofNat_of_zero_le b0
  have hx : x < 2 ^ k := by exact_mod_cast a1
  have e : ((y : Int) * 2 ^ k) = ((2 ^ k * y : Nat) : Int) := by push_cast; rw [Int.mul_comm]
  rw [e, bitOr_nat, Nat.or_comm, ← Nat.two_pow_add_eq_or_of_lt hx y]
  push_cast; walk_at "o"
theorem bitOr_comm (a b : Int) : Builtin.bitOr a b = Builtin.bitOr b a := by
  unfold Builtin.bitOr
  rw [bitAnd_comm]
theorem bitOr_parts' {a b : Int} (k : Nat) (a0 : 0 ≤ a) (a1 : a < 2 ^ k) (b0 : 0 ≤ b) : Builtin.bitOr (b * 2 ^ k) a = b * 2 ^ k + a := by
  rw [bitOr_comm, bitOr_parts k a0 a1 b0, Int.add_comm]
end Mine
namespace Mine
/-- an object of a class of the text, with the entries of its dict -/
noncomputable def IsInst (h : Heap) (x C : Addr) (es : List DictEntry) : Prop := ∃ dx n, h.get? x = some (instObj C dx) ∧ h.get? dx = some (dictOf es n)
theorem IsInst.mono {h h' : Heap} {x C : Addr} {es : List DictEntry} (k : h.StaysIn h') (I : IsInst h x C es) : IsInst h' x C es :=
  let ⟨dx, n, a, b⟩ := I; ⟨dx, n, k _ _ a, k _ _ b⟩
theorem IsInst.at {h : Heap} {x C : Addr} {es : List DictEntry} (I : IsInst h x C es) : ∃ dx n, PySem.W.InstAt h x (instObj C dx) C (some (dictOf es n)) :=
  let ⟨dx, n, a, b⟩ := I; ⟨dx, n, a, rfl, rfl, b⟩
theorem getL_nil (name : Str) : getL name [] = some none := rfl
theorem isStr_excl {v : Value} {x y : Str} (hx : v.isStr x = true) (hn : x ≠ y) : v.isStr y = false := by
  cases v <;> first | rfl | skip
  rename_i z t
  have e : z = x := by simpa [Value.isStr] using hx
  subst e
  simpa [Value.isStr] using hn
theorem find_putL_self (name : Str) (hs : Int) (t : Tok) (v : Value) : ∀ es : List DictEntry, ∃ e, (putL name hs (.str name t) v es).find? (·.key.isStr name) = some e ∧ e.val = v
  | [] => ⟨⟨hs, .str name t, v⟩, by simp [putL, Value.isStr], rfl⟩
  | e :: r => by
    unfold putL
    cases q : e.key.isStr name with
    | true => exact ⟨⟨e.hash, e.key, v⟩, by simp [q], rfl⟩
    | false =>
      obtain ⟨e', h1, h2⟩ := find_putL_self name hs t v r
      exact ⟨e', by simp [q, h1], h2⟩
theorem getL_put_self (name : Str) (hs : Int) (t : Tok) (v : Value) (es : List DictEntry) : getL name (putL name hs (.str name t) v es) = some (some v) := by
  obtain ⟨e, h1, h2⟩ := find_putL_self name hs t v es
  unfold getL
  rw [h1, ← h2]
theorem find_putL_ne {name x : Str} (hs : Int) (t : Tok) (v : Value) (hn : name ≠ x) : ∀ es : List DictEntry, (putL name hs (.str name t) v es).find? (·.key.isStr x) = es.find? (·.key.isStr x)
  | [] => by
    have : (Value.str name t).isStr x = false := isStr_excl (x := name) (by simp [Value.isStr]) hn
    simp [putL, this]
  | e :: r => by
    unfold putL
    cases q : e.key.isStr name with
    | true =>
      have := isStr_excl q hn
      simp [this]
    | false =>
      simp only [Bool.false_eq_true, if_false, List.find?_cons]
      rw [find_putL_ne hs t v hn r]
theorem any_putL {name : Str} (hs : Int) (t : Tok) (v : Value) : ∀ es : List DictEntry, (putL name hs (.str name t) v es).any (·.refKey) = es.any (·.refKey)
  | [] => by simp [putL, DictEntry.refKey]
  | e :: r => by
    unfold putL
    cases q : e.key.isStr name with
    | true => simp [DictEntry.refKey]
    | false => simp only [Bool.false_eq_true, if_false, List.any_cons]; rw [any_putL hs t v r]
theorem getL_put_ne {name x : Str} (hs : Int) (t : Tok) (v : Value) (hn : name ≠ x) (es : List DictEntry) : getL x (putL name hs (.str name t) v es) = getL x es := by
  unfold getL
  rw [find_putL_ne hs t v hn, any_putL]
theorem putL_len (name : Str) (hs : Int) (key v : Value) : ∀ es : List DictEntry, (putL name hs key v es).length ≤ es.length + 1
  | [] => by simp [putL]
  | e :: r => by
    unfold putL
    split
    · simp
    · have := putL_len name hs key v r
      simp only [List.length_cons]; walk_at "o"
/-- no key is an object -/
noncomputable def NoRef (es : List DictEntry) : Prop := es.any (·.refKey) = false
theorem NoRef.getL {es : List DictEntry} (hn : NoRef es) (x : Str) : (PySem.W.getL x es).isSome = true := by
  unfold PySem.W.getL
  split
  · rfl
  · rw [hn]; rfl
theorem NoRef.put {es : List DictEntry} (hn : NoRef es) {name : Str} (hs : Int) (t : Tok) (v : Value) : NoRef (putL name hs (.str name t) v es) := by
  unfold NoRef; rw [any_putL]; exact hn
theorem NoRef.nil : NoRef [] := rfl
noncomputable def listing (h : Heap) (X : List Addr) : List (Addr × Obj) := (List.range h.objs.size).filterMap fun b => if b ∈ X then none else (h.get? b).map fun o => (b, o)
theorem mem_listing {h : Heap} {X : List Addr} {p : Addr × Obj} : p ∈ listing h X ↔ p.1 ∉ X ∧ h.get? p.1 = some p.2 := by
  unfold listing
  rw [List.mem_filterMap]
  constructor
  · rintro ⟨b, _, hb⟩
    split at hb
    · cases hb
    · rename_i hX
      cases q : h.get? b with
      | none => rw [q] at hb; cases hb
      | some o =>
        rw [q] at hb
        simp only [Option.map_some, Option.some.injEq] at hb
        subst hb
        exact ⟨hX, q⟩
  · rintro ⟨hX, e⟩
    refine ⟨p.1, List.mem_range.mpr (Heap.lt_size e), ?_⟩
    rw [if_neg hX, e]; rfl
theorem news_listing (h : Heap) (L : Addr) (X : List Addr) (hL : L ∈ X) : News {} L h (listing h X) := fun p hp => by
  obtain ⟨a, b⟩ := mem_listing.mp hp
  exact ⟨b, fun e => a (e ▸ hL), by simp [Heap.get?]⟩
section inst
variable {w : World} {A : Around} {E : Value → Shared → Prop} {s : Shared} {h g : Heap} {L x dx C : Addr} {m mg mb : Str → Option Value} {mu : List (Addr × Obj)} {k n : Nat} {es : List DictEntry} {name : Str} {v : Value} {env : Env} {pos apos : Pos}
theorem r_getAttr {Q : Value → Shared → Prop} {attr : Option Value} (G : GK w mg mb g) (O : Own g L h m mu) (I : IsInst h x C es) (hl : getL name es = some (some v)) (hv : handedIn v = true) (hg : plainGet (hd.heap_39 w.params) C name = true) (hh : hasDictIn (hd.heap_39 w.params) C = true)
    (ha : findIn (hd.heap_39 w.params) (.ref C) name = some attr) (hn : noGet (hd.heap_39 w.params) attr = true) (q : Q v (S3 s h (k + 1))) :
    wpAny (model PG w) A (getAttr (.ref x) name true) Q E (S3 s h k) := by
  obtain ⟨dx, n, I⟩ := I.at
  exact get_value (s := S3 s h k) (G.keeps O.keep).x I (plainGet_of hg).1 (findObj_own hh ha hn hl) hv q
theorem r_getMethod {Q : Value × List Value → Shared → Prop} {pl : Sem Bool} {f : Addr} (G : GK w mg mb g) (O : Own g L h m mu) (I : IsInst h x C es) (hl : getL name es = some none) (hg : plainGet (hd.heap_39 w.params) C name = true)
    (hf : findIn (hd.heap_39 w.params) (.ref C) name = some (some (.ref f))) (ht : isFn (hd.heap_39 w.params) (.ref f) = true) (q : Q (.ref f, [.ref x]) (S3 s h k)) :
    wpAny (model PG w) A (getMethod (.ref x) name pl) Q E (S3 s h k) := by
  obtain ⟨dx, n, I⟩ := I.at
  exact method_fn (s := S3 s h k) (G.keeps O.keep).x I (plainGet_of hg).1 (plainGet_of hg).2 hf (beq_iff_eq.mp ht) (by show (lookIn name (dictOf es n)).map _ = _; rw [lookIn_dict, hl]; rfl) q
theorem Own.of_fr {h' : Heap} {X : List (Addr × Obj)} (O : Own g L h m mu) (F : Fr {} L h' m) (N : News {} L h' (X ++ listing h [L])) : Own g L h' m mu := by
  have kp : ∀ b o, b ≠ L → h.get? b = some o → h'.get? b = some o := fun b o hb e => (N (b, o) (List.mem_append_right _ (mem_listing.mpr ⟨by simpa using hb, e⟩))).1
  exact ⟨F.ns, fun b o e => kp b o (O.ne e) (O.keep b o e), O.off, fun p hp => ⟨kp _ _ (O.mus p hp).2.1 (O.mus p hp).1, (O.mus p hp).2⟩, O.nd⟩
theorem r_setAttr {Q : Unit → Shared → Prop} (G : GK w mg mb g) (O : Own g L h m ((dx, dictOf es n) :: mu)) (hx : h.get? x = some (instObj C dx)) (hr : NoRef es) (hz : es.length ≤ 900)
    (hs : findIn (hd.heap_39 w.params) (.ref C) "__setattr__" = some (some (.builtin "object.__setattr__"))) (hp : plainOver (hd.heap_39 w.params) C = true) (ht : takerIn (hd.heap_39 w.params) C name = some none) (hh : hasDictIn (hd.heap_39 w.params) C = true)
    (q : ∀ h' hsh tk n', Own g L h' m ((dx, dictOf (putL name hsh (.str name tk) v es) n') :: mu) → Q () (S3 s h' (k + 2))) :
    wpAny (model PG w) A (setAttr (.ref x) name v) Q E (S3 s h k) := by
  have hd0 : h.get? dx = some (dictOf es n) := O.head
  have dL : dx ≠ L := (O.mus _ (.head _)).2.1
  have I : PySem.W.InstAt h x (instObj C dx) C (some (dictOf es n)) := ⟨hx, rfl, rfl, hd0⟩
  have X := (G.keeps O.keep).x
  have N : News {} L h ([] ++ (dx, dictOf es n) :: listing h [L, dx]) := fun p hp => by
    rcases List.mem_cons.mp hp with rfl | hp
    · exact ⟨hd0, dL, by simp [Heap.get?]⟩
    · exact news_listing h L _ (by simp) p hp
  refine set_plain (s := S3 s h k) X I hs (osa_dict (s := { S3 s h k with toks := k + 1 }) (pre := []) O.fr N X I rfl hp ht hh (by rw [lookIn_dict]; exact hr.getL name) (fun _ hp => nomatch hp) (fun p hp e => ?_) (putName_dict _ _ _ _ _ _) rfl ?_ fun h' F' N' => ?_)
  · exact (mem_listing.mp hp).1 (by rw [e]; simp)
  · exact Nat.le_trans (putL_len name (PyData.keyHash w.params name) (.str name (k + 1)) v es) (by walk_at "o")
  · refine q h' (PyData.keyHash w.params name) (k + 1) (putN name es n) ?_
    have kp : ∀ b o, b ≠ L → b ≠ dx → h.get? b = some o → h'.get? b = some o := fun b o hb hb' e => (N' (b, o) (.tail _ (mem_listing.mpr ⟨by simp [hb, hb'], e⟩))).1
    have hnd := List.nodup_cons.mp O.nd
    refine ⟨F'.ns, fun b o e => kp b o (O.ne e) (fun z => ?_) (O.keep b o e), O.off, fun p hp => ?_, O.nd⟩
    · subst z; rw [(O.mus _ (.head _)).2.2] at e; cases e
    · rcases List.mem_cons.mp hp with rfl | hp
      · exact ⟨(N' _ (.head _)).1, (O.mus _ (.head _)).2⟩
      · have P := O.mus p (.tail _ hp)
        exact ⟨kp _ _ P.2.1 (fun z => hnd.1 (List.mem_map.mpr ⟨p, hp, z⟩)) P.1, P.2⟩
/-- an object is made; what comes next is its __init__ -/
theorem r_make {Q : Value → Shared → Prop} {args : List Value} {fI : Addr} (G : GK w mg mb g) (O : Own g L h m mu) (hm : makesIn (hd.heap_39 w.params) C = true) (hi : findIn (hd.heap_39 w.params) (.ref C) "__init__" = some (some (.ref fI))) (hf : isFn (hd.heap_39 w.params) (.ref fI) = true)
    (q : ∀ x dx h', h.get? x = none → h.get? dx = none → Own g L h' m ((dx, dictOf [] 0) :: (x, instObj C dx) :: mu) →
      codeAny (model PG w) (A.under (.builtin "type.__call__" ⟨.ref C :: args, []⟩)) (.call (.ref fI) ⟨.ref x :: args, []⟩) (InitBack x (fun r s' => match r with | .ok (.ret v) => Q v s' | .ok _ => False | .error e => E e s')) (S3 s h' k)) :
    wpAny (model PG w) A (call (.ref C) args []) Q E (S3 s h k) := by
  refine wpAny_call (make_K (s := S3 s h k) O.fr (news_listing h L [L] (by simp)) (G.keeps O.keep).x hm hi (beq_iff_eq.mp hf) fun x dx h' F' N' l1 l2 => ?_)
  have kp : ∀ b o, b ≠ L → h.get? b = some o → h'.get? b = some o := fun b o hb e => (N' (b, o) (.tail _ (.tail _ (mem_listing.mpr ⟨by simp [hb], e⟩)))).1
  have dxL : dx ≠ L := (N' _ (.tail _ (.head _))).2.1
  have xL : x ≠ L := (N' _ (.head _)).2.1
  have fresh : ∀ b, dx ≤ b → b ≠ L → h.get? b = none := fun b hb hL => by
    cases e : h.get? b with
    | none => rfl
    | some o => have := l1 (b, o) (mem_listing.mpr ⟨by simpa using hL, e⟩); exact absurd (Nat.lt_of_lt_of_le this hb) (Nat.lt_irrefl _)
  have fx := fresh x (Nat.le_of_lt l2) xL
  have fd := fresh dx (Nat.le_refl _) dxL
  have Ob : Own g L h' m mu := ⟨F'.ns, fun b o e => kp b o (O.ne e) (O.keep b o e), O.off, fun p hp => ⟨kp _ _ (O.mus p hp).2.1 (O.mus p hp).1, (O.mus p hp).2⟩, O.nd⟩
  refine q x dx h' fx fd ⟨Ob.ns, Ob.keep, Ob.off, fun p hp => ?_, ?_⟩
  · rcases List.mem_cons.mp hp with rfl | hp
    · exact ⟨(N' _ (.tail _ (.head _))).1, dxL, O.fresh fd⟩
    · rcases List.mem_cons.mp hp with rfl | hp
      · exact ⟨(N' _ (.head _)).1, xL, O.fresh fx⟩
      · exact Ob.mus p hp
  · refine List.nodup_cons.mpr ⟨fun q => ?_, List.nodup_cons.mpr ⟨O.neMu fx, O.nd⟩⟩
    rcases List.mem_cons.mp q with e | e
    · exact absurd l2 (by rw [show x = dx from e.symm]; exact Nat.lt_irrefl _)
    · exact O.neMu fd e
theorem r_make0 {Q : Value → Shared → Prop} (G : GK w mg mb g) (O : Own g L h m mu) (hm : makesIn (hd.heap_39 w.params) C = true) (hi : findIn (hd.heap_39 w.params) (.ref C) "__init__" = some (some (.builtin "object.__init__")))
    (q : ∀ x dx h', h.get? x = none → h.get? dx = none → Own g L h' m ((dx, dictOf [] 0) :: (x, instObj C dx) :: mu) → Q (.ref x) (S3 s h' k)) :
    wpAny (model PG w) A (call (.ref C) [] []) Q E (S3 s h k) := by
  refine wpAny_call (make_K0 (s := S3 s h k) O.fr (news_listing h L [L] (by simp)) (G.keeps O.keep).x hm hi fun x dx h' F' N' l1 l2 => ?_)
  have kp : ∀ b o, b ≠ L → h.get? b = some o → h'.get? b = some o := fun b o hb e => (N' (b, o) (.tail _ (.tail _ (mem_listing.mpr ⟨by simp [hb], e⟩)))).1
  have dxL : dx ≠ L := (N' _ (.tail _ (.head _))).2.1
  have xL : x ≠ L := (N' _ (.head _)).2.1
  have fresh : ∀ b, dx ≤ b → b ≠ L → h.get? b = none := fun b hb hL => by
    cases e : h.get? b with
    | none => rfl
    | some o => have := l1 (b, o) (mem_listing.mpr ⟨by simpa using hL, e⟩); exact absurd (Nat.lt_of_lt_of_le this hb) (Nat.lt_irrefl _)
  have fx := fresh x (Nat.le_of_lt l2) xL
  have fd := fresh dx (Nat.le_refl _) dxL
  have Ob : Own g L h' m mu := ⟨F'.ns, fun b o e => kp b o (O.ne e) (O.keep b o e), O.off, fun p hp => ⟨kp _ _ (O.mus p hp).2.1 (O.mus p hp).1, (O.mus p hp).2⟩, O.nd⟩
  refine q x dx h' fx fd ⟨Ob.ns, Ob.keep, Ob.off, fun p hp => ?_, ?_⟩
  · rcases List.mem_cons.mp hp with rfl | hp
    · exact ⟨(N' _ (.tail _ (.head _))).1, dxL, O.fresh fd⟩
    · rcases List.mem_cons.mp hp with rfl | hp
      · exact ⟨(N' _ (.head _)).1, xL, O.fresh fx⟩
      · exact Ob.mus p hp
  · refine List.nodup_cons.mpr ⟨fun q => ?_, List.nodup_cons.mpr ⟨O.neMu fx, O.nd⟩⟩
    rcases List.mem_cons.mp q with e | e
    · exact absurd l2 (by rw [show x = dx from e.symm]; exact Nat.lt_irrefl _)
    · exact O.neMu fd e
end inst
/-- what turns: one object -/
noncomputable def KeepBut (d : Addr) (h h' : Heap) : Prop := ∀ b o, b ≠ d → h.get? b = some o → h'.get? b = some o
theorem OkA.under {A : Around} {n : Nat} {C : Addr} {args : List Value} (h : OkA A (n + 1)) : OkA (A.under (.builtin "type.__call__" ⟨.ref C :: args, []⟩)) n := by
  refine ⟨h.handled, ?_, ?_⟩
  · have := h.depth
    show A.depth + 1 + 2 * n < _
    walk_at "o"
  · have := h.units
    show A.units + 1 + 10 * n < _
    walk_at "o"
end Mine
namespace Mine
noncomputable def whQ (s : Shared) (I : Nat → Heap → Nat → Prop) (n : Nat) (Q : Flow → Shared → Prop) (f : Flow) (s₃ : Shared) : Prop :=
  match f with
  | .ret v => Q (.ret v) s₃
  | .brk => Q .next s₃
  | _ => ∃ n' h k, n' < n ∧ s₃ = S3 s h k ∧ I n' h k
section loops
variable {w : World} {A : Around} {E : Value → Shared → Prop} {s : Shared} {h g : Heap} {L : Addr} {m mg mb : Str → Option Value} {mu : List (Addr × Obj)} {k : Nat} {env : Env} {pos : Pos}
/-- a while that raises nothing -/
theorem r_while {test : Expr} {body : List Stmt} {Q : Flow → Shared → Prop} (I : Nat → Heap → Nat → Prop) (n : Nat) (h0 : I n h k)
    (turn : ∀ E' n h k, I n h k → wpAny (model PG w) A (isTrue test env (eval test env)) (fun b s₂ => if b = true then wpAny (model PG w) A (execs body env) (whQ s I n Q) E' s₂ else Q .next s₂) E' (S3 s h k)) :
    wpAny (model PG w) A (exec (.While test body [] pos) env) Q E (S3 s h k) := by
  refine wpAny_While (codeAny_whileLoop (fun n s' => ∃ h k, s' = S3 s h k ∧ I n h k) ?_ n ⟨h, k, rfl, h0⟩)
  rintro n s' ⟨h, k, rfl, hI⟩
  refine wpAny_mono (turn _ n h k hI) (fun b s₂ hb => ?_) fun _ _ x => x
  cases b with
  | false =>
    simp only [Bool.false_eq_true, if_false] at hb ⊢
    exact wpAny_execs_nil hb
  | true =>
    simp only [if_true] at hb ⊢
    refine wpAny_mono hb (fun f s₃ hf => ?_) fun _ _ x => x
    cases f with
    | next => obtain ⟨n', h', k', hn, e, hi⟩ := hf; exact ⟨n', hn, h', k', e, hi⟩
    | cont => obtain ⟨n', h', k', hn, e, hi⟩ := hf; exact ⟨n', hn, h', k', e, hi⟩
    | brk => exact hf
    | ret v => exact hf
/-- the end of a turn of a for: p is the iterator -/
noncomputable def forQ (s : Shared) (g : Heap) (L : Addr) (p : Addr × Obj) (J : Heap → (Str → Option Value) → List (Addr × Obj) → Prop) (Q : Flow → Shared → Prop) (f : Flow) (s₃ : Shared) : Prop :=
  match f with
  | .ret v => Q (.ret v) s₃
  | .brk => Q .next s₃
  | _ => ∃ g' h' m' mu' k', s₃ = S3 s h' k' ∧ g.StaysIn g' ∧ Own g' L h' m' (p :: mu') ∧ J g' m' mu'
/-- the end of a turn, with a word about the whole heap -/
noncomputable def forU (s : Shared) (g : Heap) (L : Addr) (p : Addr × Obj) (U : Heap → Prop) (J : Heap → (Str → Option Value) → List (Addr × Obj) → Prop) (Q : Flow → Shared → Prop) (f : Flow) (s₃ : Shared) : Prop :=
  match f with
  | .ret v => Q (.ret v) s₃
  | .brk => Q .next s₃
  | _ => ∃ g' h' m' mu' k', s₃ = S3 s h' k' ∧ g.StaysIn g' ∧ Own g' L h' m' (p :: mu') ∧ U h' ∧ J g' m' mu'
/-- a for over an iterator, by what holds between the turns, with a word about the whole heap and with what the body raises -/
theorem code_forU {target : Expr} {body : List Stmt} {Q : Flow → Shared → Prop} {R : Result → Shared → Prop} {I : Addr} {oI : Obj} {fp wr : List Addr} {n : Nat} {P : Nat → Value → Prop} {St : Nat → Heap → Prop} {U : Heap → Prop}
    (W : Walks PG w A I fp wr n P St) (hfp : ∀ b ∈ fp, b = I ∨ ∃ o, g.get? b = some o) (hwr : ∀ b ∈ wr, b = I) (hSt : ∀ i h, St i h → ∃ o, h.get? I = some o) (hst : St 0 h)
    (O : Own g L h m ((I, oI) :: mu)) (J : Nat → Heap → (Str → Option Value) → List (Addr × Obj) → Prop) (j0 : J 0 g m mu)
    (hU : ∀ h h' : Heap, (∀ b o, b ≠ I → h.get? b = some o → h'.get? b = some o) → U h → U h') (u0 : U h)
    (hR : ∀ f s', Q f s' → R (.ok f) s')
    (turn : ∀ i v g' h' m' mu' p k', p.1 = I → i < n → P i v → g.StaysIn g' → J i g' m' mu' → U h' → Own g' L h' m' (p :: mu') →
      wpAny (model PG w) A (assign target env v) (fun _ s₂ => wpAny (model PG w) A (execs body env) (forU s g' L p U (J (i + 1)) Q) (notedBy (model PG w) A env fun e s' => R (.error e) s') s₂) (notedBy (model PG w) A env fun e s' => R (.error e) s') (S3 s h' k'))
    (done : ∀ g' h' m' mu' k', g.StaysIn g' → J n g' m' mu' → U h' → Own g' L h' m' mu' → Q .next (S3 s h' k'))
    (hgo : ∀ i (s' : Shared) v (Q' : Unit → Shared → Prop), St i s'.heap → Q' () s' → wpAny (model PG w) A (letOwnedTupleGo target (.ref I) v) Q' (notedBy (model PG w) A env fun e s' => R (.error e) s') s') :
    codeAny (model PG w) A (.forLoop target (.ref I) body [] env) R (S3 s h k) := by
  refine codeAny_forLoop_any (fun c s' => ∃ i h' k' g' m' mu' o', s' = S3 s h' k' ∧ c = n - i ∧ i ≤ n ∧ g.StaysIn g' ∧ St i h' ∧ U h' ∧ Own g' L h' m' ((I, o') :: mu') ∧ J i g' m' mu') ?_ n
    ⟨0, h, k, g, m, mu, oI, rfl, rfl, Nat.zero_le _, fun _ _ e => e, hst, u0, O, j0⟩
  rintro c s' ⟨i, h', k', g', m', mu', o', rfl, rfl, hi, hg, hs, hu, O', hj⟩
  have hown : ∀ {h₁ : Heap} {o₁ : Obj}, (∀ b o, b ∉ wr → h'.get? b = some o → h₁.get? b = some o) → h₁.get? I = some o₁ → Own g' L h₁ m' ((I, o₁) :: mu') := fun {h₁ o₁} hk e => by
    have hI := O'.mus _ (.head _)
    have hnd := List.nodup_cons.mp O'.nd
    have kp : ∀ b o, b ≠ I → h'.get? b = some o → h₁.get? b = some o := fun b o hb q => hk b o (fun z => hb (hwr b z)) q
    refine ⟨?_, fun b o q => kp b o (fun z => by subst z; rw [hI.2.2] at q; cases q) (O'.keep b o q), O'.off, fun p hp => ?_, O'.nd⟩
    · obtain ⟨oL, es, ep, hL, r⟩ := O'.ns
      exact ⟨oL, es, ep, kp L oL (fun z => hI.2.1 z.symm) hL, r⟩
    · rcases List.mem_cons.mp hp with rfl | hp
      · exact ⟨e, hI.2⟩
      · have Pp := O'.mus p (.tail _ hp)
        exact ⟨kp _ _ (fun z => hnd.1 (List.mem_map.mpr ⟨p, hp, z⟩)) Pp.1, Pp.2⟩
  have hdrop : ∀ {h₁ : Heap}, (∀ b o, b ∉ wr → h'.get? b = some o → h₁.get? b = some o) → Own g' L h₁ m' mu' := fun {h₁} hk => by
    have hI := O'.mus _ (.head _)
    have hnd := List.nodup_cons.mp O'.nd
    have kp : ∀ b o, b ≠ I → h'.get? b = some o → h₁.get? b = some o := fun b o hb q => hk b o (fun z => hb (hwr b z)) q
    refine ⟨?_, fun b o q => kp b o (fun z => by subst z; rw [hI.2.2] at q; cases q) (O'.keep b o q), O'.off, fun p hp => ?_, (List.nodup_cons.mp O'.nd).2⟩
    · obtain ⟨oL, es, ep, hL, r⟩ := O'.ns
      exact ⟨oL, es, ep, kp L oL (fun z => hI.2.1 z.symm) hL, r⟩
    · have Pp := O'.mus p (.tail _ hp)
      exact ⟨kp _ _ (fun z => hnd.1 (List.mem_map.mpr ⟨p, hp, z⟩)) Pp.1, Pp.2⟩
  by_cases hlt : i < n
  · refine W.item i _ _ _ hlt hs fun v h₁ tk₁ hP hst₁ hk₁ => ?_
    refine hgo (i + 1) _ v _ hst₁ ?_
    show wpAny (model PG w) A (assign target env v) _ _ (S3 s h₁ tk₁)
    obtain ⟨o₁, e₁⟩ := hSt _ _ hst₁
    have O₁ := hown hk₁ e₁
    have hu₁ : U h₁ := hU _ _ (fun b o hb q => hk₁ b o (fun z => hb (hwr b z)) q) hu
    refine wpAny_mono (turn i v g' h₁ m' mu' (I, o₁) tk₁ rfl hlt hP hg hj hu₁ O₁) (fun _ s₂ h₂ => wpAny_mono h₂ (fun f s₃ hf => ?_) fun _ _ x => x) fun _ _ x => x
    have fin : (∃ g'' h'' m'' mu'' k'', s₃ = S3 s h'' k'' ∧ g'.StaysIn g'' ∧ Own g'' L h'' m'' ((I, o₁) :: mu'') ∧ U h'' ∧ J (i + 1) g'' m'' mu'') →
        ∃ m, m < n - i ∧ ∃ i h' k' g' m' mu' o', s₃ = S3 s h' k' ∧ m = n - i ∧ i ≤ n ∧ g.StaysIn g' ∧ St i h' ∧ U h' ∧ Own g' L h' m' ((I, o') :: mu') ∧ J i g' m' mu' := by
      rintro ⟨g'', h'', m'', mu'', k'', rfl, st, O₂, u₂, j₂⟩
      refine ⟨n - (i + 1), by walk_at "o", i + 1, h'', k'', g'', m'', mu'', o₁, rfl, rfl, hlt, fun b o e => st b o (hg b o e), ?_, u₂, O₂, j₂⟩
      refine W.frame _ _ _ hst₁ fun b hb o e => ?_
      rcases hfp b hb with rfl | ⟨ob, eb⟩
      · rw [e₁] at e; cases e; exact O₂.head
      · have e' := O₁.keep b ob (hg b ob eb)
        rw [e'] at e; cases e
        exact O₂.keep b o (st b o (hg b o eb))
    cases f with
    | next => exact fin hf
    | cont => exact fin hf
    | brk => exact hR _ _ hf
    | ret v => exact hR _ _ hf
  · have hin : i = n := by walk_at "o"
    subst hin
    refine W.done _ _ _ hs fun h₁ tk₁ hk₁ => ?_
    exact wpAny_execs_nil (hR _ _ (done g' h₁ m' mu' tk₁ hg hj (hU _ _ (fun b o hb q => hk₁ b o (fun z => hb (hwr b z)) q) hu) (hdrop hk₁)))
/-- a for over an iterator, by what holds between the turns -/
theorem code_for {target : Expr} {body : List Stmt} {Q : Flow → Shared → Prop} {R : Result → Shared → Prop} {I : Addr} {oI : Obj} {fp wr : List Addr} {n : Nat} {P : Nat → Value → Prop} {St : Nat → Heap → Prop}
    (W : Walks PG w A I fp wr n P St) (hfp : ∀ b ∈ fp, b = I ∨ ∃ o, g.get? b = some o) (hwr : ∀ b ∈ wr, b = I) (hSt : ∀ i h, St i h → ∃ o, h.get? I = some o) (hst : St 0 h)
    (O : Own g L h m ((I, oI) :: mu)) (J : Nat → Heap → (Str → Option Value) → List (Addr × Obj) → Prop) (j0 : J 0 g m mu)
    (hR : ∀ f s', Q f s' → R (.ok f) s')
    (turn : ∀ i v g' h' m' mu' p k', i < n → P i v → g.StaysIn g' → J i g' m' mu' → Own g' L h' m' (p :: mu') →
      wpAny (model PG w) A (assign target env v) (fun _ s₂ => wpAny (model PG w) A (execs body env) (forQ s g' L p (J (i + 1)) Q) (notedBy (model PG w) A env fun e s' => R (.error e) s') s₂) (notedBy (model PG w) A env fun e s' => R (.error e) s') (S3 s h' k'))
    (done : ∀ g' h' m' mu' k', g.StaysIn g' → J n g' m' mu' → Own g' L h' m' mu' → Q .next (S3 s h' k'))
    (ht : ∀ v, letOwnedTupleGo target (.ref I) v = pure () := by intro _; rfl) :
    codeAny (model PG w) A (.forLoop target (.ref I) body [] env) R (S3 s h k) := by
  refine code_forU (U := fun _ => True) W hfp hwr hSt hst O J j0 (fun _ _ _ _ => trivial) trivial hR (fun i v g' h' m' mu' p k' _ hi hP hg hj _ O' => ?_) (fun g' h' m' mu' k' hg hj _ O => done g' h' m' mu' k' hg hj O) fun i s' v Q' _ q => wpAny_of_eq (ht v) q
  refine wpAny_mono (turn i v g' h' m' mu' p k' hi hP hg hj O') (fun _ s₂ h₂ => wpAny_mono h₂ (fun f s₃ hf => ?_) fun _ _ x => x) fun _ _ x => x
  cases f with
  | next => obtain ⟨g'', h'', m'', mu'', k'', e, st, O₂, j₂⟩ := hf; exact ⟨g'', h'', m'', mu'', k'', e, st, O₂, trivial, j₂⟩
  | cont => obtain ⟨g'', h'', m'', mu'', k'', e, st, O₂, j₂⟩ := hf; exact ⟨g'', h'', m'', mu'', k'', e, st, O₂, trivial, j₂⟩
  | brk => exact hf
  | ret v => exact hf
noncomputable def cbQ (w : World) (A : Around) (env : Env) (Q : Flow → Shared → Prop) (E : Value → Shared → Prop) (r : Result) (s' : Shared) : Prop :=
  match r with
  | .ok f => Q f s'
  | .error e => cameBackBy (model PG w) A env E e s'
theorem r_for {target iter : Expr} {body : List Stmt} {Q : Flow → Shared → Prop} {s : Shared}
    (q : wpAny (model PG w) A (eval iter env) (fun x s₁ => wpAny (model PG w) A (pyIter x) (fun it s₂ => codeAny (model PG w) A (.forLoop target it body [] env) (cbQ w A env Q E) s₂) E s₁) E s)
    (hs : ∀ x, foldedSetIterable iter env x = pure x) : wpAny (model PG w) A (exec (.For target iter body [] pos) env) Q E s :=
  wpAny_For (wpAny_mono q (fun x s₁ h₁ => wpAny_mono h₁ (fun it s₂ h₂ => codeAny_mono h₂ fun r s' hr => hr) fun _ _ x => x) fun _ _ x => x) hs
/-- for x in a list: nothing is raised -/
theorem r_iter_list {target : Expr} {body : List Stmt} {Q : Flow → Shared → Prop} {a : Addr} {vs : Array Value} (hA : A.handled = none) (O : Own g L h m mu) (hl : g.IsList a vs)
    (J : Nat → Heap → (Str → Option Value) → List (Addr × Obj) → Prop) (j0 : J 0 g m mu)
    (turn : ∀ E' i v g' h' m' mu' p k', i < vs.size → vs[i]? = some v → g.StaysIn g' → J i g' m' mu' → Own g' L h' m' (p :: mu') →
      wpAny (model PG w) A (assign target env v) (fun _ s₂ => wpAny (model PG w) A (execs body env) (forQ s g' L p (J (i + 1)) Q) E' s₂) E' (S3 s h' k'))
    (done : ∀ g' h' m' mu' k', g.StaysIn g' → J vs.size g' m' mu' → Own g' L h' m' mu' → Q .next (S3 s h' k'))
    (ht : ∀ v I, letOwnedTupleGo target (.ref I) v = pure ()) :
    wpAny (model PG w) A (pyIter (.ref a)) (fun it s₂ => codeAny (model PG w) A (.forLoop target it body [] env) (cbQ w A env Q E) s₂) E (S3 s h k) := by
  have hls := O.list hl
  refine wpAny_pyIter_list (s := S3 s h k) hls ?_
  obtain ⟨ol, hol, _⟩ := id hl
  have hne : a ≠ h.objs.size := Nat.ne_of_lt (Heap.lt_size (O.keep _ _ hol))
  have O' := O.add (b := h.objs.size) (o := { cls := .type "list_iterator", data := .fields #[.ref a, .int 0 0] }) (fun _ _ e => Heap.get?_push_of_some _ e) (get_size h) (Heap.get?_push_size _ rfl)
  refine code_for (h := h.push { cls := .type "list_iterator", data := .fields #[.ref a, .int 0 0] }) (Walks.list hA h.objs.size a hne vs) ?_ ?_ ?_ ⟨⟨_, Heap.get?_push_size _ rfl, rfl, rfl⟩, hls.at fun o e => Heap.get?_push_of_some _ e⟩ O' J j0 (fun _ _ x => x) ?_ done (fun v => ht v _)
  · intro b hb
    rcases List.mem_cons.mp hb with e | hb
    · exact .inl e
    · exact .inr ⟨ol, by rw [List.mem_singleton.mp hb]; exact hol⟩
  · exact fun b hb => List.mem_singleton.mp hb
  · rintro i h' ⟨⟨o, e, _⟩, _⟩; exact ⟨o, e⟩
  · exact fun i v g' h' m' mu' p k' hi hP hg hj O' => turn _ i v g' h' m' mu' p k' hi hP hg hj O'
/-- for x in a range -/
theorem r_iter_range {target : Expr} {body : List Stmt} {Q : Flow → Shared → Prop} {r : Addr} {a b c : Int} {t u v : Tok} {n : Nat} (hA : A.handled = none) (O : Own g L h m mu) (hr : IsRange h r a b c t u v)
    (hsm : Builtin.Range.small a b c = true) (hn : Builtin.Range.rangeSize a b c = (n : Int))
    (J : Nat → Heap → (Str → Option Value) → List (Addr × Obj) → Prop) (j0 : J 0 g m mu)
    (turn : ∀ E' i tk g' h' m' mu' p k', i < n → g.StaysIn g' → J i g' m' mu' → Own g' L h' m' (p :: mu') →
      wpAny (model PG w) A (assign target env (.int (a + (i : Int) * c) tk)) (fun _ s₂ => wpAny (model PG w) A (execs body env) (forQ s g' L p (J (i + 1)) Q) E' s₂) E' (S3 s h' k'))
    (done : ∀ g' h' m' mu' k', g.StaysIn g' → J n g' m' mu' → Own g' L h' m' mu' → Q .next (S3 s h' k'))
    (ht : ∀ v I, letOwnedTupleGo target (.ref I) v = pure ()) :
    wpAny (model PG w) A (pyIter (.ref r)) (fun it s₂ => codeAny (model PG w) A (.forLoop target it body [] env) (cbQ w A env Q E) s₂) E (S3 s h k) := by
  refine wpAny_pyIter_range (s := S3 s h k) hr hsm ?_
  rw [hn]
  have O' := O.add (b := h.objs.size) (o := { cls := .type "range_iterator", data := .fields #[rawInt a, rawInt (n : Int), rawInt c] }) (fun _ _ e => Heap.get?_push_of_some _ e) (get_size h) (Heap.get?_push_size _ rfl)
  refine code_for (h := h.push { cls := .type "range_iterator", data := .fields #[rawInt a, rawInt (n : Int), rawInt c] }) (Walks.range hA h.objs.size a c n) ?_ ?_ ?_ (by show IsRangeIter _ _ _ _ _; simpa using Heap.get?_push_size _ rfl) O' J j0 (fun _ _ x => x) ?_ done (fun v => ht v _)
  · exact fun b hb => .inl (List.mem_singleton.mp hb)
  · exact fun b hb => List.mem_singleton.mp hb
  · rintro i h' st; exact ⟨_, st⟩
  · rintro i v g' h' m' mu' p k' hi ⟨tk, rfl⟩ hg hj O'
    exact turn _ i tk g' h' m' mu' p k' hi hg hj O'
theorem r_range1 {Q : Value → Shared → Prop} {n : Int} {t : Tok} (q : ∀ a h' k' t₁ u₁ v₁, h.StaysIn h' → IsRange h' a 0 n 1 t₁ u₁ v₁ → Q (.ref a) (S3 s h' k')) : wpAny (model PG w) A (call (.type "range") [.int n t] []) Q E (S3 s h k) :=
  call_range_1 (s := S3 s h k) (q _ _ _ _ _ _ (fun _ _ e => Heap.get?_push_of_some _ e) (IsRange.new ..))
theorem r_range2 {Q : Value → Shared → Prop} {a b : Int} {t u : Tok} (q : ∀ x h' k' t₁ u₁ v₁, h.StaysIn h' → IsRange h' x a b 1 t₁ u₁ v₁ → Q (.ref x) (S3 s h' k')) : wpAny (model PG w) A (call (.type "range") [.int a t, .int b u] []) Q E (S3 s h k) :=
  call_range_2 (s := S3 s h k) (q _ _ _ _ _ _ (fun _ _ e => Heap.get?_push_of_some _ e) (IsRange.new ..))
theorem r_range3 {Q : Value → Shared → Prop} {a b c : Int} {t u v : Tok} (hc : c ≠ 0) (hz : c.natAbs < 1073741824) (q : ∀ x h' k' t₁ u₁ v₁, h.StaysIn h' → IsRange h' x a b c t₁ u₁ v₁ → Q (.ref x) (S3 s h' k')) : wpAny (model PG w) A (call (.type "range") [.int a t, .int b u, .int c v] []) Q E (S3 s h k) :=
  call_range_3 (s := S3 s h k) hc (q _ _ _ _ _ _ (fun _ _ e => Heap.get?_push_of_some _ e) (IsRange.new ..)) (Or.inl (PyProof.noPylong_small hz))
theorem r_assign_name {x : Str} {p : Pos} {v : Value} {Q : Unit → Shared → Prop} (O : Own g L h m mu) (hl : env.kindOf x = some .local) (hL : env.locals = L)
    (q : ∀ h', Own g L h' (fun y => if y = x then some v else m y) mu → Q () (S3 s h' (k + 1)))
    (hp : (env.scope.kind == .class || (env.scope.kind == .module && env.locals != env.globals)) = false) : wpAny (model PG w) A (assign (.Name x p) env v) Q E (S3 s h k) :=
  wpAny_assign_Name (r_store O hl hL q hp)
end loops
end Mine
namespace Mine
inductive All2 {α β : Type} (R : α → β → Prop) : List α → List β → Prop
  | nil : All2 R [] []
  | cons {a b as bs} : R a b → All2 R as bs → All2 R (a :: as) (b :: bs)
namespace All2
variable {α β : Type} {R S : α → β → Prop} {as as' : List α} {bs bs' : List β}
theorem length (h : All2 R as bs) : as.length = bs.length := by
  induction h with
  | nil => rfl
  | cons _ _ ih => simp [ih]
theorem imp (k : ∀ a b, R a b → S a b) (h : All2 R as bs) : All2 S as bs := by
  induction h with
  | nil => exact .nil
  | cons a _ ih => exact .cons (k _ _ a) ih
theorem get (h : All2 R as bs) : ∀ {i : Nat} {b : β}, bs[i]? = some b → ∃ a, as[i]? = some a ∧ R a b := by
  induction h with
  | nil => intro i b e; simp at e
  | cons x _ ih =>
    intro i b e
    cases i with
    | zero => simp at e; subst e; exact ⟨_, rfl, x⟩
    | succ i => simp at e; obtain ⟨a, h1, h2⟩ := ih e; exact ⟨a, by simpa using h1, h2⟩
theorem get' (h : All2 R as bs) : ∀ {i : Nat} {a : α}, as[i]? = some a → ∃ b, bs[i]? = some b ∧ R a b := by
  induction h with
  | nil => intro i b e; simp at e
  | cons x _ ih =>
    intro i b e
    cases i with
    | zero => simp at e; subst e; exact ⟨_, rfl, x⟩
    | succ i => simp at e; obtain ⟨a, h1, h2⟩ := ih e; exact ⟨a, by simpa using h1, h2⟩
theorem append (h : All2 R as bs) (h' : All2 R as' bs') : All2 R (as ++ as') (bs ++ bs') := by
  induction h with
  | nil => exact h'
  | cons a _ ih => exact .cons a ih
theorem snoc {a : α} {b : β} (h : All2 R as bs) (x : R a b) : All2 R (as ++ [a]) (bs ++ [b]) := h.append (.cons x .nil)
theorem take (h : All2 R as bs) : ∀ n, All2 R (as.take n) (bs.take n) := by
  induction h with
  | nil => intro n; simp; exact .nil
  | cons a _ ih => intro n; cases n with
    | zero => exact .nil
    | succ n => exact .cons a (ih n)
end All2
end Mine
namespace Mine
theorem Own.updK {g h h' : Heap} {L d : Addr} {m : Str → Option Value} {mu : List (Addr × Obj)} {o o' : Obj} (O : Own g L h m ((d, o) :: mu)) (k : KeepBut d h h') (e : h'.get? d = some o') : Own g L h' m ((d, o') :: mu) := by
  have hb := O.mus _ (.head _)
  have hnd := List.nodup_cons.mp O.nd
  refine ⟨?_, fun c x q => k c x (fun z => ?_) (O.keep c x q), O.off, fun p hp => ?_, O.nd⟩
  · obtain ⟨oL, es, ep, hL, r⟩ := O.ns
    exact ⟨oL, es, ep, k L oL (fun z => hb.2.1 z.symm) hL, r⟩
  · subst z; rw [hb.2.2] at q; cases q
  · rcases List.mem_cons.mp hp with rfl | hp
    · exact ⟨e, hb.2⟩
    · have P := O.mus p (.tail _ hp)
      exact ⟨k _ _ (fun z => hnd.1 (List.mem_map.mpr ⟨p, hp, z⟩)) P.1, P.2⟩
theorem KeepBut.trans {d : Addr} {h h' h'' : Heap} (a : KeepBut d h h') (b : KeepBut d h' h'') : KeepBut d h h'' := fun c o hc e => b c o hc (a c o hc e)
theorem KeepBut.of_stays {d : Addr} {h h' : Heap} (k : h.StaysIn h') : KeepBut d h h' := fun c o _ e => k c o e
/-- the call of a def that turns one object -/
theorem enter_mut {w : World} {A : Around} {s : Shared} {hp g0 : Heap} {k : Nat} {mg mb : Str → Option Value} {Q : Value → Shared → Prop} {R : Result → Shared → Prop} {n : Nat}
    {name qual : Str} {params : Arguments} {body : List Stmt} {scope : Scope} {dV kV doc pm cdv ct oc : Value} {an od : Option Addr} {osl : Array (Option Value)} {f dx : Addr} {ox : Obj} {args : Args}
    (binds : List (Str × Value))
    (G : GK w mg mb g0) (k0 : g0.StaysIn hp) (d0 : g0.get? dx = none) (hdx : hp.get? dx = some ox) (hA : OkA A (n + 1)) (hR : ∀ v s', Q v s' → R (.ok (.ret v)) s')
    (ho : (hd.heap_39 w.params).lookup f = some ⟨oc, od, .func (fnOf name qual params body scope dV kV doc pm an cdv ct), osl⟩) (hcd : codeIn (hd.heap_39 w.params) cdv qual = true)
    (hbind : ∀ s, BindsTo s (fnOf name qual params body scope dV kV doc pm an cdv ct) args binds) (hloc : ∀ y ∈ binds, scope.names.lookup y.1 = some .local)
    (h : ∀ A' E' g h₁ L k₁, OkA A' n → GK w mg mb g → KeepBut dx hp g → Own g L h₁ (fun y => binds.reverse.lookup y) [(dx, ox)] →
      (∀ h' m mu, Own g L h' m mu → KeepBut dx hp h') →
      wpAny (model PG w) A' (execs body (envOf qual scope L f cdv)) (retQ Q) E' (S3 s h₁ k₁))
    (hco : scope.isCoroutine = false := by rfl) (hgen : scope.isGenerator = false := by rfl) (hk : scope.kind = .function := by rfl)
    (hcell : ∀ x ∈ scope.names, x.2 ≠ .cell := by decide) : codeAny (model PG w) A (.call (.ref f) args) R (S3 s hp k) := by
  refine enter (s := S3 s hp k) (G.keeps k0) ho hcd hA.room (hbind _) hloc (fun h₁ F => ?_) hco hgen hk hcell
  have kb : KeepBut dx hp (hideAll hp [dx]) := fun b o hb e => hideAll_get [dx] e (by simpa using hb)
  have Lf := get_size hp
  have hL : dx ≠ hp.objs.size := Nat.ne_of_lt (Heap.lt_size hdx)
  have O : Own (hideAll hp [dx]) hp.objs.size h₁ (fun y => binds.reverse.lookup y) [(dx, ox)] := by
    refine ⟨F.ns, fun b o e => F.keep b o (of_hideAll _ e), ?_, fun p hp' => ?_, by simp⟩
    · cases q : (hideAll hp [dx]).get? hp.objs.size with
      | none => rfl
      | some o => have := of_hideAll _ q; rw [Lf] at this; cases this
    · rw [List.mem_singleton.mp hp']
      exact ⟨F.keep _ _ hdx, hL, hideAll_none [dx] (.head _)⟩
  refine wpAny_mono (h _ _ (hideAll hp [dx]) h₁ hp.objs.size _ (hA.deeper _) (G.keeps fun b o e => kb b o (fun z => by subst z; rw [d0] at e; cases e) (k0 b o e)) kb O fun h' m mu O' b o hb e => O'.keep b o (kb b o hb e)) (fun fl s' hq => hR _ _ hq) fun _ _ x => x
end Mine
namespace Mine
section lst
variable {w : World} {A : Around} {E : Value → Shared → Prop} {s : Shared} {h g : Heap} {L D d : Addr} {m mg mb : Str → Option Value} {mu : List (Addr × Obj)} {k n : Nat} {its : Array Value} {x : Value} {env : Env} {pos : Pos}
theorem r_mAppend {Q : Value × List Value → Shared → Prop} {pl : Sem Bool} (e : h.get? D = some (listOf its n)) (q : Q (.builtin "list.append", [.ref D]) (S3 s h k)) : wpAny (model PG w) A (getMethod (.ref D) "append" pl) Q E (S3 s h k) :=
  getMethod_list_append (s := S3 s h k) e rfl rfl q
theorem r_append {Q : Value → Shared → Prop} (O : Own g L h m ((D, listOf its n) :: mu)) (hz : its.size ≤ 1000000) (q : ∀ h' n', Own g L h' m ((D, listOf (its.push x) n') :: mu) → Q .none (S3 s h' k)) :
    wpAny (model PG w) A (call (.builtin "list.append") [.ref D, x] []) Q E (S3 s h k) := by
  have ho : (S3 s h k).heap.get? D = some (listOf its n) := O.head
  have hl : (S3 s h k).heap.IsList D its := isList_of ho
  refine wpAny_call_entry slot_list_append hl.typeIs entry_list_append ?_ (args_list_append _ _)
  show wpAny _ _ (updateSeq D (·.push x) >>= fun _ => ret .none) _ _ (S3 s h k)
  refine wpAny_bind ?_
  refine wpAny_updateSeq ho rfl (wpAny_pure ⟨.none, rfl, ?_⟩) (by rw [sizeLine_eq]; walk_at "o") (by rw [Array.size_push, sizeLine_eq]; walk_at "o")
  refine q (h.update D (Obj.mapSeq (·.push x))) (n + 1) (O.upd (Heap.SameBut.update ..) ?_)
  have e := Heap.get?_update_self (Obj.mapSeq (·.push x)) O.head (by
    show (Obj.mapSeq (·.push x) (listOf its n)).isFreed = false
    rfl)
  rw [e]
  simp [Obj.mapSeq]
theorem r_setL {Q : Unit → Shared → Prop} {i : Int} {t : Tok} (O : Own g L h m ((D, listOf its n) :: mu)) (h0 : 0 ≤ i) (h1 : i < its.size) (hz : its.size ≤ 1000000) (q : ∀ h', Own g L h' m ((D, listOf (its.setIfInBounds i.toNat x) n) :: mu) → Q () (S3 s h' k)) :
    wpAny (model PG w) A (setItem (.ref D) (.int i t) x) Q E (S3 s h k) := by
  refine ki_setAt (s := S3 s h k) O.head h0 (by walk_at "o") h1 ?_
  refine q _ (O.upd (Heap.SameBut.update ..) ?_)
  have e := Heap.get?_update_self (Obj.mapSeq (·.setIfInBounds i.toNat x)) O.head (by rfl)
  refine Eq.trans e ?_
  simp [Obj.mapSeq]
end lst
section dct
variable {w : World} {A : Around} {E : Value → Shared → Prop} {s : Shared} {h g : Heap} {L d : Addr} {m mg mb : Str → Option Value} {mu : List (Addr × Obj)} {k : Nat} {o : Obj} {kvs : List (Int × Value)} {v : Value} {env : Env} {pos : Pos}
theorem r_dict0 {Q : Value → Shared → Prop} (O : Own g L h m mu) (q : ∀ d o h', h.get? d = none → h.StaysIn h' → o.IsDictOf (intKind PG w) [] → Own g L h' m ((d, o) :: mu) → Q (.ref d) (S3 s h' k)) :
    wpAny (model PG w) A (eval (.Dict [] [] pos) env) Q E (S3 s h k) := by
  refine wpAny_Dict_empty (s := S3 s h k) ?_
  obtain ⟨o, ho, hd⟩ := Heap.dictOf_iff.mp (Heap.DictOf.new (knd := intKind PG w) h)
  exact q _ o _ (get_size h) (fun _ _ e => Heap.get?_push_of_some _ e) hd (O.add (fun _ _ e => Heap.get?_push_of_some _ e) (get_size h) ho)
theorem r_dset {Q : Unit → Shared → Prop} {i : Int} {t : Tok} (O : Own g L h m ((d, o) :: mu)) (hd : o.IsDictOf (intKind PG w) kvs) (hz : kvs.length ≤ 1000000) (q : ∀ h' o', o'.IsDictOf (intKind PG w) (stored kvs i v) → Own g L h' m ((d, o') :: mu) → Q () (S3 s h' (k + 1))) :
    wpAny (model PG w) A (setItem (.ref d) (.int i t) v) Q E (S3 s h k) := by
  refine wpAny_setItem_pairs (s := S3 s h k) (knd := intKind PG w) (intKind_is _ _ _ _) (Heap.dictOf_iff.mpr ⟨o, O.head, hd⟩) (fun h' hm hs => ?_) (by rw [sizeLine_eq]; walk_at "o")
  obtain ⟨o', ho', hd'⟩ := Heap.dictOf_iff.mp hm
  exact q h' o' hd' (O.upd hs ho')
theorem r_dget {Q : Value → Shared → Prop} {value slice : Expr} {i : Int} {t : Tok} (hd : h.DictOf (intKind PG w) d kvs) (hv : valueAt kvs i = some v) (q : Q v (S3 s h (k + 1)))
    (hs : subscripted slice false (.ref d) (.int i t) = operate [.ref d, .int i t] (getItem (.ref d) (.int i t)) := by with_unfolding_all rfl) :
    wpAny (model PG w) A (subscriptTail value slice (.ref d) (.int i t)) Q E (S3 s h k) :=
  tail_any (s := S3 s h k) (Heap.DictOf.typeIs (s := S3 s h k) hd) slot_dict_getitem.lookup (wpAny_getItem_of (s := S3 s h k) (knd := intKind PG w) (intKind_is _ _ _ _) hd.mapOf hv q) hs
theorem r_mGet {Q : Value × List Value → Shared → Prop} {pl : Sem Bool} (hd : h.DictOf (intKind PG w) d kvs) (q : Q (.builtin "dict.get", [.ref d]) (S3 s h k)) : wpAny (model PG w) A (getMethod (.ref d) "get" pl) Q E (S3 s h k) :=
  getMethod_builtin (s := S3 s h k) (Heap.DictOf.typeIs (s := S3 s h k) hd) F.plainAttrs_dict F.slot_dict_get F.type_dict_get (fun a e => by cases e; exact hd.mapOf.noDict _ rfl) q
theorem r_get2 {Q : Value → Shared → Prop} {i : Int} {t : Tok} {dflt : Value} (lo : (d == sysModules) = false) (hd : h.DictOf (intKind PG w) d kvs) (q : Q ((valueAt kvs i).getD dflt) (S3 s h (k + 1))) :
    wpAny (model PG w) A (call (.builtin "dict.get") [.ref d, .int i t, dflt] []) Q E (S3 s h k) :=
  call_meetsIn (s := S3 s h k) F.slot_dict_get (Heap.DictOf.typeIs (s := S3 s h k) hd) F.entry_dict_get (F.args_dict_get_3 _ _ _) (meets_dict_get_default (intKind PG w) d (intKind_is _ _ _ _) lo dflt) ⟨_, hd.mapOf, q⟩
/-- for k in a dict with ints for keys -/
theorem r_iter_dict {target : Expr} {body : List Stmt} {Q : Flow → Shared → Prop} (hA : A.handled = none) (O : Own g L h m mu) (hd : g.DictOf (intKind PG w) d kvs) (lo : (d == sysModules) = false)
    (J : Nat → Heap → (Str → Option Value) → List (Addr × Obj) → Prop) (j0 : J 0 g m mu)
    (turn : ∀ E' i key x tk g' h' m' mu' p k', i < kvs.length → kvs[i]? = some (key, x) → g.StaysIn g' → J i g' m' mu' → Own g' L h' m' (p :: mu') →
      wpAny (model PG w) A (assign target env (.int key tk)) (fun _ s₂ => wpAny (model PG w) A (execs body env) (forQ s g' L p (J (i + 1)) Q) E' s₂) E' (S3 s h' k'))
    (done : ∀ g' h' m' mu' k', g.StaysIn g' → J kvs.length g' m' mu' → Own g' L h' m' mu' → Q .next (S3 s h' k'))
    (ht : ∀ v I, letOwnedTupleGo target (.ref I) v = pure ()) :
    wpAny (model PG w) A (pyIter (.ref d)) (fun it s₂ => codeAny (model PG w) A (.forLoop target it body [] env) (cbQ w A env Q E) s₂) E (S3 s h k) := by
  obtain ⟨od, es, ep, hod, hx, hdat, hko, hpr, hnd⟩ := id hd
  have hAt : h.DictAt (intKind PG w) d kvs ep := ⟨od, es, O.keep _ _ hod, hx, hdat, hko, hpr, hnd⟩
  refine wpAny_pyIter_dict (s := S3 s h k) lo hAt ?_
  have hne : d ≠ h.objs.size := Nat.ne_of_lt (Heap.lt_size (O.keep _ _ hod))
  have O' := O.add (b := h.objs.size) (o := { cls := .type "dict_keyiterator", data := .fields #[.ref d, .int 0 0, .int kvs.length 0, .int ep 0] }) (fun _ _ e => Heap.get?_push_of_some _ e) (get_size h) (Heap.get?_push_size _ rfl)
  refine code_for (h := h.push { cls := .type "dict_keyiterator", data := .fields #[.ref d, .int 0 0, .int kvs.length 0, .int ep 0] }) (Walks.dictKeys (knd := intKind PG w) hA h.objs.size d hne kvs ep) ?_ ?_ ?_ ⟨⟨_, Heap.get?_push_size _ rfl, rfl, rfl⟩, hAt.at' fun o e => Heap.get?_push_of_some _ e⟩ O' J j0 (fun _ _ x => x) ?_ done (fun v => ht v _)
  · intro b hb
    rcases List.mem_cons.mp hb with e | hb
    · exact .inl e
    · exact .inr ⟨od, by rw [List.mem_singleton.mp hb]; exact hod⟩
  · exact fun b hb => List.mem_singleton.mp hb
  · rintro i h' ⟨⟨o, e, _⟩, _⟩; exact ⟨o, e⟩
  · rintro i v g' h' m' mu' p k' hi ⟨key, x, hP, hv⟩ hg hj O'
    obtain ⟨t, rfl⟩ := Value.isInt_shape hv
    exact turn _ i key x t g' h' m' mu' p k' hi hP hg hj O'
end dct
end Mine
namespace Mine
/-- an exception of a class of the text in flight -/
noncomputable def Rz (s : Shared) (hp base : Heap) (l : List Env) (C : Addr) (v : Value) (s' : Shared) : Prop :=
  ∃ e a0 h' tk, v = .ref e ∧ s' = S3 s h' tk ∧ Heap.FlyingW base l e (.ref C) a0 h' ∧ hp.UpToSlots h'
theorem Rz.weak {s : Shared} {hp h2 base : Heap} {l : List Env} {C : Addr} {v : Value} {s' : Shared} (R : Rz s h2 base l C v s') (k : hp.StaysIn h2) : Rz s hp base l C v s' :=
  let ⟨e, a0, h', tk, a, b, c, d⟩ := R; ⟨e, a0, h', tk, a, b, c, (Heap.UpToSlots.of_keeps k).trans d⟩
theorem Own.weak {g g' h : Heap} {L : Addr} {m : Str → Option Value} {mu : List (Addr × Obj)} (O : Own g' L h m mu) (k : g.StaysIn g') : Own g L h m mu :=
  ⟨O.ns, fun b o e => O.keep b o (k b o e), fresh_of_stays k O.off, fun p hp => ⟨(O.mus p hp).1, (O.mus p hp).2.1, fresh_of_stays k (O.mus p hp).2.2⟩, O.nd⟩
structure InX (w : World) (s : Shared) (hp base : Heap) (env : Env) (outer : List Env) (L C : Addr) (A : Around) (E : Value → Shared → Prop) : Prop where
  below : ∀ {h2 m mu}, Own hp L h2 m mu → Below A base (env :: outer) h2
  on : ∀ v s', Rz s hp base (env :: outer) C v s' → E v s'
  made : ∀ {h2 m mu h' e vs tk}, Own hp L h2 m mu → Heap.MadeExcOf h2 h' e (.ref C) vs → E (.ref e) (S3 s h' tk)
  pass : PassesOwn (model PG w) A env E
theorem enter_x {w : World} {A : Around} {s : Shared} {hp base : Heap} {k : Nat} {mg mb : Str → Option Value} {Q : Value → Shared → Prop} {E : Value → Shared → Prop} {n : Nat}
    {name qual : Str} {params : Arguments} {body : List Stmt} {scope : Scope} {dV kV doc pm cdv ct oc : Value} {an od : Option Addr} {osl : Array (Option Value)} {f C : Addr} {args : Args} {outer : List Env}
    (binds : List (Str × Value))
    (G : GK w mg mb hp) (hA : OkA A (n + 1)) (K : Below A base outer hp) (hE : ∀ v s', Rz s hp base outer C v s' → E v s')
    (ho : (hd.heap_39 w.params).lookup f = some ⟨oc, od, .func (fnOf name qual params body scope dV kV doc pm an cdv ct), osl⟩) (hcd : codeIn (hd.heap_39 w.params) cdv qual = true)
    (hbind : ∀ s, BindsTo s (fnOf name qual params body scope dV kV doc pm an cdv ct) args binds) (hloc : ∀ y ∈ binds, scope.names.lookup y.1 = some .local)
    (h : ∀ A' E' h₁ L k₁, OkA A' n → hp.get? L = none → Own hp L h₁ (fun y => binds.reverse.lookup y) [] → InX w s hp base (envOf qual scope L f cdv) outer L C A' E' →
      wpAny (model PG w) A' (execs body (envOf qual scope L f cdv)) (retQ Q) E' (S3 s h₁ k₁))
    (hco : scope.isCoroutine = false := by rfl) (hgen : scope.isGenerator = false := by rfl) (hk : scope.kind = .function := by rfl)
    (hcell : ∀ x ∈ scope.names, x.2 ≠ .cell := by decide) : codeAny (model PG w) A (.call (.ref f) args) (fun r s' => match r with | .ok (.ret v) => Q v s' | .ok _ => False | .error e => E e s') (S3 s hp k) := by
  refine enter (s := S3 s hp k) G ho hcd hA.room (hbind _) hloc (fun h₁ F => ?_) hco hgen hk hcell
  have Lf := get_size hp
  have hnew := fresh_of_stays K.stays Lf
  have O : Own hp hp.objs.size h₁ (fun y => binds.reverse.lookup y) [] := ⟨F.ns, F.keep, Lf, (fun _ hp => nomatch hp), .nil⟩
  have bel : ∀ {h2 m mu}, Own hp hp.objs.size h2 m mu → Below (A.deeper (envOf qual scope hp.objs.size f cdv)) base (envOf qual scope hp.objs.size f cdv :: outer) h2 := fun {h2 m mu} O2 =>
    ⟨Around.frames_deeper K.stack, fun b o e => O2.keep b o (K.stays b o e), .cons (by show scope.kind ≠ .module; rw [hk]; decide) rfl O2.ns hnew (K.frames.of_keeps fun b o e _ => ⟨o, O2.keep b o e, rfl⟩)⟩
  refine h _ _ h₁ hp.objs.size _ (hA.deeper _) Lf O ⟨bel, fun v s' R => ?_, fun {h2 m mu h' e vs tk} O2 hx => ?_, PassesOwn.leaving⟩
  · obtain ⟨e, a0, h', tk, rfl, rfl, hf, hs⟩ := R
    exact wpAny_leaves_onW (s := S3 s h' tk) (bel O).stack rfl hf fun h2 x1 x2 => hE _ _ ⟨e, a0, h2, tk, rfl, rfl, x1, hs.trans x2⟩
  · have B2 := bel O2
    exact wpAny_leaves_madeW (s := S3 s h' tk) B2.stack rfl B2.stays B2.frames hx fun h3 t x1 x2 x3 x4 =>
      hE _ _ ⟨e, .ref t, h3, tk, rfl, rfl, x1, (Heap.UpToSlots.of_keeps fun b o q => hx.keeps b o (O2.keep b o q)).trans x4⟩
section raise
variable {w : World} {A : Around} {E : Value → Shared → Prop} {s : Shared} {h g : Heap} {L C : Addr} {m mg mb : Str → Option Value} {mu : List (Addr × Obj)} {k : Nat} {env : Env} {pos np cpos : Pos} {x : Str}
theorem r_raise {Q : Flow → Shared → Prop} {bmB : List Value} {newId : String} {B initId : String} {args : List Expr} (G : GK w mg mb g) (O : Own g L h m mu) (hh : A.handled = none)
    (ex : nsIn (hd.heap_39 w.params) mainGlobals x = some (some (.ref C))) (q : excIn (hd.heap_39 w.params) C bmB newId = true) (FB : ExcBaseFacts B newId initId bmB)
    (hplain : (backTo cpos (starEach args env)).any (·.1) = false)
    (hq : wpAny (model PG w) A (eval (.Name x np) env) (fun f s₁ => f = .ref C ∧ wpAny (model PG w) A (evalArgs (.ref C) true (backTo cpos (starEach args env)) [])
      (fun a s₂ => a.kw = [] ∧ a.pos.length ≤ sizeLine ∧ g.StaysIn s₂.heap ∧
        ∀ h' e, Heap.MadeExcOf s₂.heap h' e (.ref C) a.pos → E (.ref e) { s₂ with heap := h' }) E s₁) E (S3 s h k)) :
    wpAny (model PG w) A (exec (.Raise (some (.Call (.Name x np) args [] cpos)) none pos) env) Q E (S3 s h k) := by
  obtain ⟨tl, N, nm, q, bs, hdct, sn, sub, ab, col, dd, k0, k1, k2, k3, k5, mN, hC, hN, hni, T⟩ := (own_of_in G.x G.t ex q).obj
  refine wpAny_Raise_call_subT (C := C) (nm := nm) (q := q) (N := N) (bs := bs) (bm := tl) (hdct := hdct) (sn := sn) (sub := sub) (ab := ab) (col := col) (dd := dd) (k0 := k0) (k1 := k1) (k2 := k2) (k3 := k3) (k5 := k5)
    FB (mN := mN) (T.hasType FB.hasBase) hh hplain hni (wpAny_mono hq (fun f s₁ h₁ => ⟨h₁.1, wpAny_mono h₁.2 (fun a s₂ h₂ => ⟨h₂.1, h₂.2.1, h₂.2.2.1 _ _ hC, hN.keeps h₂.2.2.1, T.keeps h₂.2.2.1, h₂.2.2.2⟩) fun _ _ x => x⟩) fun _ _ x => x)
theorem r_caught {Q : Flow → Shared → Prop} {bmB : List Value} {newId : String} {base : Heap} {outer : List Env} {v : Value} {s' : Shared} {b₀ : Stmt} {suite : List Stmt} {rest : List ExceptHandler}
    (G : GK w mg mb g) (O : Own g L h m mu) (kb : g.StaysIn base) (hst : A.frames = some (env :: outer)) (hL : env.frame = some L) (R : Rz s h base (env :: outer) C v s')
    (ex : nsIn (hd.heap_39 w.params) mainGlobals x = some (some (.ref C))) (q : excIn (hd.heap_39 w.params) C bmB newId = true) (hbase : bmB.contains (.type "BaseException") = true)
    (hx : env.kindOf x = some .globalImplicit) (he : env.globals = mainGlobals) (hk : env.scope.kind = .function) (hdb : (x == ("__debug__" : Str)) = false)
    (kk : ∀ h' tk, Own g L h' m [] → h.UpToSlots h' → base.StaysIn h' → wpAny (model PG w) (A.mark (some v)) (execs (b₀ :: suite) env) Q (fun _ _ => False) (S3 s h' tk)) :
    wpAny (model PG w) A (noteFrame v env)
      (fun _ s₂ => wpAny (model PG w) A (setFlight v none) (fun _ s₃ =>
        wpAny (model PG w) A (handleBy v env (.ExceptHandler (some (.Name x np)) none (b₀ :: suite) pos :: rest)) Q E s₃) E s₂) E s' := by
  obtain ⟨e, a0, h1, tk, rfl, rfl, hfl, hsm⟩ := R
  have own : ∀ {h2}, base.StaysIn h2 → h.UpToSlots h2 → Own g L h2 m [] := fun {h2} st sm => ⟨sm.ns O.ns, fun b o e => st b o (kb b o e), O.off, (fun _ hp => nomatch hp), .nil⟩
  refine wpAny_looks_onW (s := S3 s h1 tk) hst hL hfl fun h₄ hheld₄ hsm₄ => ?_
  refine wpAny_landsW hheld₄ fun h₅ hheld hsm₅' => ?_
  have hsm₅ := hsm.trans (hsm₄.trans hsm₅')
  have O5 := own hheld.1 hsm₅
  obtain ⟨ob, hob, hobc⟩ := hheld.there
  refine wpAny_handleBy_cons (codeAny_handlers_test (Name_function_global hk hx (loadGlobal_global (by rw [he]; exact G.t.g.keeps O5.keep) (mg_of G.x G.t.g ex) ?_) hdb)) (by intro q; cases q)
  obtain ⟨bm, N, nm, qn, bs, hdct, sn, sub, ab, col, dd, k0, k1, k2, k3, k5, mN, hC, hN, hni, TL⟩ := ((own_of_in G.x G.t ex q).keeps O5.keep).obj
  refine wpAny_excMatches_sub_self hC hob hobc (TL.hasType hbase) (codeAny_handlers_suite ?_)
  refine lands_againW hheld fun h₆ hfl₆ hsm₆ => ?_
  exact wpAny_mono (kk h₆ tk (own hfl₆.1 (hsm₅.trans hsm₆)) (hsm₅.trans hsm₆) hfl₆.1) (fun _ _ x => x) fun _ _ x => x.elim
end raise
theorem Own.slots {g h h' : Heap} {L : Addr} {m : Str → Option Value} {mu : List (Addr × Obj)} (O : Own g L h m mu) (k : g.StaysIn h') (sm : h.UpToSlots h') : Own g L h' m [] :=
  ⟨sm.ns O.ns, k, O.off, (fun _ hp => nomatch hp), .nil⟩
/-- all that stands is fenced, but the frames -/
theorem Below.full {A : Around} {base h : Heap} {outer : List Env} (K : Below A base outer h) : ∃ B, base.StaysIn B ∧ B.StaysIn h ∧ Below A B outer h ∧ ∀ b o, h.get? b = some o → b ∉ outer.filterMap (·.frame) → B.get? b = some o := by
  refine ⟨hideAll h (outer.filterMap (·.frame)), fun b o q => hideAll_get _ (K.stays b o q) fun hm => ?_, fun b o q => of_hideAll _ q, ⟨K.stack, fun b o q => of_hideAll _ q, ?_⟩, fun b o e hn => hideAll_get _ e hn⟩
  · rw [(K.frames.mem hm).1] at q; cases q
  · exact funFrames_hide K.frames fun env he b hb => List.mem_filterMap.mpr ⟨env, he, hb⟩
theorem enter_t {w : World} {A : Around} {s : Shared} {hp base : Heap} {k : Nat} {mg mb : Str → Option Value} {Q : Value → Shared → Prop} {E : Value → Shared → Prop} {n : Nat}
    {name qual : Str} {params : Arguments} {body : List Stmt} {scope : Scope} {dV kV doc pm cdv ct oc : Value} {an od : Option Addr} {osl : Array (Option Value)} {f : Addr} {args : Args} {outer : List Env}
    (binds : List (Str × Value))
    (G : GK w mg mb base) (hA : OkA A (n + 1)) (K : Below A base outer hp)
    (ho : (hd.heap_39 w.params).lookup f = some ⟨oc, od, .func (fnOf name qual params body scope dV kV doc pm an cdv ct), osl⟩) (hcd : codeIn (hd.heap_39 w.params) cdv qual = true)
    (hbind : ∀ s, BindsTo s (fnOf name qual params body scope dV kV doc pm an cdv ct) args binds) (hloc : ∀ y ∈ binds, scope.names.lookup y.1 = some .local)
    (h : ∀ A' E' h₁ L k₁, OkA A' n → hp.objs.size ≤ L → Own base L h₁ (fun y => binds.reverse.lookup y) [] → hp.UpToSlots h₁ → A'.frames = some (envOf qual scope L f cdv :: outer) →
      (∀ {h2 m mu}, Own base L h2 m mu → hp.UpToSlots h2 → Below A' base (envOf qual scope L f cdv :: outer) h2) →
      wpAny (model PG w) A' (execs body (envOf qual scope L f cdv)) (retQ Q) E' (S3 s h₁ k₁))
    (hco : scope.isCoroutine = false := by rfl) (hgen : scope.isGenerator = false := by rfl) (hk : scope.kind = .function := by rfl)
    (hcell : ∀ x ∈ scope.names, x.2 ≠ .cell := by decide) : codeAny (model PG w) A (.call (.ref f) args) (fun r s' => match r with | .ok (.ret v) => Q v s' | .ok _ => False | .error e => E e s') (S3 s hp k) := by
  refine enter (s := S3 s hp k) (G.keeps K.stays) ho hcd hA.room (hbind _) hloc (fun h₁ F => ?_) hco hgen hk hcell
  have Lf := get_size hp
  have hnew := fresh_of_stays K.stays Lf
  have O : Own base hp.objs.size h₁ (fun y => binds.reverse.lookup y) [] := ⟨F.ns, fun b o e => F.keep b o (K.stays b o e), hnew, (fun _ hp => nomatch hp), .nil⟩
  exact h _ _ h₁ hp.objs.size _ (hA.deeper _) (Nat.le_refl _) O (Heap.UpToSlots.of_keeps F.keep) (Around.frames_deeper K.stack) fun {h2 m mu} O2 sm =>
    ⟨Around.frames_deeper K.stack, O2.keep, .cons (by show scope.kind ≠ .module; rw [hk]; decide) rfl O2.ns hnew (K.frames.of_keeps fun b o e hd => let ⟨sl, q⟩ := sm b o e hd; ⟨_, q, rfl⟩)⟩
end Mine
namespace Mine
section raise
variable {w : World} {A : Around} {E : Value → Shared → Prop} {s : Shared} {h g : Heap} {L C : Addr} {m mg mb : Str → Option Value} {mu : List (Addr × Obj)} {k : Nat} {env : Env} {pos np cpos : Pos} {x : Str}
theorem r_raise1 {Q : Flow → Shared → Prop} {bmB : List Value} {newId : String} {B initId : String} {e : Expr} (G : GK w mg mb g) (O : Own g L h m mu) (hh : A.handled = none)
    (ex : nsIn (hd.heap_39 w.params) mainGlobals x = some (some (.ref C))) (q : excIn (hd.heap_39 w.params) C bmB newId = true) (FB : ExcBaseFacts B newId initId bmB)
    (he : starEach [e] env = (false, eval e env) :: starEach [] env) (hx : env.kindOf x = some .globalImplicit) (hg : env.globals = mainGlobals) (hk : env.scope.kind = .function) (hdb : (x == ("__debug__" : Str)) = false)
    (hq : wpAny (model PG w) A (eval e env) (fun v s₁ => ∃ h1 k1, s₁ = S3 s h1 k1 ∧ g.StaysIn h1 ∧ ∀ h' e, Heap.MadeExcOf h1 h' e (.ref C) [v] → E (.ref e) (S3 s h' k1)) E (S3 s h k)) :
    wpAny (model PG w) A (exec (.Raise (some (.Call (.Name x np) [e] [] cpos)) none pos) env) Q E (S3 s h k) := by
  refine r_raise G O hh ex q FB (by rw [he]; rfl) (Name_function_global hk hx (loadGlobal_global (by rw [hg]; exact G.t.g.keeps O.keep) (mg_of G.x G.t.g ex) ⟨rfl, ?_⟩) hdb)
  rw [he]
  refine evalArgs_plain (spliced_cons (wpAny_mono hq (fun v s₁ h₁ => ?_) fun _ _ x => x))
  show wpAny _ _ (spliced []) _ _ _
  refine spliced_nil ?_
  obtain ⟨h1, k1, rfl, b, c⟩ := h₁
  exact ⟨rfl, (by decide : 1 ≤ sizeLine), b, c⟩
theorem r_str {z : Str} {c : Nat} {Q : Value → Shared → Prop} (q : Q (.str z k) (S3 s h (k + 1))) : wpAny (model PG w) A (eval (.Constant (.str z) c pos) env) Q E (S3 s h k) := wpAny_Constant_str q
theorem r_fmt {e : Expr} {i : Int} {Q : Value → Shared → Prop} (hi : i.natAbs.log2 < 1920) (hq : wpAny (model PG w) A (eval e env) (fun v s₁ => ∃ h' k' t, v = .int i t ∧ s₁ = S3 s h' k' ∧ ∀ t' k'', Q (.str (toString i) t') (S3 s h' k'')) E (S3 s h k)) :
    wpAny (model PG w) A (eval (.FormattedValue e (-1) none pos) env) Q E (S3 s h k) := by
  refine FormattedValue_plain (wpAny_mono hq (fun v s₁ h₁ => ?_) fun _ _ x => x)
  obtain ⟨h', k', t, rfl, rfl, q⟩ := h₁
  exact formatField_int_small hi (q _ _)
theorem r_strEnd {out : Str} {Q : Value → Shared → Prop} (hz : out.length ≤ sizeLine) (q : Q (.str out k) (S3 s h (k + 1))) : wpAny (model PG w) A (joinParts out []) Q E (S3 s h k) := joinParts_nil q hz
end raise
end Mine
namespace Mine
theorem Own.slotsBase {g h hp : Heap} {L : Addr} {m : Str → Option Value} {mu : List (Addr × Obj)} (O : Own g L h m mu) (U : hp.UpToSlots h) (hz : hp.objs.size ≤ L) (hm : ∀ q ∈ mu, hp.get? q.1 = none) :
    ∃ g2, g.StaysIn g2 ∧ Own g2 L h m mu ∧ hp.UpToSlots g2 := by
  obtain ⟨O2, st, k3⟩ := O.rebase
  refine ⟨_, st, O2, fun b o e hd => ?_⟩
  obtain ⟨sl, q⟩ := U b o e hd
  refine ⟨sl, k3 b _ (fun z => ?_) (fun z => ?_) q⟩
  · subst z; exact absurd (Nat.lt_of_lt_of_le (Heap.lt_size e) hz) (Nat.lt_irrefl _)
  · obtain ⟨p, hp', rfl⟩ := List.mem_map.mp z
    rw [hm p hp'] at e; cases e
theorem Below.own {A : Around} {g base h : Heap} {outer : List Env} {env : Env} {L : Addr} {m : Str → Option Value} {mu : List (Addr × Obj)} (K : Below A base (env :: outer) h) (O : Own g L h m mu) (hf : env.frame = some L) :
    ∃ B, base.StaysIn B ∧ Own B L h m [] ∧ Below A B (env :: outer) h ∧ ∀ b o, h.get? b = some o → b ∉ (env :: outer).filterMap (·.frame) → B.get? b = some o := by
  obtain ⟨B, st, sh, K', kk⟩ := Mine.Below.full K
  exact ⟨B, st, ⟨O.ns, sh, (K'.frames.mem (List.mem_filterMap.mpr ⟨env, .head _, hf⟩)).1, (fun _ hp => nomatch hp), .nil⟩, K', kk⟩
/-- what turns, in a larger part that stands -/
theorem Own.back {g B h h' : Heap} {L : Addr} {m m' : Str → Option Value} {mu : List (Addr × Obj)} (O' : Own B L h' m' []) (O : Own g L h m mu) (st : g.StaysIn B) (hm : ∀ q ∈ mu, B.get? q.1 = some q.2) : Own g L h' m' mu :=
  ⟨O'.ns, fun b o e => O'.keep b o (st b o e), O.off, fun p hp => ⟨O'.keep _ _ (hm p hp), (O.mus p hp).2⟩, O.nd⟩
section loops
variable {w : World} {A : Around} {E : Value → Shared → Prop} {s : Shared} {h g : Heap} {L : Addr} {m mg mb : Str → Option Value} {mu : List (Addr × Obj)} {k : Nat} {env : Env} {pos : Pos}
/-- for x in a list, with what the body raises -/
theorem r_iter_listX {target : Expr} {body : List Stmt} {Q : Flow → Shared → Prop} {a : Addr} {vs : Array Value} (hA : A.handled = none) (O : Own g L h m mu) (hl : g.IsList a vs) (hE : PassesOwn (model PG w) A env E)
    (J : Nat → Heap → (Str → Option Value) → List (Addr × Obj) → Prop) (j0 : J 0 g m mu)
    (turn : ∀ i v g' h' m' mu' p k', i < vs.size → vs[i]? = some v → g.StaysIn g' → J i g' m' mu' → Own g' L h' m' (p :: mu') →
      wpAny (model PG w) A (assign target env v) (fun _ s₂ => wpAny (model PG w) A (execs body env) (forU s g' L p (fun _ => True) (J (i + 1)) Q) E s₂) E (S3 s h' k'))
    (done : ∀ g' h' m' mu' k', g.StaysIn g' → J vs.size g' m' mu' → Own g' L h' m' mu' → Q .next (S3 s h' k')) :
    wpAny (model PG w) A (pyIter (.ref a)) (fun it s₂ => codeAny (model PG w) A (.forLoop target it body [] env) (cbQ w A env Q E) s₂) E (S3 s h k) := by
  have hls := O.list hl
  refine wpAny_pyIter_list (s := S3 s h k) hls ?_
  obtain ⟨ol, hol, _⟩ := id hl
  have hne : a ≠ h.objs.size := Nat.ne_of_lt (Heap.lt_size (O.keep _ _ hol))
  have O' := O.add (b := h.objs.size) (o := { cls := .type "list_iterator", data := .fields #[.ref a, .int 0 0] }) (fun _ _ e => Heap.get?_push_of_some _ e) (get_size h) (Heap.get?_push_size _ rfl)
  refine code_forU (U := fun _ => True) (h := h.push { cls := .type "list_iterator", data := .fields #[.ref a, .int 0 0] }) (Walks.list hA h.objs.size a hne vs) ?_ ?_ ?_ ⟨⟨_, Heap.get?_push_size _ rfl, rfl, rfl⟩, hls.at fun o e => Heap.get?_push_of_some _ e⟩ O' J j0 (fun _ _ _ _ => trivial) trivial (fun _ _ x => x) ?_ (fun g' h' m' mu' k' hg hj _ O => done g' h' m' mu' k' hg hj O) ?_
  · intro b hb
    rcases List.mem_cons.mp hb with e | hb
    · exact .inl e
    · exact .inr ⟨ol, by rw [List.mem_singleton.mp hb]; exact hol⟩
  · exact fun b hb => List.mem_singleton.mp hb
  · rintro i h' ⟨⟨o, e, _⟩, _⟩; exact ⟨o, e⟩
  · exact fun i v g' h' m' mu' p k' _ hi hP hg hj _ O' => wpAny_passesOwn hE (wpAny_mono (turn i v g' h' m' mu' p k' hi hP hg hj O') (fun _ _ x => x) fun _ _ x => x) |> fun x => wpAny_mono x (fun _ s₂ h₂ => wpAny_passesOwn hE h₂) fun _ _ x => x
  · exact fun i s' v Q' st q => letGo_listiter st.1 q
theorem r_iter_rangeU {target : Expr} {body : List Stmt} {Q : Flow → Shared → Prop} {r : Addr} {a b c : Int} {t u v : Tok} {n : Nat} (hA : A.handled = none) (O : Own g L h m mu) (hr : IsRange h r a b c t u v)
    (hsm : Builtin.Range.small a b c = true) (hn : Builtin.Range.rangeSize a b c = (n : Int))
    (hp : Heap) (u0 : hp.UpToSlots h)
    (J : Nat → Heap → (Str → Option Value) → List (Addr × Obj) → Prop) (j0 : J 0 g m mu)
    (turn : ∀ E' i tk g' h' m' mu' p k', hp.get? p.1 = none → i < n → g.StaysIn g' → J i g' m' mu' → hp.UpToSlots h' → Own g' L h' m' (p :: mu') →
      wpAny (model PG w) A (assign target env (.int (a + (i : Int) * c) tk)) (fun _ s₂ => wpAny (model PG w) A (execs body env) (forU s g' L p hp.UpToSlots (J (i + 1)) Q) E' s₂) E' (S3 s h' k'))
    (done : ∀ g' h' m' mu' k', g.StaysIn g' → J n g' m' mu' → hp.UpToSlots h' → Own g' L h' m' mu' → Q .next (S3 s h' k'))
    (ht : ∀ v I, letOwnedTupleGo target (.ref I) v = pure ()) (hz : hp.objs.size ≤ L) :
    wpAny (model PG w) A (pyIter (.ref r)) (fun it s₂ => codeAny (model PG w) A (.forLoop target it body [] env) (cbQ w A env Q E) s₂) E (S3 s h k) := by
  have hf : hp.get? h.objs.size = none := by
    cases q : hp.get? h.objs.size with
    | none => rfl
    | some o =>
      exact absurd (Nat.lt_of_lt_of_le (Heap.lt_size q) (Nat.le_trans hz (Nat.le_of_lt O.ns.lt))) (Nat.lt_irrefl _)
  refine wpAny_pyIter_range (s := S3 s h k) hr hsm ?_
  rw [hn]
  have O' := O.add (b := h.objs.size) (o := { cls := .type "range_iterator", data := .fields #[rawInt a, rawInt (n : Int), rawInt c] }) (fun _ _ e => Heap.get?_push_of_some _ e) (get_size h) (Heap.get?_push_size _ rfl)
  refine code_forU (U := hp.UpToSlots) (h := h.push { cls := .type "range_iterator", data := .fields #[rawInt a, rawInt (n : Int), rawInt c] }) (Walks.range hA h.objs.size a c n) ?_ ?_ ?_ (by show IsRangeIter _ _ _ _ _; simpa using Heap.get?_push_size _ rfl) O' J j0 ?_ ?_ (fun _ _ x => x) ?_ done (fun i s' v Q' st q => wpAny_of_eq (ht v _) q)
  · exact fun b hb => .inl (List.mem_singleton.mp hb)
  · exact fun b hb => List.mem_singleton.mp hb
  · rintro i h' st; exact ⟨_, st⟩
  · intro h1 h2 k1 u1 b o e hd
    obtain ⟨sl, q⟩ := u1 b o e hd
    exact ⟨sl, k1 b _ (fun z => by subst z; have e' : hp.get? h.objs.size = some o := e; rw [hf] at e'; cases e') q⟩
  · exact u0.trans (.of_keeps fun _ _ e => Heap.get?_push_of_some _ e)
  · rintro i v g' h' m' mu' p k' hpI hi ⟨tk, rfl⟩ hg hj hu O'
    exact turn _ i tk g' h' m' mu' p k' (hpI ▸ hf) hi hg hj hu O'
theorem r_try {Q : Flow → Shared → Prop} {bmB : List Value} {newId : String} {base : Heap} {outer : List Env} {b₀ : Stmt} {body suite : List Stmt} {np hpos : Pos} {x : Str} {C : Addr}
    (G : GK w mg mb g) (O : Own g L h m mu) (kb : g.StaysIn base) (hst : A.frames = some (env :: outer)) (hL : env.frame = some L)
    (ex : nsIn (hd.heap_39 w.params) mainGlobals x = some (some (.ref C))) (q : excIn (hd.heap_39 w.params) C bmB newId = true) (hbase : bmB.contains (.type "BaseException") = true)
    (hx : env.kindOf x = some .globalImplicit) (he : env.globals = mainGlobals) (hk : env.scope.kind = .function) (hdb : (x == ("__debug__" : Str)) = false)
    (bd : wpAny (model PG w) A (execs body env) Q (fun v s' => Rz s h base (env :: outer) C v s') (S3 s h k))
    (kk : ∀ v h' tk, Own g L h' m [] → h.UpToSlots h' → base.StaysIn h' → wpAny (model PG w) (A.mark (some v)) (execs (b₀ :: suite) env) Q (fun _ _ => False) (S3 s h' tk)) :
    wpAny (model PG w) A (exec (.Try body [.ExceptHandler (some (.Name x np)) none (b₀ :: suite) hpos] [] [] pos) env) Q E (S3 s h k) := by
  refine wpAny_Try_except (wpAny_mono bd (fun f s₁ hf => ?_) fun v s' R => ?_)
  · cases f with
    | next => exact wpAny_execs_nil hf
    | cont => exact hf
    | brk => exact hf
    | ret v => exact hf
  · exact r_caught G O kb hst hL R ex q hbase hx he hk hdb (kk v)
end loops
end Mine
namespace Mine
/-- the turn of a comprehension: what it gives, all that stands kept -/
noncomputable def compT (s : Shared) (h : Heap) (P : Prop) (s' : Shared) : Prop := P ∧ ∃ h' k', s' = S3 s h' k' ∧ h.StaysIn h'
section comp
variable {w : World} {A : Around} {E : Value → Shared → Prop} {s : Shared} {h g : Heap} {L : Addr} {m mg mb : Str → Option Value} {mu : List (Addr × Obj)} {k : Nat} {env : Env} {pos : Pos}
theorem quiet_list {s : Shared} {h1 : Heap} {k1 : Nat} {elt : Expr} {x : Str} {ifs : List Expr} {scope : Scope} {cl : List (Str × Addr)} {p : Value → Bool} {F : Value → Value → Prop} {vs : Array Value} {oI : Obj}
    (tests : ∀ s' v C h3 k3 m3 E', v ∈ vs.toList → Own h1 C h3 m3 [] → m3 x = some v →
      wpAny (model PG w) A (forIn ifs true fun c r => if r = true then do let ok ← isTrue c (compEnvC scope cl C env) (eval c (compEnvC scope cl C env)); pure (ForInStep.yield ok) else pure (ForInStep.yield r))
        (fun ok s₄ => compT s' h3 (ok = p v) s₄) E' (S3 s' h3 k3))
    (elts : ∀ s' v C h3 k3 m3 E', v ∈ vs.toList → p v = true → Own h1 C h3 m3 [] → m3 x = some v →
      wpAny (model PG w) A (eval elt (compEnvC scope cl C env)) (fun y s₄ => compT s' h3 (F v y) s₄) E' (S3 s' h3 k3)) :
    QuietOnC PG w A env scope cl x ifs elt [h1.objs.size] (fun i v => vs[i]? = some v) p F (S3 s (h1.push oI) k1) := by
  have own : ∀ {C : Addr} {h3 : Heap} {m3 : Str → Option Value}, (h1.push oI).objs.size ≤ C → h3.Ns C m3 → (∀ b o, b ∉ [h1.objs.size] → (h1.push oI).get? b = some o → h3.get? b = some o) → Own h1 C h3 m3 [] := fun {C h3 m3} hC hn hk => by
    have kp : ∀ b o, h1.get? b = some o → h3.get? b = some o := fun b o e => hk b o (fun q => by rw [List.mem_singleton.mp q] at e; rw [get_size] at e; cases e) (Heap.get?_push_of_some _ e)
    refine ⟨hn, kp, ?_, (fun _ hp => nomatch hp), .nil⟩
    cases q : h1.get? C with
    | none => rfl
    | some o => exact absurd (Nat.lt_of_lt_of_le (Heap.lt_size (Heap.get?_push_of_some (h := h1) oI q)) hC) (Nat.lt_irrefl _)
  have mem : ∀ {i : Nat} {v : Value}, vs[i]? = some v → v ∈ vs.toList := fun {i v} e => List.mem_of_getElem? (by simpa using e)
  have kee : ∀ {P : Prop} {s₃ s₄ : Shared}, compT s₃ s₃.heap P s₄ → P ∧ Keeps s₃ s₄ := fun {P s₃ s₄} h => let ⟨a, h', k', b, c⟩ := h; ⟨a, h', k', b, c⟩
  refine ⟨fun C i v s₃ m₃ E' hC hP hn hx hk htk => ?_, fun C i v s₃ m₃ E' hC hP hp hn hx hk htk => ?_⟩
  · exact wpAny_mono (tests s₃ v C s₃.heap s₃.toks m₃ E' (mem hP) (own hC hn hk) hx) (fun _ _ x => kee x) fun _ _ x => x
  · exact wpAny_mono (elts s₃ v C s₃.heap s₃.toks m₃ E' (mem hP) hp (own hC hn hk) hx) (fun _ _ x => kee x) fun _ _ x => x
/-- a list comprehension over a list, in an expression -/
theorem r_lcomp {elt iter : Expr} {x : Str} {px : Pos} {ifs : List Expr} {scope : Scope} {cl : List (Str × Addr)} {Q : Value → Shared → Prop} (p : Value → Bool) (F : Value → Value → Prop) (hA : A.handled = none)
    (hclos : closureFor scope env = pure cl) (hcell : ∀ y ∈ scope.names, y.2 ≠ .cell) (hkind : scope.kind = .function)
    (hnames : ∀ y ∈ scope.names, y.2 = .local → scope.names.lookup y.1 = some .local) (hx : scope.names.lookup x = some .local) (hs : ∀ x, foldedSetIterable iter env x = pure x)
    (hq : wpAny (model PG w) A (eval iter env) (fun xv s₁ => ∃ a vs g1 h1 k1 m1 mu1, xv = .ref a ∧ s₁ = S3 s h1 k1 ∧ Own g1 L h1 m1 mu1 ∧ h1.IsList a vs ∧ vs.size ≤ 1000000 ∧
      (∀ s' v C h3 k3 m3 E', v ∈ vs.toList → Own h1 C h3 m3 [] → m3 x = some v →
        wpAny (model PG w) A (forIn ifs true fun c r => if r = true then do let ok ← isTrue c (compEnvC scope cl C env) (eval c (compEnvC scope cl C env)); pure (ForInStep.yield ok) else pure (ForInStep.yield r))
          (fun ok s₄ => compT s' h3 (ok = p v) s₄) E' (S3 s' h3 k3)) ∧
      (∀ s' v C h3 k3 m3 E', v ∈ vs.toList → p v = true → Own h1 C h3 m3 [] → m3 x = some v →
        wpAny (model PG w) A (eval elt (compEnvC scope cl C env)) (fun y s₄ => compT s' h3 (F v y) s₄) E' (S3 s' h3 k3)) ∧
      (∀ D ys n h' k', h1.get? D = none → h1.StaysIn h' → Own g1 L h' m1 ((D, listOf ys n) :: mu1) → Paired F (vs.toList.filter p) ys.toList → Q (.ref D) (S3 s h' k'))) E (S3 s h k)) :
    wpAny (model PG w) A (eval (.ListComp elt [⟨.Name x px, iter, ifs, 0⟩] scope pos) env) Q E (S3 s h k) := by
  refine wpAny_ListComp_free p F hclos hcell hkind hnames hx (wpAny_mono hq (fun xv s₁ h₁ => ?_) fun _ _ e => e) hs
  obtain ⟨a, vs, g1, h1, k1, m1, mu1, rfl, rfl, O, hl, hz, tests, elts, fin⟩ := h₁
  refine wpAny_pyIter_list (s := S3 s h1 k1) hl ?_
  obtain ⟨ol, hol, _⟩ := id hl
  have hne : a ≠ h1.objs.size := Nat.ne_of_lt (Heap.lt_size hol)
  refine ⟨h1.objs.size, [h1.objs.size, a], [h1.objs.size], vs.size, _, _, rfl, Walks.list hA h1.objs.size a hne vs, by rw [sizeLine_eq]; walk_at "o", ⟨⟨_, Heap.get?_push_size _ rfl, rfl, rfl⟩, hl.at fun o e => Heap.get?_push_of_some _ e⟩, ?_, quiet_list tests elts, ?_⟩
  · intro b hb
    show b < (h1.push _).objs.size
    rw [Heap.size_push]
    rcases List.mem_cons.mp hb with rfl | hb
    · exact Nat.lt_succ_self _
    · rw [List.mem_singleton.mp hb]; exact Nat.lt_succ_of_lt (Heap.lt_size hol)
  · intro D h' tk ys us hD hD' ⟨n, hpl⟩ hlen hP hF hk
    have kp : ∀ b o, h1.get? b = some o → h'.get? b = some o := fun b o e => hk b o (fun q => by rw [List.mem_singleton.mp q] at e; rw [get_size] at e; cases e) (Heap.get?_push_of_some _ e)
    have hD1 : h1.get? D = none := by
      cases q : h1.get? D with
      | none => rfl
      | some o => have := Heap.get?_push_of_some (h := h1) { cls := .type "list_iterator", data := .fields #[.ref a, .int 0 0] } q; exact absurd (this.symm.trans hD) (fun z => nomatch z)
    have eus : us = vs.toList := by
      apply List.ext_getElem?
      intro i
      cases q : us[i]? with
      | some v => have := hP i v q; simpa using this.symm
      | none =>
        have : us.length ≤ i := List.getElem?_eq_none_iff.mp q
        rw [List.getElem?_eq_none (by simp; walk_at "o")]
    subst eus
    exact fin D ys n h' tk hD1 kp (O.add kp hD1 hpl) hF
/-- a list comprehension over a list, bound to a name -/
theorem r_lcompA {elt iter : Expr} {x y : Str} {px py spos : Pos} {ifs : List Expr} {scope : Scope} {cl : List (Str × Addr)} {Q : Flow → Shared → Prop} (p : Value → Bool) (F : Value → Value → Prop) (hA : A.handled = none)
    (hsw : swapsWith (.ListComp elt [⟨.Name x px, iter, ifs, 0⟩] scope pos) (some (.Name y py)) spos.line env = pure true)
    (hclos : closureFor scope env = pure cl) (hcell : ∀ y ∈ scope.names, y.2 ≠ .cell) (hkind : scope.kind = .function)
    (hnames : ∀ y ∈ scope.names, y.2 = .local → scope.names.lookup y.1 = some .local) (hx : scope.names.lookup x = some .local) (hs : ∀ x, foldedSetIterable iter env x = pure x)
    (hy : env.kindOf y = some .local) (hp : (env.scope.kind == .class || (env.scope.kind == .module && env.locals != env.globals)) = false) (hL : env.locals = L)
    (hq : wpAny (model PG w) A (eval iter env) (fun xv s₁ => ∃ a vs g1 h1 k1 m1 mu1, xv = .ref a ∧ s₁ = S3 s h1 k1 ∧ Own g1 L h1 m1 mu1 ∧ h1.IsList a vs ∧ vs.size ≤ 1000000 ∧
      (∀ s' v C h3 k3 m3 E', v ∈ vs.toList → Own h1 C h3 m3 [] → m3 x = some v →
        wpAny (model PG w) A (forIn ifs true fun c r => if r = true then do let ok ← isTrue c (compEnvC scope cl C env) (eval c (compEnvC scope cl C env)); pure (ForInStep.yield ok) else pure (ForInStep.yield r))
          (fun ok s₄ => compT s' h3 (ok = p v) s₄) E' (S3 s' h3 k3)) ∧
      (∀ s' v C h3 k3 m3 E', v ∈ vs.toList → p v = true → Own h1 C h3 m3 [] → m3 x = some v →
        wpAny (model PG w) A (eval elt (compEnvC scope cl C env)) (fun y s₄ => compT s' h3 (F v y) s₄) E' (S3 s' h3 k3)) ∧
      (∀ D ys n h' k', h1.get? D = none → (∀ b o, b ≠ L → h1.get? b = some o → h'.get? b = some o) → Own g1 L h' (fun z => if z = y then some (.ref D) else m1 z) ((D, listOf ys n) :: mu1) → Paired F (vs.toList.filter p) ys.toList → Q .next (S3 s h' k'))) E (S3 s h k)) :
    wpAny (model PG w) A (exec (.Assign [.Name y py] (.ListComp elt [⟨.Name x px, iter, ifs, 0⟩] scope pos) spos) env) Q E (S3 s h k) := by
  subst hL
  refine wpAny_Assign_ListComp_free p F hsw hclos hcell hkind hnames hx hy hp (wpAny_mono hq (fun xv s₁ h₁ => ?_) fun _ _ e => e) hs
  obtain ⟨a, vs, g1, h1, k1, m1, mu1, rfl, rfl, O, hl, hz, tests, elts, fin⟩ := h₁
  refine wpAny_pyIter_list (s := S3 s h1 k1) hl ?_
  obtain ⟨ol, hol, _⟩ := id hl
  have hne : a ≠ h1.objs.size := Nat.ne_of_lt (Heap.lt_size hol)
  refine ⟨h1.objs.size, [h1.objs.size, a], [h1.objs.size], vs.size, _, _, m1, rfl, Walks.list hA h1.objs.size a hne vs, by rw [sizeLine_eq]; walk_at "o", ⟨⟨_, Heap.get?_push_size _ rfl, rfl, rfl⟩, hl.at fun o e => Heap.get?_push_of_some _ e⟩, ?_, ?_, ?_, quiet_list tests elts, ?_⟩
  · intro b hb
    show b < (h1.push _).objs.size
    rw [Heap.size_push]
    rcases List.mem_cons.mp hb with rfl | hb
    · exact Nat.lt_succ_self _
    · rw [List.mem_singleton.mp hb]; exact Nat.lt_succ_of_lt (Heap.lt_size hol)
  · intro q
    exact Nat.ne_of_lt O.ns.lt (List.mem_singleton.mp q)
  · exact (O.push _).ns
  · intro D h' tk ys us hD hD' ⟨n, hpl⟩ hlen hP hF hns hk
    have kp : ∀ b o, b ≠ env.locals → h1.get? b = some o → h'.get? b = some o := fun b o hb e => hk b o hb (fun q => by rw [List.mem_singleton.mp q] at e; rw [get_size] at e; cases e) (Heap.get?_push_of_some _ e)
    have hD1 : h1.get? D = none := by
      cases q : h1.get? D with
      | none => rfl
      | some o => have := Heap.get?_push_of_some (h := h1) { cls := .type "list_iterator", data := .fields #[.ref a, .int 0 0] } q; exact absurd (this.symm.trans hD) (fun z => nomatch z)
    have eus : us = vs.toList := by
      apply List.ext_getElem?
      intro i
      cases q : us[i]? with
      | some v => have := hP i v q; simpa using this.symm
      | none =>
        have : us.length ≤ i := List.getElem?_eq_none_iff.mp q
        rw [List.getElem?_eq_none (by simp; walk_at "o")]
    subst eus
    have O' : Own g1 env.locals h' (fun z => if z = y then some (.ref D) else m1 z) mu1 :=
      ⟨hns, fun b o e => kp b o (O.ne e) (O.keep b o e), O.off, fun p hp => ⟨kp _ _ (O.mus p hp).2.1 (O.mus p hp).1, (O.mus p hp).2⟩, O.nd⟩
    refine fin D ys n h' tk hD1 kp ⟨O'.ns, O'.keep, O'.off, fun p hp => ?_, List.nodup_cons.mpr ⟨O.neMu hD1, O.nd⟩⟩ hF
    rcases List.mem_cons.mp hp with rfl | hp
    · exact ⟨hpl, O.neL hD1, O.fresh hD1⟩
    · exact O'.mus p hp
theorem no_tests {scope : Scope} {cl : List (Str × Addr)} {C : Addr} {s' : Shared} {h3 : Heap} {k3 : Nat} : wpAny (model PG w) A (forIn ([] : List Expr) true fun c r => if r = true then do let ok ← isTrue c (compEnvC scope cl C env) (eval c (compEnvC scope cl C env)); pure (ForInStep.yield ok) else pure (ForInStep.yield r))
    (fun ok s₄ => compT s' h3 (ok = true) s₄) E (S3 s' h3 k3) := wpAny_pure ⟨rfl, h3, k3, rfl, fun _ _ e => e⟩
theorem one_test {c : Expr} {scope : Scope} {cl : List (Str × Addr)} {C : Addr} {s' : Shared} {h3 : Heap} {k3 : Nat} {b : Bool} (q : wpAny (model PG w) A (isTrue c (compEnvC scope cl C env) (eval c (compEnvC scope cl C env))) (fun ok s₄ => compT s' h3 (ok = b) s₄) E (S3 s' h3 k3)) :
    wpAny (model PG w) A (forIn [c] true fun c r => if r = true then do let ok ← isTrue c (compEnvC scope cl C env) (eval c (compEnvC scope cl C env)); pure (ForInStep.yield ok) else pure (ForInStep.yield r))
    (fun ok s₄ => compT s' h3 (ok = b) s₄) E (S3 s' h3 k3) := by
  rw [List.forIn_cons]
  simp only [if_true]
  refine wpAny_bind (wpAny_bind (wpAny_mono q (fun ok s₄ h₄ => wpAny_pure ?_) fun _ _ x => x))
  simp only [List.forIn_nil]
  exact wpAny_pure h₄
end comp
end Mine
namespace Mine
noncomputable def EqG (w : World) (x y : Value) (b : Bool) : Prop := ∀ (A : Around) (E : Value → Shared → Prop) (s : Shared) (Q : Bool → Shared → Prop), Q b s → wpAny (model PG w) A (eqBool x y) Q E s
section cmp
variable {w : World} {A : Around} {E : Value → Shared → Prop} {s : Shared} {h g : Heap} {L : Addr} {k : Nat} {a b : Addr}
theorem EqG.int (x y : Int) (t u : Tok) : EqG w (.int x t) (.int y u) (x == y) := fun _ _ _ _ q => wpAny_eqBool_int q
theorem EqG.bool (x y : Bool) : EqG w (.bool x) (.bool y) (x == y) := fun A E s Q q => by
  unfold eqBool
  show wpAny _ _ (if (Value.bool x == Value.bool y) = true then _ else _) Q E s
  by_cases hab : (Value.bool x == Value.bool y) = true
  · rw [if_pos hab]
    have e : x = y := by have := eq_of_beq hab; injection this
    subst e
    exact wpAny_bind (wpAny_rule (wpAny_pure (by simpa using q)))
  · rw [if_neg hab]
    refine wpAny_bind ?_
    show wpAny _ _ (compareOp .Eq (.bool x) (.bool y)) _ _ _
    exact eq_bool (wpAny_truthy_bool q)
theorem EqG.bytes (x y : Array UInt8) (t u : Tok) : EqG w (.bytes x t) (.bytes y u) (x.toList == y.toList) := fun A E s Q q => by
  unfold eqBool
  show wpAny _ _ (if (Value.bytes x t == Value.bytes y u) = true then _ else _) Q E s
  by_cases hab : (Value.bytes x t == Value.bytes y u) = true
  · rw [if_pos hab]
    have e : x = y := by have := eq_of_beq hab; injection this
    subst e
    exact wpAny_bind (wpAny_rule (wpAny_pure (by simpa using q)))
  · rw [if_neg hab]
    refine wpAny_bind ?_
    show wpAny _ _ (compareOp .Eq (.bytes x t) (.bytes y u)) _ _ _
    refine eq_bytes (wpAny_truthy_bool ?_)
    exact q
theorem lt_tree {x1 x2 y1 y2 : Value} {e1 e2 : Bool} {P : Fin → Shared → Prop} (h1 : IsTup s.heap a #[x1, x2]) (h2 : IsTup s.heap b #[y1, y2]) (q1 : EqG w x1 y1 e1) (q2 : EqG w x2 y2 e2)
    (hq : if e1 then (if e2 then P (.done (.ret (.bool false))) s else wpAny (model PG w) A (richCompare .Lt x2 y2) (fun v s' => P (.done (.ret v)) s') E s) else wpAny (model PG w) A (richCompare .Lt x1 y1) (fun v s' => P (.done (.ret v)) s') E s) :
    wpAny (model PG w) A (Builtin.«tuple.__lt__» ⟨[.ref a, .ref b], []⟩) P E s := by
  show wpAny _ _ (isInstance (.ref b) (.type "tuple") >>= _) _ _ s
  refine wpAny_bind (wpAny_isInstance h2.typeIs isSubtype_tuple_tuple ?_)
  simp only [Bool.not_true, Bool.false_eq_true, if_false]
  refine wpAny_bind (tupleItemsOf_ h1 ?_)
  refine wpAny_bind (tupleItemsOf_ h2 ?_)
  simp only [List.zip_cons_cons, List.zip_nil_right, List.forIn_cons, List.forIn_nil]
  refine wpAny_bind (wpAny_bind (wpAny_bind (q1 _ _ _ _ ?_)))
  cases e1 with
  | false =>
    simp only [Bool.not_false, Bool.false_eq_true, if_true, if_false] at hq ⊢
    exact wpAny_bind (wpAny_rule (wpAny_bind (wpAny_mono hq (fun v s' h' => wpAny_bind (wpAny_pure (wpAny_pure (wpAny_pure (wpAny_pure h'))))) fun _ _ x => x)))
  | true =>
    simp only [Bool.not_true, Bool.false_eq_true, if_true, if_false] at hq ⊢
    refine wpAny_pure (wpAny_bind (wpAny_bind (q2 _ _ _ _ ?_)))
    cases e2 with
    | false =>
      simp only [Bool.not_false, Bool.false_eq_true, if_true, if_false] at hq ⊢
      exact wpAny_bind (wpAny_rule (wpAny_bind (wpAny_mono hq (fun v s' h' => wpAny_bind (wpAny_pure (wpAny_pure (wpAny_pure (wpAny_pure h'))))) fun _ _ x => x)))
    | true =>
      simp only [Bool.not_true, Bool.false_eq_true, if_true, if_false] at hq ⊢
      exact wpAny_pure (wpAny_pure (wpAny_pure hq))
theorem ge_tree {x1 x2 y1 y2 : Value} {e1 e2 : Bool} {P : Fin → Shared → Prop} (h1 : IsTup s.heap a #[x1, x2]) (h2 : IsTup s.heap b #[y1, y2]) (q1 : EqG w x1 y1 e1) (q2 : EqG w x2 y2 e2)
    (hq : if e1 then (if e2 then P (.done (.ret (.bool true))) s else wpAny (model PG w) A (richCompare .GtE x2 y2) (fun v s' => P (.done (.ret v)) s') E s) else wpAny (model PG w) A (richCompare .GtE x1 y1) (fun v s' => P (.done (.ret v)) s') E s) :
    wpAny (model PG w) A (Builtin.«tuple.__ge__» ⟨[.ref a, .ref b], []⟩) P E s := by
  show wpAny _ _ (isInstance (.ref b) (.type "tuple") >>= _) _ _ s
  refine wpAny_bind (wpAny_isInstance h2.typeIs isSubtype_tuple_tuple ?_)
  simp only [Bool.not_true, Bool.false_eq_true, if_false]
  refine wpAny_bind (tupleItemsOf_ h1 ?_)
  refine wpAny_bind (tupleItemsOf_ h2 ?_)
  simp only [List.zip_cons_cons, List.zip_nil_right, List.forIn_cons, List.forIn_nil]
  refine wpAny_bind (wpAny_bind (wpAny_bind (q1 _ _ _ _ ?_)))
  cases e1 with
  | false =>
    simp only [Bool.not_false, Bool.false_eq_true, if_true, if_false] at hq ⊢
    exact wpAny_bind (wpAny_rule (wpAny_bind (wpAny_mono hq (fun v s' h' => wpAny_bind (wpAny_pure (wpAny_pure (wpAny_pure (wpAny_pure h'))))) fun _ _ x => x)))
  | true =>
    simp only [Bool.not_true, Bool.false_eq_true, if_true, if_false] at hq ⊢
    refine wpAny_pure (wpAny_bind (wpAny_bind (q2 _ _ _ _ ?_)))
    cases e2 with
    | false =>
      simp only [Bool.not_false, Bool.false_eq_true, if_true, if_false] at hq ⊢
      exact wpAny_bind (wpAny_rule (wpAny_bind (wpAny_mono hq (fun v s' h' => wpAny_bind (wpAny_pure (wpAny_pure (wpAny_pure (wpAny_pure h'))))) fun _ _ x => x)))
    | true =>
      simp only [Bool.not_true, Bool.false_eq_true, if_true, if_false] at hq ⊢
      exact wpAny_pure (wpAny_pure (wpAny_pure hq))
theorem r_lt_pair {x1 x2 y1 y2 : Int} {t1 t2 u1 u2 : Tok} {Q : Value → Shared → Prop} (hu : A.units < cLine) (h1 : IsTup h a #[.int x1 t1, .int x2 t2]) (h2 : IsTup h b #[.int y1 u1, .int y2 u2]) (q : Q (.bool (decide (x1 < y1 ∨ (x1 = y1 ∧ x2 < y2)))) (S3 s h k)) :
    wpAny (model PG w) A (compareOp .Lt (.ref a) (.ref b)) Q E (S3 s h k) := by
  show wpAny _ _ (richCompare .Lt (.ref a) (.ref b)) _ _ _
  refine wpAny_richCompare_same_room (IsTup.typeIs (s := S3 s h k) h1) (IsTup.typeIs (s := S3 s h k) h2) PySem.F.slot_tuple_lt (wpAny_call_entry PySem.F.slot_tuple_lt (IsTup.typeIs (s := S3 s h k) h1) PySem.F.entry_tuple_lt (lt_tree (s := S3 s h k) h1 h2 (EqG.int _ _ _ _) (EqG.int _ _ _ _) ?_) (PySem.F.args_tuple_lt_2 _ _)) hu
  by_cases c1 : x1 = y1
  · by_cases c2 : x2 = y2
    · simp only [c1, c2, beq_self_eq_true, if_true]
      exact ⟨_, rfl, by simp, by simpa [c1, c2] using q⟩
    · simp only [c1, beq_self_eq_true, if_true, beq_eq_false_iff_ne.mpr c2, Bool.false_eq_true, if_false]
      show wpAny _ _ (compareOp .Lt (.int x2 t2) (.int y2 u2)) _ _ _
      refine lt_int ⟨_, rfl, by simp, ?_⟩
      simpa [c1] using q
  · simp only [beq_eq_false_iff_ne.mpr c1, Bool.false_eq_true, if_false]
    show wpAny _ _ (compareOp .Lt (.int x1 t1) (.int y1 u1)) _ _ _
    refine lt_int ⟨_, rfl, by simp, ?_⟩
    simpa [c1] using q
theorem r_ge_pair {x1 x2 y1 y2 : Int} {t1 t2 u1 u2 : Tok} {Q : Value → Shared → Prop} (hu : A.units < cLine) (h1 : IsTup h a #[.int x1 t1, .int x2 t2]) (h2 : IsTup h b #[.int y1 u1, .int y2 u2]) (q : Q (.bool (decide (y1 < x1 ∨ (x1 = y1 ∧ y2 ≤ x2)))) (S3 s h k)) :
    wpAny (model PG w) A (compareOp .GtE (.ref a) (.ref b)) Q E (S3 s h k) := by
  show wpAny _ _ (richCompare .GtE (.ref a) (.ref b)) _ _ _
  refine wpAny_richCompare_same_room (IsTup.typeIs (s := S3 s h k) h1) (IsTup.typeIs (s := S3 s h k) h2) PySem.F.slot_tuple_ge (wpAny_call_entry PySem.F.slot_tuple_ge (IsTup.typeIs (s := S3 s h k) h1) PySem.F.entry_tuple_ge (ge_tree (s := S3 s h k) h1 h2 (EqG.int _ _ _ _) (EqG.int _ _ _ _) ?_) (PySem.F.args_tuple_ge_2 _ _)) hu
  by_cases c1 : x1 = y1
  · by_cases c2 : x2 = y2
    · simp only [c1, c2, beq_self_eq_true, if_true]
      exact ⟨_, rfl, by simp, by simpa [c1, c2] using q⟩
    · simp only [c1, beq_self_eq_true, if_true, beq_eq_false_iff_ne.mpr c2, Bool.false_eq_true, if_false]
      show wpAny _ _ (compareOp .GtE (.int x2 t2) (.int y2 u2)) _ _ _
      refine ge_int ⟨_, rfl, by simp, ?_⟩
      simpa [c1] using q
  · simp only [beq_eq_false_iff_ne.mpr c1, Bool.false_eq_true, if_false]
    show wpAny _ _ (compareOp .GtE (.int x1 t1) (.int y1 u1)) _ _ _
    refine ge_int ⟨_, rfl, by simp, ?_⟩
    have e : decide (y1 < x1 ∨ (x1 = y1 ∧ y2 ≤ x2)) = decide (y1 ≤ x1) := by
      apply decide_eq_decide.mpr; walk_at "o"
    rw [e] at q
    exact q
end cmp
end Mine
namespace Mine
theorem rangeSize_down (n : Nat) : Builtin.Range.rangeSize ((n : Int) - 1) (-1) (-1) = (n : Int) := by
  unfold Builtin.Range.rangeSize
  rw [if_neg (by decide), show (-(-1) : Int) = 1 by decide]
  split <;> walk_at "o"
theorem small_down {n : Nat} (hn : n ≤ 1000000) : Builtin.Range.small ((n : Int) - 1) (-1) (-1) = true := by
  unfold Builtin.Range.small
  rw [rangeSize_down]
  simp only [Builtin.Range.rangeFitsLong, Bool.and_eq_true, Bool.or_eq_true, decide_eq_true_eq, beq_iff_eq, show ¬ (-1 : Int) > 0 by decide, if_false]
  walk_at "o"
theorem Own.newTup {g h h' : Heap} {L T : Addr} {m : Str → Option Value} {mu : List (Addr × Obj)} {its : Array Value} (O : Own g L h m mu) (fT : h.get? T = none) (sT : h.StaysIn h') (eT : IsTup h' T its) :
    ∃ g', g.StaysIn g' ∧ Own g' L h' m mu ∧ IsTup g' T its := by
  obtain ⟨O2, st, k3⟩ := (O.grow sT).rebase
  obtain ⟨o, a, b⟩ := eT
  exact ⟨_, st, O2, o, k3 T o (O.neL fT) (O.neMu fT) a, b⟩
end Mine
namespace Mine
section asg
variable {w : World} {A : Around} {E : Value → Shared → Prop} {s : Shared} {h g : Heap} {L : Addr} {m mg mb : Str → Option Value} {mu : List (Addr × Obj)} {k : Nat} {env : Env} {pos : Pos}
theorem r_assignT2 {a b : Str} {pa pb : Pos} {x1 : Nat} {t : Addr} {v1 v2 : Value} {Q : Unit → Shared → Prop} (hA : A.handled = none) (O : Own g L h m mu) (ht : IsTup h t #[v1, v2])
    (q : ∀ h', Own g L h' m mu → wpAny (model PG w) A (assign (.Name a pa) env v1) (fun _ s₁ => wpAny (model PG w) A (assign (.Name b pb) env v2) Q E s₁) E (S3 s h' k)) :
    wpAny (model PG w) A (assign (.Tuple [.Name a pa, .Name b pb] x1 pos) env (.ref t)) Q E (S3 s h k) := by
  refine assign_Tuple_tuple (s := S3 s h k) hA ht rfl rfl fun h' he => ?_
  refine assignInOrder_cons (wpAny_mono (q h' (O.grow fun b o e => he b o (Nat.ne_of_lt (Heap.lt_size e)) e)) (fun _ s₁ h₁ => assignInOrder_cons (wpAny_mono h₁ (fun _ s₂ h₂ => assignInOrder_nil h₂) fun _ _ x => x)) fun _ _ x => x)
theorem r_assignT3 {a b c : Str} {pa pb pc : Pos} {x1 : Nat} {t : Addr} {v1 v2 v3 : Value} {Q : Unit → Shared → Prop} (hA : A.handled = none) (O : Own g L h m mu) (ht : IsTup h t #[v1, v2, v3])
    (q : ∀ h', Own g L h' m mu → wpAny (model PG w) A (assign (.Name a pa) env v1) (fun _ s₁ => wpAny (model PG w) A (assign (.Name b pb) env v2) (fun _ s₂ => wpAny (model PG w) A (assign (.Name c pc) env v3) Q E s₂) E s₁) E (S3 s h' k)) :
    wpAny (model PG w) A (assign (.Tuple [.Name a pa, .Name b pb, .Name c pc] x1 pos) env (.ref t)) Q E (S3 s h k) := by
  refine assign_Tuple_tuple (s := S3 s h k) hA ht rfl rfl fun h' he => ?_
  refine assignInOrder_cons (wpAny_mono (q h' (O.grow fun b o e => he b o (Nat.ne_of_lt (Heap.lt_size e)) e)) (fun _ s₁ h₁ => assignInOrder_cons (wpAny_mono h₁ (fun _ s₂ h₂ => assignInOrder_cons (wpAny_mono h₂ (fun _ s₃ h₃ => assignInOrder_nil h₃) fun _ _ x => x)) fun _ _ x => x)) fun _ _ x => x)
/-- all that stands, the frame apart: nothing turns -/
theorem Own.all (O : Own g L h m []) : ∃ g', g.StaysIn g' ∧ Own g' L h m [] ∧ (∀ b o, b ≠ L → h.get? b = some o → g'.get? b = some o) ∧ (∀ a vs, h.IsList a vs → g'.IsList a vs) ∧ (∀ a vs, IsTup h a vs → IsTup g' a vs) := by
  obtain ⟨O2, st, k3⟩ := O.rebase
  have nL : ∀ {b : Addr} {o : Obj} {vs : Array Value} {n : Nat}, h.get? b = some o → o.data = .seq vs n → b ≠ L := fun {b o vs n} e d q => by
    obtain ⟨oL, es, ep, hL, hd, _⟩ := O.ns
    subst q
    rw [hL] at e; cases e
    rw [hd] at d; cases d
  refine ⟨_, st, O2, fun b o hb e => k3 b o hb (by simp) e, fun a vs hl => ?_, fun a vs hl => ?_⟩
  · obtain ⟨o, ho, hc, n, hd⟩ := hl
    exact ⟨o, k3 a o (nL ho hd) (by simp) ho, hc, n, hd⟩
  · obtain ⟨o, ho, hc, n, hd⟩ := hl
    exact ⟨o, k3 a o (nL ho hd) (by simp) ho, hc, n, hd⟩
end asg
end Mine
namespace Mine
structure InP (P : Prop) (w : World) (s : Shared) (hp base : Heap) (env : Env) (outer : List Env) (L C : Addr) (A : Around) (E : Value → Shared → Prop) : Prop where
  below : ∀ {h2 m mu}, Own hp L h2 m mu → Below A base (env :: outer) h2
  on : P → ∀ v s', Rz s hp base (env :: outer) C v s' → E v s'
  made : P → ∀ {h2 m mu h' e vs tk}, Own hp L h2 m mu → Heap.MadeExcOf h2 h' e (.ref C) vs → E (.ref e) (S3 s h' tk)
  pass : PassesOwn (model PG w) A env E
theorem enter_p {P : Prop} {w : World} {A : Around} {s : Shared} {hp base : Heap} {k : Nat} {mg mb : Str → Option Value} {Q : Value → Shared → Prop} {E : Value → Shared → Prop} {n : Nat}
    {name qual : Str} {params : Arguments} {body : List Stmt} {scope : Scope} {dV kV doc pm cdv ct oc : Value} {an od : Option Addr} {osl : Array (Option Value)} {f C : Addr} {args : Args} {outer : List Env}
    (binds : List (Str × Value))
    (G : GK w mg mb hp) (hA : OkA A (n + 1)) (K : Below A base outer hp) (hE : P → ∀ v s', Rz s hp base outer C v s' → E v s')
    (ho : (hd.heap_39 w.params).lookup f = some ⟨oc, od, .func (fnOf name qual params body scope dV kV doc pm an cdv ct), osl⟩) (hcd : codeIn (hd.heap_39 w.params) cdv qual = true)
    (hbind : ∀ s, BindsTo s (fnOf name qual params body scope dV kV doc pm an cdv ct) args binds) (hloc : ∀ y ∈ binds, scope.names.lookup y.1 = some .local)
    (h : ∀ A' E' h₁ L k₁, OkA A' n → hp.get? L = none → Own hp L h₁ (fun y => binds.reverse.lookup y) [] → InP P w s hp base (envOf qual scope L f cdv) outer L C A' E' →
      wpAny (model PG w) A' (execs body (envOf qual scope L f cdv)) (retQ Q) E' (S3 s h₁ k₁))
    (hco : scope.isCoroutine = false := by rfl) (hgen : scope.isGenerator = false := by rfl) (hk : scope.kind = .function := by rfl)
    (hcell : ∀ x ∈ scope.names, x.2 ≠ .cell := by decide) : codeAny (model PG w) A (.call (.ref f) args) (fun r s' => match r with | .ok (.ret v) => Q v s' | .ok _ => False | .error e => E e s') (S3 s hp k) := by
  refine enter (s := S3 s hp k) G ho hcd hA.room (hbind _) hloc (fun h₁ F => ?_) hco hgen hk hcell
  have Lf := get_size hp
  have hnew := fresh_of_stays K.stays Lf
  have O : Own hp hp.objs.size h₁ (fun y => binds.reverse.lookup y) [] := ⟨F.ns, F.keep, Lf, (fun _ hp => nomatch hp), .nil⟩
  have bel : ∀ {h2 m mu}, Own hp hp.objs.size h2 m mu → Below (A.deeper (envOf qual scope hp.objs.size f cdv)) base (envOf qual scope hp.objs.size f cdv :: outer) h2 := fun {h2 m mu} O2 =>
    ⟨Around.frames_deeper K.stack, fun b o e => O2.keep b o (K.stays b o e), .cons (by show scope.kind ≠ .module; rw [hk]; decide) rfl O2.ns hnew (K.frames.of_keeps fun b o e _ => ⟨o, O2.keep b o e, rfl⟩)⟩
  refine h _ _ h₁ hp.objs.size _ (hA.deeper _) Lf O ⟨bel, fun hP v s' R => ?_, fun hP {h2 m mu h' e vs tk} O2 hx => ?_, PassesOwn.leaving⟩
  · obtain ⟨e, a0, h', tk, rfl, rfl, hf, hs⟩ := R
    exact wpAny_leaves_onW (s := S3 s h' tk) (bel O).stack rfl hf fun h2 x1 x2 => hE hP _ _ ⟨e, a0, h2, tk, rfl, rfl, x1, hs.trans x2⟩
  · have B2 := bel O2
    exact wpAny_leaves_madeW (s := S3 s h' tk) B2.stack rfl B2.stays B2.frames hx fun h3 t x1 x2 x3 x4 =>
      hE hP _ _ ⟨e, .ref t, h3, tk, rfl, rfl, x1, (Heap.UpToSlots.of_keeps fun b o q => hx.keeps b o (O2.keep b o q)).trans x4⟩
theorem dictK {w : World} {h h' : Heap} {d : Addr} {kvs : List (Int × Value)} (k : h.StaysIn h') (D : h.DictOf (intKind PG w) d kvs) : h'.DictOf (intKind PG w) d kvs := let ⟨o, es, ep, a, r⟩ := D; ⟨o, es, ep, k _ _ a, r⟩
theorem r_cont {w : World} {A : Around} {E : Value → Shared → Prop} {s : Shared} {env : Env} {pos : Pos} {Q : Flow → Shared → Prop} (q : Q .cont s) : wpAny (model PG w) A (exec (.Continue pos) env) Q E s := wpAny_Continue q
end Mine
namespace Mine
/-- the tree of questions, walked by a plain order -/
noncomputable def KW {α : Type} (lt : Nat → Nat → Bool) (n : Nat) : KasT α → (α → Prop) → Prop
  | .ret a, Q => Q a
  | .ask i j k, Q => i < n ∧ j < n ∧ KW lt n (k (lt i j)) Q
section kw
variable {α β : Type} {lt : Nat → Nat → Bool} {n : Nat}
theorem KW.mono {Q Q' : α → Prop} (h : ∀ a, Q a → Q' a) : ∀ {t : KasT α}, KW lt n t Q → KW lt n t Q'
  | .ret _, q => h _ q
  | .ask _ _ _, ⟨a, b, c⟩ => ⟨a, b, KW.mono h c⟩
theorem KW.bind {f : α → KasT β} {Q : β → Prop} : ∀ {t : KasT α}, KW lt n t (fun a => KW lt n (f a) Q) → KW lt n (t.bind f) Q
  | .ret _, q => q
  | .ask _ _ _, ⟨a, b, c⟩ => ⟨a, b, KW.bind c⟩
theorem KW.wp {Q : α → Prop} {cmp : Nat → Nat → (Bool → Shared → Prop) → Shared → Prop} {R : α → Shared → Prop} {s : Shared} (hc : ∀ i j C, i < n → j < n → C (lt i j) s → cmp i j C s) (hq : ∀ a, Q a → R a s) :
    ∀ {t : KasT α}, KW lt n t Q → t.kasWp cmp R s
  | .ret _, q => hq _ q
  | .ask _ _ _, ⟨a, b, c⟩ => hc _ _ _ a b (KW.wp hc hq c)
end kw
noncomputable def PO (p : Array Nat) (n : Nat) : Prop := p.toList.Perm (List.range n)
section po
variable {p : Array Nat} {n : Nat}
theorem PO.size (h : PO p n) : p.size = n := by have := h.length_eq; simpa using this
theorem PO.getD (h : PO p n) {i : Nat} (hi : i < n) : ∃ x, p.toList[i]? = some x ∧ p.getD i 0 = x := by
  have hz := h.size
  refine ⟨p[i]'(by walk_at "o"), ?_, ?_⟩
  · simp [hz, hi]
  · simp [Array.getD, hz, hi]
theorem PO.lt (h : PO p n) {i : Nat} (hi : i < n) : p.getD i 0 < n := by
  obtain ⟨x, h1, h2⟩ := h.getD hi
  rw [h2]
  exact List.mem_range.mp (h.mem_iff.mp (List.mem_of_getElem? h1))
theorem PO.ne (h : PO p n) {i j : Nat} (hi : i < n) (hj : j < n) (hij : i ≠ j) : p.getD i 0 ≠ p.getD j 0 := by
  obtain ⟨x, h1, h2⟩ := h.getD hi
  obtain ⟨y, h3, h4⟩ := h.getD hj
  rw [h2, h4]
  intro e
  subst e
  have nd : p.toList.Nodup := h.nodup_iff.mpr List.nodup_range
  have hz := h.size
  have l1 : i < p.toList.length := by simp [hz, hi]
  have l2 : j < p.toList.length := by simp [hz, hj]
  rw [List.getElem?_eq_getElem l1] at h1
  rw [List.getElem?_eq_getElem l2] at h3
  have e := (Option.some.inj h1).trans (Option.some.inj h3).symm
  have pw := List.pairwise_iff_getElem.mp nd
  rcases Nat.lt_or_gt_of_ne hij with q | q
  · exact pw i j l1 l2 q e
  · exact pw j i l2 l1 q e.symm
end po
structure StrictO (lt : Nat → Nat → Bool) (n : Nat) : Prop where
  tr : ∀ a b c, lt a b = true → lt b c = true → lt a c = true
  as : ∀ a b, lt a b = true → lt b a = false
  tot : ∀ a b, a < n → b < n → a ≠ b → lt a b = false → lt b a = true
noncomputable def Asc (lt : Nat → Nat → Bool) (p : Array Nat) (m : Nat) : Prop := ∀ i j, i < j → j < m → lt (p.getD i 0) (p.getD j 0) = true
noncomputable def Dsc (lt : Nat → Nat → Bool) (p : Array Nat) (m : Nat) : Prop := ∀ i j, i < j → j < m → lt (p.getD j 0) (p.getD i 0) = true
section sort
variable {lt : Nat → Nat → Bool} {n : Nat} {p : Array Nat}
theorem Asc.one : Asc lt p 1 := fun i j h1 h2 => by walk_at "o"
theorem Asc.succ (S : StrictO lt n) {m : Nat} (hm : 1 ≤ m) (h : Asc lt p m) (q : lt (p.getD (m - 1) 0) (p.getD m 0) = true) : Asc lt p (m + 1) := fun i j h1 h2 => by
  by_cases hj : j < m
  · exact h i j h1 hj
  · obtain rfl : j = m := by walk_at "o"
    by_cases hi : i = j - 1
    · rw [hi]; exact q
    · exact S.tr _ _ _ (h i (j - 1) (by walk_at "o") (by walk_at "o")) q
theorem Dsc.succ (S : StrictO lt n) {m : Nat} (hm : 1 ≤ m) (h : Dsc lt p m) (q : lt (p.getD m 0) (p.getD (m - 1) 0) = true) : Dsc lt p (m + 1) := fun i j h1 h2 => by
  by_cases hj : j < m
  · exact h i j h1 hj
  · obtain rfl : j = m := by walk_at "o"
    by_cases hi : i = j - 1
    · rw [hi]; exact q
    · exact S.tr _ _ _ q (h i (j - 1) (by walk_at "o") (by walk_at "o"))
theorem kw_asc (S : StrictO lt n) (P : PO p n) : ∀ (f m : Nat), 1 ≤ m → m + f ≤ n → Asc lt p m → KW lt n (kas_asc p f m) (fun r => m ≤ r ∧ r ≤ m + f ∧ Asc lt p r ∧ (r = m ∧ 0 < f → lt (p.getD m 0) (p.getD (m - 1) 0) = true))
  | 0, m, h1, h2, ha => ⟨Nat.le_refl _, Nat.le_refl _, ha, fun h => by walk_at "o"⟩
  | f + 1, m, h1, h2, ha => by
    refine ⟨P.lt (by walk_at "o"), P.lt (by walk_at "o"), ?_⟩
    cases q : lt (p.getD m 0) (p.getD (m - 1) 0) with
    | true => dsimp only; rw [if_pos rfl]; exact ⟨Nat.le_refl _, by walk_at "o", ha, fun _ => rfl⟩
    | false =>
      dsimp only
      rw [if_neg (by simp)]
      refine (kw_asc S P f (m + 1) (by walk_at "o") (by walk_at "o") (ha.succ S h1 (S.tot _ _ (P.lt (by walk_at "o")) (P.lt (by walk_at "o")) (P.ne (by walk_at "o") (by walk_at "o") (by walk_at "o")) q))).mono fun r ⟨a, b, c, _⟩ => ⟨by walk_at "o", by walk_at "o", c, fun ⟨e, _⟩ => by walk_at "o"⟩
theorem kw_desc (S : StrictO lt n) (P : PO p n) : ∀ (f m : Nat), 1 ≤ m → m + f ≤ n → Dsc lt p m → KW lt n (kas_desc f p m 0) (fun r => r.1 = p ∧ m ≤ r.2.1 ∧ r.2.1 ≤ m + f ∧ r.2.2 = 0 ∧ Dsc lt p r.2.1)
  | 0, m, h1, h2, ha => ⟨rfl, Nat.le_refl _, Nat.le_refl _, rfl, ha⟩
  | f + 1, m, h1, h2, ha => by
    refine ⟨P.lt (by walk_at "o"), P.lt (by walk_at "o"), ?_⟩
    cases q : lt (p.getD m 0) (p.getD (m - 1) 0) with
    | true =>
      dsimp only
      rw [if_pos rfl, if_neg (by walk_at "o")]
      exact (kw_desc S P f (m + 1) (by walk_at "o") (by walk_at "o") (ha.succ S h1 q)).mono fun r ⟨a, b, c, d, e⟩ => ⟨a, by walk_at "o", by walk_at "o", d, e⟩
    | false =>
      dsimp only
      rw [if_neg (by simp)]
      refine ⟨P.lt (by walk_at "o"), P.lt (by walk_at "o"), ?_⟩
      rw [S.tot _ _ (P.lt (by walk_at "o")) (P.lt (by walk_at "o")) (P.ne (by walk_at "o") (by walk_at "o") (by walk_at "o")) q]
      dsimp only
      rw [if_pos rfl]
      exact ⟨rfl, Nat.le_refl _, Nat.le_add_right _ _, rfl, ha⟩
theorem getD_eq (p : Array Nat) (i : Nat) : p.getD i 0 = p[i]?.getD 0 := by
  simp [Array.getD, getElem?_def]
  split <;> rfl
theorem rev_getD {m : Nat} (hm : m ≤ p.size) (i : Nat) : (kas_rev p 0 m).getD i 0 = if i < m then p.getD (m - 1 - i) 0 else p.getD i 0 := by
  unfold kas_rev
  rw [getD_eq, getElem?_mirror_all hm, getD_eq, getD_eq]
  simp only [Nat.zero_le, true_and, Nat.zero_add]
  split <;> rfl
theorem PO.rev (P : PO p n) (m : Nat) : PO (kas_rev p 0 m) n := by
  have := mirror_perm p 0 m ((m - 0) / 2)
  exact List.Perm.trans (Array.perm_iff_toList_perm.mp this) P
theorem kw_tail3 (S : StrictO lt n) (P : PO p n) {m : Nat} (h1 : 1 ≤ m) (h2 : m ≤ n) (hd : Dsc lt p m) : KW lt n (kas_tail3 m n p) (fun r => PO r.2 n ∧ m ≤ r.1 ∧ r.1 ≤ n ∧ Asc lt r.2 r.1) := by
  have P' := P.rev m
  have hz := P.size
  refine KW.bind ((kw_asc S P' (n - m) m h1 (by walk_at "o") fun i j h3 h4 => ?_).mono fun r ⟨a, b, c, _⟩ => ⟨P', a, by walk_at "o", c⟩)
  rw [rev_getD (by walk_at "o"), rev_getD (by walk_at "o"), if_pos (by walk_at "o"), if_pos h4]
  exact hd _ _ (by walk_at "o") (by walk_at "o")
theorem kw_count (S : StrictO lt n) (P : PO p n) (hn : 1 ≤ n) : KW lt n (kas_count n p) (fun r => PO r.2 n ∧ 1 ≤ r.1 ∧ r.1 ≤ n ∧ Asc lt r.2 r.1) := by
  refine KW.bind ((kw_asc S P (n - 1) 1 (Nat.le_refl _) (by walk_at "o") .one).mono fun r ⟨a, b, c, d⟩ => ?_)
  by_cases hr : r = n
  · rw [if_pos (by simpa using hr)]
    exact ⟨P, a, by walk_at "o", c⟩
  · rw [if_neg (by simpa using hr)]
    by_cases h1 : r > 1
    · rw [if_pos h1]
      refine ⟨P.lt (by walk_at "o"), P.lt (by walk_at "o"), ?_⟩
      rw [c 0 (r - 1) (by walk_at "o") (by walk_at "o")]
      dsimp only
      rw [if_pos rfl]
      exact ⟨P, a, by walk_at "o", c⟩
    · rw [if_neg h1]
      obtain rfl : r = 1 := by walk_at "o"
      have hd := d ⟨rfl, by walk_at "o"⟩
      have D2 : Dsc lt p 2 := fun i j h3 h4 => by
        obtain rfl : j = 1 := by walk_at "o"
        obtain rfl : i = 0 := by walk_at "o"
        exact hd
      refine KW.bind ((kw_desc S P (n - (1 + 1)) (1 + 1) (by walk_at "o") (by walk_at "o") D2).mono fun r ⟨e1, e2, e3, e4, e5⟩ => ?_)
      rw [if_neg (by walk_at "o"), e1]
      exact (kw_tail3 S P (by walk_at "o") (by walk_at "o") e5).mono fun r ⟨a, b, c, d⟩ => ⟨a, by walk_at "o", c, d⟩
theorem kw_place (S : StrictO lt n) (P : PO p n) {k : Nat} (hk : k < n) : ∀ (f l r : Nat), r ≤ l + f → l ≤ r → r ≤ k → (∀ i, i < l → lt (p.getD i 0) (p.getD k 0) = true) → (∀ i, r ≤ i → i < k → lt (p.getD k 0) (p.getD i 0) = true) → Asc lt p k →
    KW lt n (kas_place p k f l r) (fun x => x ≤ k ∧ (∀ i, i < x → lt (p.getD i 0) (p.getD k 0) = true) ∧ (∀ i, x ≤ i → i < k → lt (p.getD k 0) (p.getD i 0) = true))
  | 0, l, r, h1, h2, h3, h4, h5, _ => ⟨by walk_at "o", h4, fun i a b => h5 i (by walk_at "o") b⟩
  | f + 1, l, r, h1, h2, h3, h4, h5, ha => by
    unfold kas_place
    by_cases hlr : l ≥ r
    · rw [if_pos hlr]
      exact ⟨by walk_at "o", h4, fun i a b => h5 i (by walk_at "o") b⟩
    · rw [if_neg hlr]
      refine ⟨P.lt hk, P.lt (by walk_at "o"), ?_⟩
      cases q : lt (p.getD k 0) (p.getD ((l + r) / 2) 0) with
      | true =>
        dsimp only
        rw [if_pos rfl]
        refine kw_place S P hk f l ((l + r) / 2) (by walk_at "o") (by walk_at "o") (by walk_at "o") h4 (fun i a b => ?_) ha
        by_cases hi : i = (l + r) / 2
        · rw [hi]; exact q
        · exact S.tr _ _ _ q (ha _ _ (by walk_at "o") b)
      | false =>
        dsimp only
        rw [if_neg (by simp)]
        have q' := S.tot _ _ (P.lt hk) (P.lt (by walk_at "o")) (P.ne hk (by walk_at "o") (by walk_at "o")) q
        refine kw_place S P hk f ((l + r) / 2 + 1) r (by walk_at "o") (by walk_at "o") (by walk_at "o") (fun i a => ?_) h5 ha
        by_cases hi : i = (l + r) / 2
        · rw [hi]; exact q'
        · exact S.tr _ _ _ (ha _ _ (by walk_at "o") (by walk_at "o")) q'
theorem bub_getD {k l : Nat} (hk : k < p.size) (hl : l ≤ k) (i : Nat) : (bubble p k (k - l)).getD i 0 = if i = l then p.getD k 0 else if l < i ∧ i ≤ k then p.getD (i - 1) 0 else p.getD i 0 := by
  rw [getD_eq, getElem?_bubble hk _ (by walk_at "o"), getD_eq, getD_eq, getD_eq, show k - (k - l) = l by walk_at "o"]
  repeat' split
  all_goals rfl
theorem PO.bub (P : PO p n) (k d : Nat) : PO (bubble p k d) n := List.Perm.trans (Array.perm_iff_toList_perm.mp (bubble_perm p k d)) P
theorem kw_bin (S : StrictO lt n) : ∀ (f : Nat) (p : Array Nat) (k : Nat), PO p n → k + f = n → 1 ≤ k → Asc lt p k → KW lt n (kas_bin f p k) (fun r => PO r n ∧ Asc lt r n)
  | 0, p, k, P, h1, _, ha => ⟨P, by rw [← h1]; exact ha⟩
  | f + 1, p, k, P, h1, h2, ha => by
    have hz := P.size
    refine KW.bind ((kw_place S P (by walk_at "o") k 0 k (by walk_at "o") (by walk_at "o") (Nat.le_refl _) (fun i h => by walk_at "o") (fun i h1 h2 => by walk_at "o") ha).mono fun l ⟨e1, e2, e3⟩ => ?_)
    refine kw_bin S f (bubble p k (k - l)) (k + 1) (P.bub _ _) (by walk_at "o") (by walk_at "o") fun i j h3 h4 => ?_
    rw [bub_getD (by walk_at "o") e1, bub_getD (by walk_at "o") e1]
    by_cases c1 : i = l
    · rw [if_pos c1, if_neg (by walk_at "o"), if_pos (by walk_at "o")]
      exact e3 _ (by walk_at "o") (by walk_at "o")
    · rw [if_neg c1]
      by_cases c2 : j = l
      · rw [if_pos c2, if_neg (by walk_at "o")]
        exact e2 _ (by walk_at "o")
      · rw [if_neg c2]
        by_cases c3 : l < i ∧ i ≤ k
        · rw [if_pos c3, if_pos (by walk_at "o")]
          exact ha _ _ (by walk_at "o") (by walk_at "o")
        · rw [if_neg c3]
          by_cases c4 : l < j ∧ j ≤ k
          · rw [if_pos c4]
            exact ha _ _ (by walk_at "o") (by walk_at "o")
          · rw [if_neg c4]
            exact ha _ _ h3 (by walk_at "o")
theorem kw_sort (S : StrictO lt n) (hn : 1 ≤ n) : KW lt n (kas_sort n) (fun r => PO r n ∧ Asc lt r n) := by
  refine KW.bind ((kw_count S (p := List.toArray (List.range n)) (by unfold PO; exact List.Perm.refl _) hn).mono fun r ⟨a, b, c, d⟩ => ?_)
  by_cases hr : r.1 < n
  · rw [if_pos hr]
    have e : max r.1 1 = r.1 := by walk_at "o"
    rw [e]
    exact kw_bin S _ _ _ a (by walk_at "o") b d
  · rw [if_neg hr]
    exact ⟨a, by rw [show r.1 = n by walk_at "o"] at d; exact d⟩
end sort
end Mine
namespace Mine
/-- a write: user key, its order number's negative, kind, shelf -/
structure En where
  u : Int
  m : Int
  k : Int
  sh : Int
noncomputable def lexLt (a b : En) : Bool := decide (a.u < b.u ∨ (a.u = b.u ∧ (a.m < b.m ∨ (a.m = b.m ∧ (a.k < b.k ∨ (a.k = b.k ∧ a.sh < b.sh))))))
noncomputable def IsEnt (h : Heap) (v : Value) (e : En) : Prop := ∃ a t1 t2 t3 t4, v = .ref a ∧ IsTup h a #[.int e.u t1, .int e.m t2, .int e.k t3, .int e.sh t4]
theorem IsEnt.mono {h h' : Heap} {v : Value} {e : En} (k : h.StaysIn h') (I : IsEnt h v e) : IsEnt h' v e :=
  let ⟨a, t1, t2, t3, t4, b, c⟩ := I; ⟨a, t1, t2, t3, t4, b, stays_tup k c⟩
theorem lex_tr (a b c : En) (h1 : lexLt a b = true) (h2 : lexLt b c = true) : lexLt a c = true := by
  simp only [lexLt, decide_eq_true_eq] at *; walk_at "o"
theorem lex_as (a b : En) (h1 : lexLt a b = true) : lexLt b a = false := by
  simp only [lexLt, decide_eq_true_eq, decide_eq_false_iff_not] at *; walk_at "o"
theorem lex_tot (a b : En) (hab : a ≠ b) (h1 : lexLt a b = false) : lexLt b a = true := by
  have : ¬ (a.u = b.u ∧ a.m = b.m ∧ a.k = b.k ∧ a.sh = b.sh) := fun ⟨h1, h2, h3, h4⟩ => hab (by cases a; cases b; simp_all)
  simp only [lexLt, decide_eq_true_eq, decide_eq_false_iff_not] at *; walk_at "o"
section srt
variable {w : World} {A : Around} {E : Value → Shared → Prop} {s : Shared} {h g : Heap} {L : Addr} {m mg mb : Str → Option Value} {mu : List (Addr × Obj)} {k : Nat}
theorem ent_lt {x y : Addr} {a b : En} {t1 t2 t3 t4 u1 u2 u3 u4 : Tok} {Q : Bool → Shared → Prop} (hx : IsTup s.heap x #[.int a.u t1, .int a.m t2, .int a.k t3, .int a.sh t4]) (hy : IsTup s.heap y #[.int b.u u1, .int b.m u2, .int b.k u3, .int b.sh u4]) (q : Q (lexLt a b) s) :
    wpAny (model PG w) A (keyLt' (tuples' true) (.ref x) (.ref y)) Q E s := by
  obtain ⟨ox, hox, _, nx, dx⟩ := hx
  obtain ⟨oy, hoy, _, ny, dy⟩ := hy
  refine kat_lt hox dx hoy dy ?_
  show KatLex _ _ _ _ _ _ [(Value.int a.u t1, Value.int b.u u1), (Value.int a.m t2, Value.int b.m u2), (Value.int a.k t3, Value.int b.k u3), (Value.int a.sh t4, Value.int b.sh u4)] 0 s
  refine kat_cons (wpAny_eqBool_int ?_)
  by_cases c1 : a.u = b.u
  · rw [show (a.u == b.u) = true by simpa using c1]
    refine kat_yes (kat_cons (wpAny_eqBool_int ?_))
    by_cases c2 : a.m = b.m
    · rw [show (a.m == b.m) = true by simpa using c2]
      refine kat_yes (kat_cons (wpAny_eqBool_int ?_))
      by_cases c3 : a.k = b.k
      · rw [show (a.k == b.k) = true by simpa using c3]
        refine kat_yes (kat_cons (wpAny_eqBool_int ?_))
        by_cases c4 : a.sh = b.sh
        · rw [show (a.sh == b.sh) = true by simpa using c4]
          refine kat_yes (kat_nil ?_)
          rw [show lexLt a b = false by simp only [lexLt, decide_eq_false_iff_not]; walk_at "o"] at q
          exact q
        · rw [show (a.sh == b.sh) = false by simpa using c4]
          refine kat_no (kat_one _ _ (lt_int ?_))
          rw [show lexLt a b = decide (a.sh < b.sh) by unfold lexLt; apply decide_eq_decide.mpr; walk_at "o"] at q
          exact q
      · rw [show (a.k == b.k) = false by simpa using c3]
        refine kat_no (kat_one _ _ (lt_int ?_))
        rw [show lexLt a b = decide (a.k < b.k) by unfold lexLt; apply decide_eq_decide.mpr; walk_at "o"] at q
        exact q
    · rw [show (a.m == b.m) = false by simpa using c2]
      refine kat_no (kat_one _ _ (lt_int ?_))
      rw [show lexLt a b = decide (a.m < b.m) by unfold lexLt; apply decide_eq_decide.mpr; walk_at "o"] at q
      exact q
  · rw [show (a.u == b.u) = false by simpa using c1]
    refine kat_no (oneLt_int ?_)
    rw [show lexLt a b = decide (a.u < b.u) by unfold lexLt; apply decide_eq_decide.mpr; walk_at "o"] at q
    exact q
theorem All2.getD {α β : Type} {R : α → β → Prop} {as : List α} {bs : List β} (h : All2 R as bs) (da : α) (db : β) {i : Nat} (hi : i < bs.length) : R (as.getD i da) (bs.getD i db) := by
  obtain ⟨a, h1, h2⟩ := h.get (List.getElem?_eq_getElem hi)
  rw [List.getD_eq_getElem?_getD, h1, List.getD_eq_getElem?_getD, List.getElem?_eq_getElem hi]
  exact h2
theorem All2.maps {α β : Type} {R : α → β → Prop} {f : Nat → α} {g : Nat → β} : ∀ {l : List Nat}, (∀ i ∈ l, R (f i) (g i)) → All2 R (l.map f) (l.map g)
  | [], _ => .nil
  | i :: l, h => .cons (h i (.head _)) (All2.maps fun j hj => h j (.tail _ hj))
theorem range_getD {α : Type} (es : List α) (d : α) : (List.range es.length).map (fun i => es.getD i d) = es := by
  apply List.ext_getElem?
  intro i
  by_cases hi : i < es.length
  · rw [List.getElem?_map, List.getElem?_range hi, List.getElem?_eq_getElem hi]; simp [List.getD_eq_getElem?_getD, hi]
  · rw [List.getElem?_eq_none (by simp; walk_at "o"), List.getElem?_eq_none (by walk_at "o")]
noncomputable def e0 : En := ⟨0, 0, 0, 0⟩
theorem tup_neL {a : Addr} {its : Array Value} (O : Own g L h m mu) (ht : IsTup h a its) : a ≠ L := fun q => by
  obtain ⟨oL, es, ep, hL, hd, _⟩ := O.ns
  obtain ⟨o, ho, _, n, hn⟩ := ht
  subst q
  rw [hL] at ho; cases ho
  rw [hd] at hn; cases hn
theorem sort_short {a : Addr} {vs : List Value} {n : Nat} {P : PySem.Fin → Shared → Prop} {s : Shared} (ho : s.heap.get? a = some (seqObj "list" vs.toArray n)) (h2 : vs.length < 2)
    (hq : P (.done (.ret .none)) { s with heap := sortedHeap s.heap a vs vs.toArray }) : wpAny (model PG w) A (Builtin.«list.sort» ⟨[.ref a], []⟩) P E s := by
  rw [list_sort_plain]
  have ha : a < s.heap.objs.size := Heap.lt_size ho
  have z : vs.length ≤ sizeLine := by rw [sizeLine_eq]; walk_at "o"
  refine wpAny_bind (listItems_at ho rfl ?_)
  refine wpAny_bind (listUpdate_at ho rfl ?_ (by rw [List.size_toArray, sizeLine_eq]; walk_at "o") (Nat.zero_le _))
  obtain ⟨e1, ho1⟩ : ∃ e1, (s.heap.update a (Obj.mapSeq fun _ => #[])).get? a = some (seqObj "list" #[] e1) := ⟨_, get?_update_seq ho (fun _ => #[])⟩
  refine wpAny_bind (seqEpoch_at ho1 rfl ?_)
  refine wpAny_bind (wpAny_newTuple ?_ z)
  refine wpAny_bind (wpAny_newList ?_ (Nat.zero_le _))
  refine wpAny_holding ?_
  have ho6 : (((s.heap.update a (Obj.mapSeq fun _ => #[])).push (seqObj "tuple" vs.toArray 0)).push (seqObj "list" #[] 0)).get? a = some (seqObj "list" #[] e1) := by
    rw [Heap.get?_push_ne _ _ _ (by rw [size_push', Heap.size_update]; exact Nat.ne_of_lt (Nat.lt_succ_of_lt ha)), Heap.get?_push_ne _ _ _ (by rw [Heap.size_update]; exact Nat.ne_of_lt ha)]
    exact ho1
  show wpAny (model PG w) A _ P E { s with heap := ((s.heap.update a (Obj.mapSeq fun _ => #[])).push (seqObj "tuple" vs.toArray 0)).push (seqObj "list" #[] 0) }
  dsimp only
  have h2' : vs.toArray.size < 2 := by rw [List.size_toArray]; exact h2
  rw [if_pos h2', if_pos h2']
  refine wpAny_bind (wpAny_pure ?_)
  rw [StateT.run_pure]
  refine wpAny_bind (wpAny_pure ?_)
  dsimp only
  refine wpAny_bind (seqEpoch_at ho6 rfl ?_)
  have out : (arrOf (SortSt.mk' general' (vs.toArray.zip vs.toArray) #[] 7 none)).map (·.2) = vs.toArray := by
    show (vs.toArray.zip vs.toArray).map (·.2) = vs.toArray
    rw [Array.map_snd_zip (by simp)]
  rw [out]
  refine wpAny_bind (listUpdate_at ho6 rfl ?_ (Nat.zero_le _) (by rw [List.size_toArray, sizeLine_eq]; walk_at "o"))
  simp only [bne_self_eq_false, Bool.false_eq_true, if_false]
  exact wpAny_pure hq
theorem sorted_short {Q : Value → Shared → Prop} {l : Addr} {vs : List Value} {s : Shared} (hl : s.heap.IsList l vs.toArray) (h2 : vs.length < 2)
    (hq : Q (.ref (s.heap.objs.size + 1)) { s with heap := sortedAll s.heap vs vs.toArray }) : wpAny (model PG w) A (call (.builtin "sorted") [.ref l]) Q E s := by
  refine Calls.call_function_entry kind_sorted plain_sorted entry_sorted (args_sorted1 _) ?_
  unfold Builtin.«sorted»
  refine wpAny_bind (m := checkCount "sorted" 1 1 _) (wpAny_pure ?_)
  refine wpAny_bind (collect_list hl ?_ (by rw [sizeLine_eq]; walk_at "o"))
  refine wpAny_bind (wpAny_newList ?_ (by rw [sizeLine_eq]; walk_at "o"))
  have hsz : ((s.heap.push (seqObj "list" #[] 0)).update s.heap.objs.size (Obj.mapSeq (· ++ vs.toArray))).objs.size = s.heap.objs.size + 1 := by
    rw [Heap.size_update, size_push']
  have hoL : (((s.heap.push (seqObj "list" #[] 0)).update s.heap.objs.size (Obj.mapSeq (· ++ vs.toArray))).push (seqObj "list" vs.toArray 0)).get? (s.heap.objs.size + 1) = some (seqObj "list" vs.toArray 0) := by
    rw [← hsz]; exact Heap.get?_push_size _ rfl
  show wpAny _ _ _ _ _ { s with heap := ((s.heap.push (seqObj "list" #[] 0)).update s.heap.objs.size (Obj.mapSeq (· ++ vs.toArray))).push (seqObj "list" vs.toArray 0) }
  rw [hsz]
  refine wpAny_bind (wpAny_holding (wpAny_call_entry slot_list_sort ⟨_, hoL, rfl⟩ entry_list_sort (sort_short hoL h2 ⟨_, rfl, ?_⟩) (args_list_sort _)))
  exact wpAny_pure ⟨_, rfl, hq⟩
theorem Own.sorted {vs : List Value} {out : Array Value} (O : Own g L h m mu) : h.get? (h.objs.size + 1) = none ∧ h.StaysIn (sortedAll h vs out) ∧ ∃ n, Own g L (sortedAll h vs out) m ((h.objs.size + 1, listOf out n) :: mu) := by
  have st : h.StaysIn (sortedAll h vs out) := fun b o e => sortedAll_old e
  have fD : h.get? (h.objs.size + 1) = none := by
    cases q : h.get? (h.objs.size + 1) with
    | none => rfl
    | some o => exact absurd (Heap.lt_size q) (Nat.not_lt.mpr (Nat.le_succ _))
  obtain ⟨n, hn⟩ := sortedAll_at h vs out
  exact ⟨fD, st, n, O.add st fD hn⟩
theorem r_sorted_ints {Q : Value → Shared → Prop} {l : Addr} {vs : List Value} {ns : List Int} (O : Own g L h m mu) (hl : h.IsList l vs.toArray) (hI : IntsAre vs ns) (h64 : vs.length < 64)
    (q : ∀ D n h' vs' ns', h.StaysIn h' → IntsAre vs' ns' → ns'.Perm ns → ns'.Pairwise (· ≤ ·) → Own g L h' m ((D, listOf vs'.toArray n) :: mu) → Q (.ref D) (S3 s h' k)) :
    wpAny (model PG w) A (call (.builtin "sorted") [.ref l] []) Q E (S3 s h k) := by
  refine sorted_ints (s := S3 s h k) hl hI h64 fun out ns' a1 a2 a3 => ?_
  obtain ⟨fD, st, n, O'⟩ := O.sorted (vs := vs) (out := out)
  exact q _ n _ out.toList ns' st a1 a2 a3 (by rw [Array.toArray_toList]; exact O')
end srt
end Mine
namespace Mine
theorem IsCell.mono {h h' : Heap} {c : Addr} {v : Option Value} (k : h.StaysIn h') (I : h.IsCell c v) : h'.IsCell c v := let ⟨o, a, b⟩ := I; ⟨o, k _ _ a, b⟩
/-- the call of a def of the text that binds two cells and raises nothing -/
theorem enter_c2 {w : World} {A : Around} {s : Shared} {hp : Heap} {k : Nat} {mg mb : Str → Option Value} {Q : Value → Shared → Prop} {E : Value → Shared → Prop} {n : Nat}
    {name : Str} {params : Arguments} {body : List Stmt} {scope : Scope} {doc pm cdv oc : Value} {od : Option Addr} {osl : Array (Option Value)} {f : Addr} {args : List Value} {n1 n2 : Str} {v1 v2 : Value}
    (binds : List (Str × Value)) (m0 : Str → Option Value)
    (G : GK w mg mb hp) (hA : OkA A (n + 1))
    (ho : (hd.heap_39 w.params).lookup f = some ⟨oc, od, .func (docDef name params body scope pm cdv doc), osl⟩) (hcd : codeIn (hd.heap_39 w.params) cdv name = true)
    (hbind : bindArgs (docDef name params body scope pm cdv doc) ⟨args, []⟩ = pure binds)
    (hcf : ∀ L, cellsFrom (L + 1) scope.names [] = [(n2, L + 1 + 1), (n1, L + 1)])
    (hkind : ∀ x ∈ binds, scope.names.lookup x.1 = some .local ∨ (scope.names.lookup x.1 = some .cell ∧ (x.1 = n1 ∨ x.1 = n2)))
    (h1 : ∀ L, bindC (envOfC name scope L f cdv).kindOf binds (fun _ => none) n1 = some v1) (h2 : ∀ L, bindC (envOfC name scope L f cdv).kindOf binds (fun _ => none) n2 = some v2) (hne : n1 ≠ n2) (hm : ∀ L, bindL (envOfC name scope L f cdv).kindOf binds (fun _ => none) = m0)
    (h : ∀ A' E' g h₁ L k₁, OkA A' n → hp.StaysIn g → Own g L h₁ m0 [] → g.IsCell (L + 1) (some v1) → g.IsCell (L + 1 + 1) (some v2) →
      wpAny (model PG w) A' (execs body (envOfC name scope L f cdv)) (retQ Q) E' (S3 s h₁ k₁))
    (hco : scope.isCoroutine = false := by rfl) (hgen : scope.isGenerator = false := by rfl) (hk : scope.kind = .function := by rfl) :
    codeAny (model PG w) A (.call (.ref f) ⟨args, []⟩) (fun r s' => match r with | .ok (.ret v) => Q v s' | .ok _ => False | .error e => E e s') (S3 s hp k) := by
  refine call_cellsN (s := S3 s hp k) hA.room (G.x _ _ ho) rfl G.t.nolimit (codeRec_of G.x hcd) hbind (fun x hx => ?_) ?_ (fun h₁ tk cells F N C => ?_) hco hgen hk
  · rcases hkind x hx with q | ⟨q, e⟩
    · exact .inl q
    · refine .inr ⟨q, ?_⟩
      rw [hcf]
      rcases e with e | e
      · rw [e, List.lookup_cons, beq_eq_false_iff_ne.mpr hne]; simp
      · rw [e]; simp
  · have := cellsFrom_names scope.names 0 (0 + 1) [] [] rfl
    rw [this, hcf]
    simp [Ne.symm hne]
  · rw [hcf] at C
    obtain ⟨o2, o1, rfl, d2, d1⟩ := C.two
    have Lf := get_size hp
    have O : Own hp hp.objs.size h₁ m0 [] := ⟨hm _ ▸ F.ns, F.keep, Lf, (fun _ hp => nomatch hp), .nil⟩
    obtain ⟨g, st, O2, kk, _⟩ := O.all
    have c2 := N _ (.head _)
    have c1 := N _ (.tail _ (.head _))
    refine h _ _ g h₁ hp.objs.size _ (hA.deeper _) st O2 ⟨o1, kk _ _ c1.2.1 c1.1, ?_⟩ ⟨o2, kk _ _ c2.2.1 c2.1, ?_⟩
    · rw [d1]; exact congrArg Data.cell (h1 _)
    · rw [d2]; exact congrArg Data.cell (h2 _)
section cellr
variable {w : World} {A : Around} {E : Value → Shared → Prop} {s : Shared} {h g : Heap} {L C : Addr} {m : Str → Option Value} {mu : List (Addr × Obj)} {k : Nat} {env : Env} {pos : Pos} {x : Str} {v : Value} {c : Addr}
/-- a name in a cell -/
theorem r_cell {Q : Value → Shared → Prop} (hc : env.cells.lookup x = some c) (hv : h.IsCell c (some v)) (hl : env.kindOf x = some .cell) (q : Q v (S3 s h k))
    (hk : env.scope.kind = .function := by rfl) (hd : (x == ("__debug__" : Str)) = false := by decide) : wpAny (model PG w) A (eval (.Name x pos) env) Q E (S3 s h k) :=
  wpAny_Name (wpAny_loadName_cell hk hl hc hv q) hd
theorem r_storeC {Q : Unit → Shared → Prop} {o : Obj} {v0 : Option Value} (O : Own g L h m ((c, o) :: mu)) (hd : o.data = .cell v0) (hc : env.cells.lookup x = some c) (hl : env.kindOf x = some .cell)
    (q : ∀ h' o', o'.data = .cell (some v) → Own g L h' m ((c, o') :: mu) → Q () (S3 s h' k)) (hk : env.scope.kind = .function := by rfl) : wpAny (model PG w) A (storeName env x v) Q E (S3 s h k) := by
  refine wpAny_storeName_cell (s := S3 s h k) hk hl hc ⟨o, O.head, hd⟩ fun h' hv hs => ?_
  obtain ⟨o', e, d⟩ := hv
  exact q h' o' d (O.upd hs e)
end cellr
end Mine
namespace Mine
theorem IsEnt.uniq {h : Heap} {v : Value} {e e' : En} (a : IsEnt h v e) (b : IsEnt h v e') : e = e' := by
  obtain ⟨x, t1, t2, t3, t4, rfl, o, ho, _, n, hd⟩ := a
  obtain ⟨x', u1, u2, u3, u4, e, o', ho', _, n', hd'⟩ := b
  cases e
  rw [ho] at ho'; cases ho'
  rw [hd] at hd'
  cases e; cases e'
  simp only [Data.seq.injEq, Array.mk.injEq, List.cons.injEq, Value.int.injEq] at hd'
  simp [hd'.1]
open Classical in
/-- a test of writes, said of values -/
noncomputable def entP (h : Heap) (f : En → Bool) (v : Value) : Bool := decide (∃ e, IsEnt h v e ∧ f e = true)
open Classical in
theorem entP_eq {h : Heap} {f : En → Bool} {v : Value} {e : En} (I : IsEnt h v e) : entP h f v = f e := by
  unfold entP
  cases q : f e with
  | true => exact decide_eq_true ⟨e, I, q⟩
  | false =>
    refine decide_eq_false ?_
    rintro ⟨e', I', q'⟩
    rw [← I.uniq I', q] at q'; cases q'
theorem ent_filter {h : Heap} {f : En → Bool} {vs : List Value} {es : List En} (I : All2 (IsEnt h) vs es) : All2 (IsEnt h) (vs.filter (entP h f)) (es.filter f) := by
  induction I with
  | nil => exact .nil
  | cons a _ ih =>
    rw [List.filter_cons, List.filter_cons, entP_eq a]
    split
    · exact .cons a ih
    · exact ih
theorem ent_mem {h : Heap} {vs : List Value} {es : List En} (I : All2 (IsEnt h) vs es) {v : Value} (hv : v ∈ vs) : ∃ e ∈ es, IsEnt h v e := by
  obtain ⟨i, hi⟩ := List.getElem?_of_mem hv
  obtain ⟨e, he, r⟩ := I.get' hi
  exact ⟨e, List.mem_of_getElem? he, r⟩
theorem paired_same {F : Value → Value → Prop} (hF : ∀ v y, F v y → y = v) : ∀ {vs ys : List Value}, Paired F vs ys → ys = vs
  | _, _, .nil => rfl
  | _, _, .cons a r => by rw [hF _ _ a, paired_same hF r]
theorem stored_new {kvs : List (Int × Value)} {k : Int} {v : Value} (h : ∀ p ∈ kvs, p.1 ≠ k) : stored kvs k v = kvs ++ [(k, v)] := by
  unfold stored
  rw [if_neg]
  rw [List.any_eq_true]
  rintro ⟨p, hp, q⟩
  exact h p hp (by simpa using q)
theorem stored_last {kvs : List (Int × Value)} {k : Int} {v v' : Value} (h : ∀ p ∈ kvs, p.1 ≠ k) : stored (kvs ++ [(k, v)]) k v' = kvs ++ [(k, v')] := by
  unfold stored
  rw [if_pos (by simp), List.map_append]
  congr 1
  · refine (List.map_congr_left fun p hp => ?_).trans (List.map_id _)
    rw [if_neg (h p hp)]; rfl
  · simp
theorem All2.length' {α β : Type} {R : α → β → Prop} {as : List α} {bs : List β} (h : All2 R as bs) : as.length = bs.length := h.length
theorem Own.freeze {g h : Heap} {L : Addr} {m : Str → Option Value} {mu : List (Addr × Obj)} (O : Own g L h m mu) : ∃ g2, g.StaysIn g2 ∧ Own g2 L h m mu ∧ ∀ b o, b ≠ L → b ∉ mu.map (·.1) → h.get? b = some o → g2.get? b = some o :=
  ⟨_, O.rebase.2.1, O.rebase.1, O.rebase.2.2⟩
theorem r_dict1 {w : World} {A : Around} {E : Value → Shared → Prop} {s : Shared} {h g : Heap} {L : Addr} {m mg mb : Str → Option Value} {mu : List (Addr × Obj)} {k : Nat} {env : Env} {pos : Pos} {Q : Value → Shared → Prop} (G : GK w mg mb g) (O : Own g L h m mu)
    (q : ∀ d o h', (d == sysModules) = false → h.get? d = none → h.StaysIn h' → o.IsDictOf (intKind PG w) [] → Own g L h' m ((d, o) :: mu) → Q (.ref d) (S3 s h' k)) :
    wpAny (model PG w) A (eval (.Dict [] [] pos) env) Q E (S3 s h k) := by
  refine wpAny_Dict_empty (s := S3 s h k) ?_
  obtain ⟨o, ho, hd⟩ := Heap.dictOf_iff.mp (Heap.DictOf.new (knd := intKind PG w) h)
  have hz : 2 < h.objs.size := Heap.lt_size (O.keep _ _ (G.x 2 _ (by k_is)))
  refine q h.objs.size o _ ?_ (get_size h) (fun _ _ e => Heap.get?_push_of_some _ e) hd (O.add (fun _ _ e => Heap.get?_push_of_some _ e) (get_size h) ho)
  exact beq_eq_false_iff_ne.mpr fun q => absurd (q ▸ hz : 2 < sysModules) (by decide)
theorem isCell_get {h : Heap} {c : Addr} {o : Obj} {v : Option Value} (e : h.get? c = some o) (d : o.data = .cell v) : h.IsCell c v := ⟨o, e, d⟩
end Mine
namespace Mine
theorem enter_c2t {w : World} {A : Around} {s : Shared} {hp base : Heap} {k : Nat} {mg mb : Str → Option Value} {Q : Value → Shared → Prop} {E : Value → Shared → Prop} {n : Nat}
    {name : Str} {params : Arguments} {body : List Stmt} {scope : Scope} {doc pm cdv oc : Value} {od : Option Addr} {osl : Array (Option Value)} {f : Addr} {args : List Value} {n1 n2 : Str} {v1 v2 : Value} {outer : List Env}
    (binds : List (Str × Value)) (m0 : Str → Option Value)
    (G : GK w mg mb base) (hA : OkA A (n + 1)) (K : Below A base outer hp)
    (ho : (hd.heap_39 w.params).lookup f = some ⟨oc, od, .func (docDef name params body scope pm cdv doc), osl⟩) (hcd : codeIn (hd.heap_39 w.params) cdv name = true)
    (hbind : bindArgs (docDef name params body scope pm cdv doc) ⟨args, []⟩ = pure binds)
    (hcf : ∀ L, cellsFrom (L + 1) scope.names [] = [(n2, L + 1 + 1), (n1, L + 1)])
    (hkind : ∀ x ∈ binds, scope.names.lookup x.1 = some .local ∨ (scope.names.lookup x.1 = some .cell ∧ (x.1 = n1 ∨ x.1 = n2)))
    (h1 : ∀ L, bindC (envOfC name scope L f cdv).kindOf binds (fun _ => none) n1 = some v1) (h2 : ∀ L, bindC (envOfC name scope L f cdv).kindOf binds (fun _ => none) n2 = some v2) (hne : n1 ≠ n2) (hm : ∀ L, bindL (envOfC name scope L f cdv).kindOf binds (fun _ => none) = m0)
    (h : ∀ A' E' g h₁ L k₁, OkA A' n → hp.StaysIn g → hp.objs.size ≤ L → Own g L h₁ m0 [] → g.IsCell (L + 1) (some v1) → g.IsCell (L + 1 + 1) (some v2) → A'.frames = some (envOfC name scope L f cdv :: outer) →
      (∀ {h2 m mu}, Own base L h2 m mu → hp.UpToSlots h2 → Below A' base (envOfC name scope L f cdv :: outer) h2) →
      wpAny (model PG w) A' (execs body (envOfC name scope L f cdv)) (retQ Q) E' (S3 s h₁ k₁))
    (hco : scope.isCoroutine = false := by rfl) (hgen : scope.isGenerator = false := by rfl) (hk : scope.kind = .function := by rfl) :
    codeAny (model PG w) A (.call (.ref f) ⟨args, []⟩) (fun r s' => match r with | .ok (.ret v) => Q v s' | .ok _ => False | .error e => E e s') (S3 s hp k) := by
  have Gp := G.keeps K.stays
  refine call_cellsN (s := S3 s hp k) hA.room (Gp.x _ _ ho) rfl Gp.t.nolimit (codeRec_of Gp.x hcd) hbind (fun x hx => ?_) ?_ (fun h₁ tk cells F N C => ?_) hco hgen hk
  · rcases hkind x hx with q | ⟨q, e⟩
    · exact .inl q
    · refine .inr ⟨q, ?_⟩
      rw [hcf]
      rcases e with e | e
      · rw [e, List.lookup_cons, beq_eq_false_iff_ne.mpr hne]; simp
      · rw [e]; simp
  · have := cellsFrom_names scope.names 0 (0 + 1) [] [] rfl
    rw [this, hcf]
    simp [Ne.symm hne]
  · rw [hcf] at C
    obtain ⟨o2, o1, rfl, d2, d1⟩ := C.two
    have Lf := get_size hp
    have hnew := fresh_of_stays K.stays Lf
    have O : Own hp hp.objs.size h₁ m0 [] := ⟨hm _ ▸ F.ns, F.keep, Lf, (fun _ hp => nomatch hp), .nil⟩
    obtain ⟨g, st, O2, kk, _⟩ := O.all
    have c2 := N _ (.head _)
    have c1 := N _ (.tail _ (.head _))
    refine h _ _ g h₁ hp.objs.size _ (hA.deeper _) st (Nat.le_refl _) O2 ⟨o1, kk _ _ c1.2.1 c1.1, ?_⟩ ⟨o2, kk _ _ c2.2.1 c2.1, ?_⟩ (Around.frames_deeper K.stack) fun {h2 m mu} O2 sm =>
      ⟨Around.frames_deeper K.stack, O2.keep, .cons (by show scope.kind ≠ .module; rw [hk]; decide) rfl O2.ns hnew (K.frames.of_keeps fun b o e hd => let ⟨sl, q⟩ := sm b o e hd; ⟨_, q, rfl⟩)⟩
    · rw [d1]; exact congrArg Data.cell (h1 _)
    · rw [d2]; exact congrArg Data.cell (h2 _)
end Mine
namespace Mine
local macro_rules | `(tactic| walk_at "mO") => `(tactic| with_reducible assumption)
local macro_rules | `(tactic| walk_at "mV") => `(tactic| first | exact rfl | assumption)
local macro_rules | `(tactic| walk_at "mArith") => `(tactic| first | assumption | walk_at "o")
local macro_rules | `(tactic| walk_at "mCell") => `(tactic| first | assumption | exact IsCell.mono (Own.keep (by walk_at "mO")) (by assumption))
local macro_rules | `(tactic| walk_at "mName") => `(tactic| first
  | ((with_reducible refine' r_loc ?o ?v ?l ?L ?_ ?hk ?hd); (case o => walk_at "mO"); (case L | l => exact rfl); (case v => walk_at "mV"); (case hk => exact rfl); (case hd => decide))
  | ((with_reducible refine' r_glob ?g ?o ?x ?e ?_ ?he ?hk ?hd); (case g | o => walk_at "mO"); (case x => exact rfl); (case e => k_is); (case he | hk => exact rfl); (case hd => decide))
  | ((with_reducible refine' r_builtin ?g ?o ?x ?e ?v ?_ ?hn ?he ?hb ?hk ?hd); (case g | o => walk_at "mO"); (case x => exact rfl); (case e => k_is); (case v => boot_by_name); (case hn => decide); (case he | hb | hk => exact rfl); (case hd => decide))
  | ((with_reducible refine' r_cell ?hc ?hv ?hl ?_ ?hk ?hd); (case hc => exact rfl); (case hv => walk_at "mCell"); (case hl | hk => exact rfl); (case hd => decide)))
local macro_rules | `(tactic| walk_at "mEval") => `(tactic| first
  | ((with_reducible show wpAny _ _ (eval (Expr.Name _ _) _) _ _ _); walk_at "mName")
  | (with_reducible first | refine r_int ?_ | refine wpAny_BinOp ?_ | refine Attribute_name ?_ | refine r_slice_to ?_ | refine Subscript_ ?_ | refine Constant_bool ?_ | refine wpAny_Constant_none ?_ | refine r_cbytes ?_ | refine Tuple_ ?_ | refine List_ ?_ | refine UnaryOp_ ?_ | refine BoolOp_one ?_ | refine BoolOp_and ?_ | refine BoolOp_or ?_)
  | ((with_reducible refine' wpAny_Compare1 ?_ ?hm); (case hm => with_unfolding_all rfl))
  | ((with_reducible show wpAny _ _ (eval (Expr.Call (Expr.Attribute _ _ _) _ _ _) _) _ _ _); (with_reducible refine' MethodCall_ ?_ ?he); (case he => exact rfl))
  | ((with_reducible refine' Call_ ?_ ?he); (case he => exact rfl))
  | ((with_reducible refine' Attribute_any_ ?_ ?he); (case he => exact rfl))
  | ((with_reducible refine' Compare_chain ?_ ?hm); (case hm => with_unfolding_all rfl)))
local macro_rules | `(tactic| walk_at "mExec") => `(tactic| first
  | (with_reducible first | refine wpAny_Return_some ?_ | refine wpAny_If ?_ | refine wpAny_AugAssign_Name ?_ | refine wpAny_AugAssign_AttributeAny ?_)
  | ((with_reducible refine' wpAny_Assign_Name ?_ ?hs); (case hs => exact rfl))
  | ((with_reducible refine' wpAny_Assign_Subscript ?_ ?hs); (case hs => exact rfl))
  | ((with_reducible refine' plainObj_wpAny_Assign_Attribute ?_ ?hs); (case hs => with_unfolding_all rfl))
  | ((with_reducible refine' wpAny_Expr_any ?_ ?hi ?hs); (case hi | hs => exact rfl))
  | ((with_reducible refine' r_for ?_ ?hs); (case hs => intro _; rfl)))
local macro_rules | `(tactic| walk_at "mTrue") => `(tactic| first
  | (with_reducible first | refine isTrue_not ?_ | refine isTrue_and_nil ?_ | refine isTrue_or_nil ?_ | refine isTrue_and ?_ | refine isTrue_or ?_)
  | ((with_reducible refine' wpAny_isTrue_Compare1 ?_ ?hm); (case hm => with_unfolding_all rfl))
  | ((with_reducible refine' isTrue_chain ?_ ?hm); (case hm => with_unfolding_all rfl))
  | ((with_reducible refine' isTrue_plain ?_ ?he); (case he => exact rfl)))
local macro_rules | `(tactic| walk_at "mCmp") => `(tactic| first
  | (with_reducible first | refine lt_int ?_ | refine le_int ?_ | refine gt_int ?_ | refine ge_int ?_ | refine eq_int ?_ | refine ne_int ?_ | refine ne_bool ?_ | refine lt_bytes ?_ | refine gt_bytes ?_ | refine le_bytes ?_ | refine ge_bytes ?_ | refine eq_bytes ?_ | refine ne_bytes ?_))
local macro_rules | `(tactic| walk_at "mBin") => `(tactic| first
  | (with_reducible first | refine r_add ?_ | refine r_sub ?_ | refine r_and ?_ | refine r_or ?_)
  | ((with_reducible refine' r_mod ?hb ?_); (case hb => walk_at "mArith"))
  | ((with_reducible refine' r_fdiv ?hb ?hc ?_); (case hb | hc => walk_at "mArith"))
  | ((with_reducible refine' r_mul ?hb ?_); (case hb => walk_at "mArith"))
  | ((with_reducible refine' r_shr ?hb ?_); (case hb => walk_at "mArith"))
  | ((with_reducible refine' r_shl ?hb ?hc ?hd ?_); (case hb | hc | hd => walk_at "mArith"))
  | ((with_reducible refine' r_pow ?hb ?hc ?hd ?_); (case hb | hc | hd => walk_at "mArith")))
local macro_rules | `(tactic| walk_at "mCallW") => `(tactic| first
  | ((with_reducible refine' r_callW ?hk ?he ?hp ?_); (case hk => k_is); (case he | hp => exact rfl))
  | ((with_reducible refine' r_callW0 ?g ?o ?hk ?_); (case g | o => walk_at "mO"); (case hk => k_is))
  | ((with_reducible refine' r_callM ?hk ?he ?hp ?_); (case hk => k_is); (case he | hp => exact rfl))
  | ((with_reducible refine' r_callM0 ?g ?o ?hk ?_); (case g | o => walk_at "mO"); (case hk => k_is))
  | ((with_reducible refine' r_callB ?he ?hp ?_); (case he | hp => exact rfl))
  | ((with_reducible refine' r_callBM ?he ?hp ?_); (case he | hp => exact rfl))
  | ((with_reducible refine' r_callT ?he ?hp ?_); (case he | hp => exact rfl)))
local macro_rules | `(tactic| walk_at "mB") => `(tactic| first | rfl | assumption | (simp only [decide_eq_true_eq, decide_eq_false_iff_not, Bool.not_eq_true', Bool.not_eq_false', beq_iff_eq, bne_iff_ne, beq_eq_false_iff_ne, bne_eq_false_iff_eq, ne_eq, Bool.and_eq_true, Bool.or_eq_true, Bool.and_eq_false_iff, Bool.or_eq_false_iff]; walk_at "o"))
local macro_rules | `(tactic| walk_at "mInst") => `(tactic| first | assumption | exact IsInst.mono (Own.keep (by walk_at "mO")) (by assumption) | exact ⟨_, _, Own.get (by walk_at "mO") (by assumption), Own.head (by walk_at "mO")⟩ | exact ⟨_, _, Own.get (by walk_at "mO") (by assumption), Own.second (by walk_at "mO")⟩)
local macro_rules | `(tactic| walk_at "mAttr") => `(tactic| ((with_reducible refine' r_getAttr ?G ?O ?I ?hl ?hv ?hg ?hh ?ha ?hn ?_); (case G | O => walk_at "mO"); (case I => walk_at "mInst"); (case hl => assumption); (case hv => exact rfl); (case hg | hh | ha | hn => k_is)))
local macro_rules | `(tactic| walk_at "mMeth") => `(tactic| ((with_reducible refine' r_getMethod ?G ?O ?I ?hl ?hg ?hf ?ht ?_); (case G | O => walk_at "mO"); (case I => walk_at "mInst"); (case hl => first | assumption | exact rfl); (case hg | hf | ht => k_is)))
local macro_rules | `(tactic| walk_at "mList") => `(tactic| first | assumption | exact Own.list (by walk_at "mO") (by assumption))
local macro_rules | `(tactic| walk_at "mSet") => `(tactic| ((with_reducible refine' r_setAttr ?G ?O ?hx ?hr ?hz ?hs ?hp ?ht ?hh ?_); (case G | O => walk_at "mO"); (case hx => first | assumption | exact Own.get (by walk_at "mO") (by assumption)); (case hr => first | assumption | exact NoRef.nil); (case hz => first | walk_at "mArith" | simp); (case hs | hp | ht | hh => k_is)))
local macro_rules | `(tactic| walk_at "ms") => `(tactic| first
  | ((with_reducible show wpAny _ _ (eval _ _) _ _ _); walk_at "mEval")
  | ((with_reducible show wpAny _ _ (spliced _) _ _ _); first
      | ((with_reducible refine' spliced_more ?_ ?he); (case he => exact rfl))
      | (with_reducible refine spliced_none ?_))
  | ((with_reducible show wpAny _ _ (callWith _ _ _ _ _) _ _ _); walk_at "mCallW")
  | ((with_reducible show wpAny _ _ (binaryOp _ _ _) _ _ _); walk_at "mBin")
  | ((with_reducible show wpAny _ _ (compareOp _ _ _) _ _ _); walk_at "mCmp")
  | (with_reducible refine wpAny_truthy_bool ?_)
  | ((with_reducible show wpAny _ _ (isTrue _ _ _) _ _ _); walk_at "mTrue")
  | (with_reducible first | refine r_cons ?_ | refine r_nil ?_ | refine t_next ?_ | refine t_ret ?_ | refine t_retQ ?_ | refine t_retN ?_ | refine t_sliceQ ?_)
  | ((with_reducible refine' r_assign_name ?o ?hl ?hL ?_ ?hp); (case o => walk_at "mO"); (case hL | hl | hp => exact rfl); intro h' O')
  | ((with_reducible refine' r_kin ?g ?o ?_); (case g | o => walk_at "mO"))
  | ((with_reducible show wpAny _ _ (storeName _ _ _) _ _ _); ((with_reducible refine' r_store ?o ?hl ?hL ?_ ?hp); (case o => walk_at "mO"); (case hL | hl | hp => exact rfl)); intro h' O')
  | ((with_reducible show wpAny _ _ (loadName _ _) _ _ _); (with_reducible refine' r_loadName ?o ?v ?l ?L ?_ ?hk); (case o => walk_at "mO"); (case L | l => exact rfl); (case v => walk_at "mV"); (case hk => exact rfl))
  | ((with_reducible show wpAny _ _ (exec _ _) _ _ _); walk_at "mExec")
  | ((with_reducible refine' r_newList ?hz ?_); (case hz => (simp only [List.length_cons, List.length_nil]; walk_at "o")); intro _ _ fr st ga; have O2 := Own.add (by walk_at "mO") st fr ga)
  | (with_reducible refine r_bytes_bytes ?_)
  | ((with_reducible show wpAny _ _ (getAttr _ _ _) _ _ _); walk_at "mAttr")
  | ((with_reducible show wpAny _ _ (getMethod _ _ _) _ _ _); walk_at "mMeth"; (try dsimp only))
  | (with_reducible first | refine r_neg ?_ | refine r_iadd ?_ | refine r_isub ?_)
  | ((with_reducible show wpAny _ _ (call (Value.builtin "len") [Value.ref _] _) _ _ _); (with_reducible refine' r_len_list ?hl ?hz ?_); (case hl => walk_at "mList"); (case hz => walk_at "mArith"))
  | ((with_reducible show wpAny _ _ (call (Value.builtin "len") [Value.bytes _ _] _) _ _ _); (with_reducible refine' r_len_bytes ?hz ?_); (case hz => walk_at "mArith"))
  | ((with_reducible show wpAny _ _ (subscriptTail _ _ (Value.bytes _ _) (Value.int _ _)) _ _ _); (with_reducible refine' r_item_bytes ?hz ?h0 ?h1 ?_ ?hs ?ht); (case hz | h0 | h1 => walk_at "mArith"); (case hs => with_unfolding_all rfl); (case ht => intro _; with_unfolding_all rfl))
  | (with_reducible first | refine if_t ?_ | refine if_f ?_)
  | ((with_reducible show if _ = true then _ else _); first
      | (refine if_T (by walk_at "mB") ?_)
      | (refine if_F (by walk_at "mB") ?_)))
theorem draw_spec {w : World} {A : Around} {s : Shared} {hp : Heap} {k : Nat} {mg mb : Str → Option Value} {Q : Value → Shared → Prop} {E : Value → Shared → Prop}
    (G : GK w mg mb hp) (hA : OkA A 1)
    {a : Addr} {vs : List Value} {ns : List Int} {i : Int} {ti : Tok} (hl : hp.IsList a vs.toArray) (hi : IntsAre vs ns) (hn : 0 < ns.length) (hn2 : ns.length ≤ 100)
    (h : ∀ h' tk t, hp.StaysIn h' → Q (.int (ns.getD (i % ns.length).toNat 0 + 31 * (i / ns.length)) t) (S3 s h' tk)) :
    wpAny (model PG w) A (call (.ref 557) [.ref a, .int i ti] []) Q E (S3 s hp k) := by
  refine wpAny_call (enter_ret [("nums", .ref a), ("i", .int i ti)] G hA (by k_is) (by k_is) (fun _ => BindsTo.of_eq rfl) (locs rfl) ?_)
  intro A' E' h₁ L k₁ hA hL O
  have e : vs.toArray.size = ns.length := by simp [hi.length]
  repeat (walk_at "ms")
  rw [e]
  have f1 := Int.emod_nonneg i (show (ns.length : Int) ≠ 0 by walk_at "o")
  have f2 := Int.emod_lt_of_pos i (show (0 : Int) < ns.length by walk_at "o")
  obtain ⟨t', hx⟩ := hi.get (i % ns.length).toNat _ (ints_getD f1 f2)
  with_reducible refine r_item_list (O.list hl) f1 (by walk_at "o") (by simpa using hx) ?_ ?_
  · repeat (walk_at "ms")
    rw [e]
    repeat (walk_at "ms")
    exact h _ _ _ O.keep
  · with_unfolding_all rfl
/-- the five user keys -/
noncomputable def usersL : List (List UInt8) := [[], [97], [97, 0], [98], [255]]
noncomputable def userB (u : Int) : Array UInt8 := (usersL.getD u.toNat []).toArray
theorem users_spec {w : World} {A : Around} {s : Shared} {hp : Heap} {k : Nat} {mg mb : Str → Option Value} {Q : Value → Shared → Prop} {E : Value → Shared → Prop}
    (G : GK w mg mb hp) (hA : OkA A 1)
    (h : ∀ h' a tk t0 t1 t2 t3 t4, hp.StaysIn h' → h'.IsList a #[.bytes #[] t0, .bytes #[97] t1, .bytes #[97, 0] t2, .bytes #[98] t3, .bytes #[255] t4] → Q (.ref a) (S3 s h' tk)) :
    wpAny (model PG w) A (call (.ref 550) [] []) Q E (S3 s hp k) := by
  refine wpAny_call (enter_ret [] G hA (by k_is) (by k_is) (fun _ => BindsTo.of_eq rfl) (locs rfl) ?_)
  intro A' E' h₁ L k₁ hA hL O
  repeat (walk_at "ms")
  rename_i O2
  exact h _ _ _ _ _ _ _ _ O2.keep ⟨_, O2.head, rfl, _, rfl⟩
theorem seqIdx {u : Int} (h0 : 0 ≤ u) (h1 : u < 5) : u = 0 ∨ u = 1 ∨ u = 2 ∨ u = 3 ∨ u = 4 := by walk_at "o"
theorem userB_size {u : Int} (h0 : 0 ≤ u) (h1 : u < 5) : (userB u).size ≤ 2 := by
  rcases seqIdx h0 h1 with rfl | rfl | rfl | rfl | rfl <;> decide
/-- the eight octets behind a user key -/
noncomputable def tagB (seq kind : Int) : Array UInt8 := byteArr [kind, seq % 256, seq / 256, 0, 0, 0, 0, 0]
noncomputable def ikB (u minus kind : Int) : Array UInt8 := userB u ++ tagB (0 - minus) kind
theorem tagB_size (seq kind : Int) : (tagB seq kind).size = 8 := by simp [tagB, byteArr]
theorem ikey_spec {w : World} {A : Around} {s : Shared} {hp : Heap} {k : Nat} {mg mb : Str → Option Value} {Q : Value → Shared → Prop} {E : Value → Shared → Prop}
    (G : GK w mg mb hp) (hA : OkA A 2) {u minus kind : Int} {tu tm tk : Tok} (u0 : 0 ≤ u) (u1 : u < 5) (m0 : minus ≤ 0) (m1 : -65536 < minus) (k0 : 0 ≤ kind) (k1 : kind < 256)
    (h : ∀ h' tk t, hp.StaysIn h' → Q (.bytes (ikB u minus kind) t) (S3 s h' tk)) :
    wpAny (model PG w) A (call (.ref 564) [.int u tu, .int minus tm, .int kind tk] []) Q E (S3 s hp k) := by
  refine wpAny_call (enter_ret [("u", .int u tu), ("minus", .int minus tm), ("kind", .int kind tk)] G hA (by k_is) (by k_is) (fun _ => BindsTo.of_eq rfl) (locs rfl) ?_)
  intro A' E' h₁ L k₁ hA hL O
  repeat (walk_at "ms")
  rename_i O
  with_reducible refine users_spec (O.gk G) hA fun h2 a2 k2 t0 t1 t2 t3 t4 st hl => ?_
  have O := O.grow st
  have hx : ∃ t, (#[Value.bytes #[] t0, .bytes #[97] t1, .bytes #[97, 0] t2, .bytes #[98] t3, .bytes #[255] t4] : Array Value)[u.toNat]? = some (.bytes (userB u) t) := by
    rcases seqIdx u0 u1 with rfl | rfl | rfl | rfl | rfl <;> exact ⟨_, rfl⟩
  obtain ⟨tx, hx⟩ := hx
  repeat (walk_at "ms")
  with_reducible refine r_item_list hl u0 (by walk_at "o") hx ?_ ?_
  · repeat (walk_at "ms")
    rename_i O2
    with_reducible refine r_bytes_ints hA.handled O2.headList (ns := [kind, (0 - minus) % 256, (0 - minus) / 256, 0, 0, 0, 0, 0]) (by l_ints) ?_ (by simp) fun h4 t4 k4 st4 => ?_
    · simp only [List.forall_mem_cons, List.not_mem_nil, false_implies, implies_true, and_true]
      walk_at "o"
    with_reducible refine r_add_bytes ?_ fun t5 k5 => ?_
    · have := userB_size u0 u1
      simp [byteArr]; walk_at "o"
    repeat (walk_at "ms")
    exact h _ _ _ fun b o e => st4 b o (O2.keep b o e)
  · with_unfolding_all rfl
theorem put32_spec {w : World} {A : Around} {s : Shared} {hp : Heap} {k : Nat} {mg mb : Str → Option Value} {Q : Value → Shared → Prop} {E : Value → Shared → Prop}
    (G : GK w mg mb hp) (hA : OkA A 1) {n : Int} {tn : Tok} (n0 : 0 ≤ n) (n1 : n < 4294967296)
    (h : ∀ h' tk t, hp.StaysIn h' → Q (.bytes (byteArr [n % 256, n / 256 % 256, n / 65536 % 256, n / 16777216]) t) (S3 s h' tk)) :
    wpAny (model PG w) A (call (.ref 115) [.int n tn] []) Q E (S3 s hp k) := by
  refine wpAny_call (enter_ret [("n", .int n tn)] G hA (by k_is) (by k_is) (fun _ => BindsTo.of_eq rfl) (locs rfl) ?_)
  intro A' E' h₁ L k₁ hA hL O
  repeat (walk_at "ms")
  rename_i O2
  with_reducible refine r_bytes_ints hA.handled O2.headList (ns := [Builtin.bitAnd n 255, Builtin.bitAnd (n / 2 ^ 8) 255, Builtin.bitAnd (n / 2 ^ 16) 255, n / 2 ^ 24]) (.cons _ _ (.cons _ _ (.cons _ _ (.cons _ _ .nil)))) ?_ (by simp) fun h4 t4 k4 st4 => ?_
  · simp only [List.forall_mem_cons, List.not_mem_nil, false_implies, implies_true, and_true, bitAnd_m8]
    walk_at "o"
  repeat (walk_at "ms")
  simp only [bitAnd_m8]
  exact h _ _ _ fun b o e => st4 b o (O2.keep b o e)
theorem byteArr_app (a b : List Int) : byteArr a ++ byteArr b = byteArr (a ++ b) := by simp [byteArr]
theorem put64_spec {w : World} {A : Around} {s : Shared} {hp : Heap} {k : Nat} {mg mb : Str → Option Value} {Q : Value → Shared → Prop} {E : Value → Shared → Prop}
    (G : GK w mg mb hp) (hA : OkA A 2) {n : Int} {tn : Tok} (n0 : 0 ≤ n) (n1 : n < 16777216)
    (h : ∀ h' tk t, hp.StaysIn h' → Q (.bytes (byteArr [n % 256, n / 256 % 256, n / 65536, 0, 0, 0, 0, 0]) t) (S3 s h' tk)) :
    wpAny (model PG w) A (call (.ref 122) [.int n tn] []) Q E (S3 s hp k) := by
  refine wpAny_call (enter_ret [("n", .int n tn)] G hA (by k_is) (by k_is) (fun _ => BindsTo.of_eq rfl) (locs rfl) ?_)
  intro A' E' h₁ L k₁ hA hL O
  repeat (walk_at "ms")
  rw [bitAnd_m32]
  refine put32_spec (O.gk G) hA (by walk_at "o") (by walk_at "o") fun h2 k2 t2 st2 => ?_
  have O := O.grow st2
  repeat (walk_at "ms")
  have e0 : n / 2 ^ Int.toNat 32 = 0 := by show n / 2 ^ 32 = 0; walk_at "o"
  rw [e0]
  refine put32_spec (O.gk G) hA (by walk_at "o") (by walk_at "o") fun h3 k3 t3 st3 => ?_
  have O := O.grow st3
  repeat (walk_at "ms")
  with_reducible refine r_add_bytes (by simp [byteArr]) fun t5 k5 => ?_
  repeat (walk_at "ms")
  rw [byteArr_app]
  have e1 : n % 4294967296 = n := by walk_at "o"
  have e2 : n / 65536 % 256 = n / 65536 := by walk_at "o"
  have e3 : n / 16777216 = 0 := by walk_at "o"
  rw [e1, e2, e3]
  exact h _ _ _ O.keep
theorem pack_spec {w : World} {A : Around} {s : Shared} {hp : Heap} {k : Nat} {mg mb : Str → Option Value} {Q : Value → Shared → Prop} {E : Value → Shared → Prop}
    (G : GK w mg mb hp) (hA : OkA A 2) {n : Int} {tn tk : Tok} (n0 : 0 ≤ n) (n1 : n < 65536)
    (h : ∀ h' tk t, hp.StaysIn h' → Q (.int (n * 256 + 1) t) (S3 s h' tk)) :
    wpAny (model PG w) A (call (.ref 143) [.int n tn, .int 1 tk] []) Q E (S3 s hp k) := by
  refine wpAny_call (enter_ret [("seq", .int n tn), ("kind", .int 1 tk)] G hA (by k_is) (by k_is) (fun _ => BindsTo.of_eq rfl) (locs rfl) ?_)
  intro A' E' h₁ L k₁ hA hL O
  repeat (walk_at "ms")
  rw [show n * 2 ^ Int.toNat 8 = n * 2 ^ 8 from rfl, bitOr_parts' 8 (by walk_at "o") (by walk_at "o") n0]
  exact h _ _ _ O.keep
theorem tag_put (n : Int) (n0 : 0 ≤ n) (n1 : n < 65536) : byteArr [(n * 256 + 1) % 256, (n * 256 + 1) / 256 % 256, (n * 256 + 1) / 65536, 0, 0, 0, 0, 0] = tagB n 1 := by
  unfold tagB
  rw [show (n * 256 + 1) % 256 = 1 by walk_at "o", show (n * 256 + 1) / 256 % 256 = n % 256 by walk_at "o", show (n * 256 + 1) / 65536 = n / 256 by walk_at "o"]
theorem mkikey_spec {w : World} {A : Around} {s : Shared} {hp : Heap} {k : Nat} {mg mb : Str → Option Value} {Q : Value → Shared → Prop} {E : Value → Shared → Prop}
    (G : GK w mg mb hp) (hA : OkA A 3) {b : Array UInt8} {n : Int} {tb tn tk : Tok} (hb : b.size ≤ 1000) (n0 : 0 ≤ n) (n1 : n < 65536)
    (h : ∀ h' tk t, hp.StaysIn h' → Q (.bytes (b ++ tagB n 1) t) (S3 s h' tk)) :
    wpAny (model PG w) A (call (.ref 150) [.bytes b tb, .int n tn, .int 1 tk] []) Q E (S3 s hp k) := by
  refine wpAny_call (enter_ret [("user", .bytes b tb), ("seq", .int n tn), ("kind", .int 1 tk)] G hA (by k_is) (by k_is) (fun _ => BindsTo.of_eq rfl) (locs rfl) ?_)
  intro A' E' h₁ L k₁ hA hL O
  repeat (walk_at "ms")
  refine pack_spec (O.gk G) hA n0 n1 fun h2 k2 t2 st2 => ?_
  have O := O.grow st2
  repeat (walk_at "ms")
  refine put64_spec (O.gk G) hA (by walk_at "o") (by walk_at "o") fun h3 k3 t3 st3 => ?_
  have O := O.grow st3
  repeat (walk_at "ms")
  rw [tag_put n n0 n1]
  with_reducible refine r_add_bytes (by rw [tagB_size]; walk_at "o") fun t5 k5 => ?_
  repeat (walk_at "ms")
  exact h _ _ _ O.keep
theorem read32_spec {w : World} {A : Around} {s : Shared} {hp : Heap} {k : Nat} {mg mb : Str → Option Value} {Q : Value → Shared → Prop} {E : Value → Shared → Prop}
    (G : GK w mg mb hp) (hA : OkA A 1) {b : Array UInt8} {n : Int} {tb tn : Tok} (hb : b.size ≤ 1000) (n0 : 0 ≤ n) (n1 : n + 4 ≤ (b.size : Int))
    (h : ∀ h' tk t, hp.StaysIn h' → Q (.int (oct b n + oct b (n + 1) * 256 + oct b (n + 2) * 65536 + oct b (n + 3) * 16777216) t) (S3 s h' tk)) :
    wpAny (model PG w) A (call (.ref 129) [.bytes b tb, .int n tn] []) Q E (S3 s hp k) := by
  refine wpAny_call (enter_ret [("data", .bytes b tb), ("at", .int n tn)] G hA (by k_is) (by k_is) (fun _ => BindsTo.of_eq rfl) (locs rfl) ?_)
  intro A' E' h₁ L k₁ hA hL O
  have a0 := oct_lo b n; have b0 := oct_hi b n
  have a1 := oct_lo b (n + 1); have b1 := oct_hi b (n + 1)
  have a2 := oct_lo b (n + 2); have b2 := oct_hi b (n + 2)
  have a3 := oct_lo b (n + 3); have b3 := oct_hi b (n + 3)
  repeat (walk_at "ms")
  rw [show Int.toNat 8 = 8 from rfl, show Int.toNat 16 = 16 from rfl, show Int.toNat 24 = 24 from rfl, bitOr_parts 8 (by walk_at "o") (by walk_at "o") a1, bitOr_parts 16 (by walk_at "o") (by walk_at "o") a2, bitOr_parts 24 (by walk_at "o") (by walk_at "o") a3]
  exact h _ _ _ O.keep
theorem read64_spec {w : World} {A : Around} {s : Shared} {hp : Heap} {k : Nat} {mg mb : Str → Option Value} {Q : Value → Shared → Prop} {E : Value → Shared → Prop}
    (G : GK w mg mb hp) (hA : OkA A 2) {b : Array UInt8} {n : Int} {tb tn : Tok} (hb : b.size ≤ 1000) (n0 : 0 ≤ n) (n1 : n + 8 ≤ (b.size : Int))
    (hz : oct b (n + 3) = 0 ∧ oct b (n + 4) = 0 ∧ oct b (n + 5) = 0 ∧ oct b (n + 6) = 0 ∧ oct b (n + 7) = 0)
    (h : ∀ h' tk t, hp.StaysIn h' → Q (.int (oct b n + oct b (n + 1) * 256 + oct b (n + 2) * 65536) t) (S3 s h' tk)) :
    wpAny (model PG w) A (call (.ref 136) [.bytes b tb, .int n tn] []) Q E (S3 s hp k) := by
  refine wpAny_call (enter_ret [("data", .bytes b tb), ("at", .int n tn)] G hA (by k_is) (by k_is) (fun _ => BindsTo.of_eq rfl) (locs rfl) ?_)
  intro A' E' h₁ L k₁ hA hL O
  have a0 := oct_lo b n; have b0 := oct_hi b n
  have a1 := oct_lo b (n + 1); have b1 := oct_hi b (n + 1)
  have a2 := oct_lo b (n + 2); have b2 := oct_hi b (n + 2)
  repeat (walk_at "ms")
  refine read32_spec (O.gk G) hA hb n0 (by walk_at "o") fun h2 k2 t2 st2 => ?_
  have O := O.grow st2
  repeat (walk_at "ms")
  refine read32_spec (O.gk G) hA hb (by walk_at "o") (by walk_at "o") fun h3 k3 t3 st3 => ?_
  have O := O.grow st3
  rw [show n + 4 + 1 = n + 5 by walk_at "o", show n + 4 + 2 = n + 6 by walk_at "o", show n + 4 + 3 = n + 7 by walk_at "o", hz.1, hz.2.1, hz.2.2.1, hz.2.2.2.1, hz.2.2.2.2]
  repeat (walk_at "ms")
  rw [show Int.toNat 32 = 32 from rfl, bitOr_parts 32 (by walk_at "o") (by walk_at "o") (by walk_at "o")]
  have e : oct b n + oct b (n + 1) * 256 + oct b (n + 2) * 65536 + 0 * 16777216 + (0 + 0 * 256 + 0 * 65536 + 0 * 16777216) * 2 ^ 32 = oct b n + oct b (n + 1) * 256 + oct b (n + 2) * 65536 := by walk_at "o"
  rw [e]
  exact h _ _ _ O.keep
theorem userof_spec {w : World} {A : Around} {s : Shared} {hp : Heap} {k : Nat} {mg mb : Str → Option Value} {Q : Value → Shared → Prop} {E : Value → Shared → Prop}
    (G : GK w mg mb hp) (hA : OkA A 1) {b : Array UInt8} {tb : Tok} (hb : b.size ≤ 1000) (n1 : 8 ≤ b.size)
    (h : ∀ h' tk t, hp.StaysIn h' → Q (.bytes (b.toList.take (b.size - 8)).toArray t) (S3 s h' tk)) :
    wpAny (model PG w) A (call (.ref 164) [.bytes b tb] []) Q E (S3 s hp k) := by
  refine wpAny_call (enter_ret [("ik", .bytes b tb)] G hA (by k_is) (by k_is) (fun _ => BindsTo.of_eq rfl) (locs rfl) ?_)
  intro A' E' h₁ L k₁ hA hL O
  repeat (walk_at "ms")
  have hw := whole_to b ((b.size : Int) - 8) (by walk_at "o") (by walk_at "o")
  have hp := picked_to b ((b.size : Int) - 8) (by walk_at "o") (by walk_at "o")
  have e1 : ((b.size : Int) - 8).toNat = b.size - 8 := by walk_at "o"
  rw [e1] at hp
  with_reducible refine r_slice_bytes (.none) (.int _ _) hw ?_ (fun h4 t4 k4 st4 => ?_) ?_ ?_
  · rw [hp]; simp; walk_at "o"
  · have O := O.grow st4
    rw [hp]
    repeat (walk_at "ms")
    exact h _ _ _ O.keep
  · with_unfolding_all rfl
  · intro _; with_unfolding_all rfl
theorem tagof_spec {w : World} {A : Around} {s : Shared} {hp : Heap} {k : Nat} {mg mb : Str → Option Value} {Q : Value → Shared → Prop} {E : Value → Shared → Prop}
    (G : GK w mg mb hp) (hA : OkA A 3) {b : Array UInt8} {tb : Tok} {n : Int} (hb : b.size ≤ 1000) (n1 : 8 ≤ b.size) (hn : n = (b.size : Int) - 8)
    (hz : oct b (n + 3) = 0 ∧ oct b (n + 4) = 0 ∧ oct b (n + 5) = 0 ∧ oct b (n + 6) = 0 ∧ oct b (n + 7) = 0)
    (h : ∀ h' tk t, hp.StaysIn h' → Q (.int (oct b n + oct b (n + 1) * 256 + oct b (n + 2) * 65536) t) (S3 s h' tk)) :
    wpAny (model PG w) A (call (.ref 171) [.bytes b tb] []) Q E (S3 s hp k) := by
  refine wpAny_call (enter_ret [("ik", .bytes b tb)] G hA (by k_is) (by k_is) (fun _ => BindsTo.of_eq rfl) (locs rfl) ?_)
  intro A' E' h₁ L k₁ hA hL O
  repeat (walk_at "ms")
  rw [← hn]
  refine read64_spec (O.gk G) hA hb (by walk_at "o") (by walk_at "o") hz fun h2 k2 t2 st2 => ?_
  have O := O.grow st2
  repeat (walk_at "ms")
  exact h _ _ _ O.keep
/-- how two keys of octets lie -/
noncomputable def ordI (a b : Array UInt8) : Int := if ord a b = .lt then -1 else if ord a b = .gt then 1 else 0
theorem ocompare_spec {w : World} {A : Around} {s : Shared} {hp : Heap} {k : Nat} {mg mb : Str → Option Value} {Q : Value → Shared → Prop} {E : Value → Shared → Prop}
    (G : GK w mg mb hp) (hA : OkA A 1) {x : Value} {a b : Array UInt8} {ta tb : Tok}
    (h : ∀ h' tk t, hp.StaysIn h' → Q (.int (ordI a b) t) (S3 s h' tk)) :
    wpAny (model PG w) A (call (.ref 185) [x, .bytes a ta, .bytes b tb] []) Q E (S3 s hp k) := by
  refine wpAny_call (enter_ret [("self", x), ("a", .bytes a ta), ("b", .bytes b tb)] G hA (by k_is) (by k_is) (fun _ => BindsTo.of_eq rfl) (locs rfl) ?_)
  intro A' E' h₁ L k₁ hA hL O
  unfold ordI at h
  repeat (walk_at "ms")
  refine if_bool (fun c => ?_) fun c => ?_
  · repeat (walk_at "ms")
    have c' : ord a b = .lt := by simpa using c
    rw [if_pos c'] at h
    exact h _ _ _ O.keep
  · repeat (walk_at "ms")
    have c' : ¬ ord a b = .lt := by simpa using c
    rw [if_neg c'] at h
    refine if_bool (fun c => ?_) fun c => ?_
    · repeat (walk_at "ms")
      have c' : ord a b = .gt := by simpa using c
      rw [if_pos c'] at h
      exact h _ _ _ O.keep
    · repeat (walk_at "ms")
      have c' : ¬ ord a b = .gt := by simpa using c
      rw [if_neg c'] at h
      exact h _ _ _ O.keep
structure KeyOk (u m k : Int) : Prop where
  u0 : 0 ≤ u
  u1 : u < 5
  m0 : m ≤ 0
  m1 : -65536 < m
  k0 : 0 ≤ k
  k1 : k < 256
theorem ikB_size {u m k : Int} (K : KeyOk u m k) : (ikB u m k).size = (userB u).size + 8 := by unfold ikB; rw [Array.size_append, tagB_size]
theorem ikB_size_le {u m k : Int} (K : KeyOk u m k) : (ikB u m k).size ≤ 10 := by rw [ikB_size K]; have := userB_size K.u0 K.u1; walk_at "o"
theorem ikB_user {u m k : Int} : ((ikB u m k).toList.take ((ikB u m k).size - 8)).toArray = userB u := by
  unfold ikB
  rw [Array.size_append, tagB_size, Nat.add_sub_cancel, Array.toList_append]
  have : (userB u).size = (userB u).toList.length := by simp
  rw [this, List.take_left']
  rfl
theorem oct_app {x : Array UInt8} {l : List Int} {i : Nat} {v : Int} (hv : l[i]? = some v) (h0 : 0 ≤ v) (h1 : v < 256) : oct (x ++ byteArr l) ((x.size : Int) + i) = v := by
  unfold oct byteArr
  have e : ((x.size : Int) + i).toNat = x.toList.length + i := by simp; walk_at "o"
  rw [e, Array.toList_append, List.getD_eq_getElem?_getD, List.getElem?_append_right (by walk_at "o")]
  simp only [Nat.add_sub_cancel_left, List.getElem?_map, hv, Option.map_some, Option.getD_some]
  show (((v.toNat.toUInt8).toNat : Nat) : Int) = v
  have : (v.toNat.toUInt8).toNat = v.toNat := by
    show (UInt8.ofNat v.toNat).toNat = v.toNat
    rw [UInt8.toNat_ofNat']; walk_at "o"
  rw [this]; walk_at "o"
theorem oct_ik {u m k : Int} (K : KeyOk u m k) : ∃ n : Int, n = ((ikB u m k).size : Int) - 8 ∧ oct (ikB u m k) n = k ∧ oct (ikB u m k) (n + 1) = (0 - m) % 256 ∧ oct (ikB u m k) (n + 2) = (0 - m) / 256 ∧
    (oct (ikB u m k) (n + 3) = 0 ∧ oct (ikB u m k) (n + 4) = 0 ∧ oct (ikB u m k) (n + 5) = 0 ∧ oct (ikB u m k) (n + 6) = 0 ∧ oct (ikB u m k) (n + 7) = 0) := by
  have := K.u0; have := K.u1; have := K.m0; have := K.m1; have := K.k0; have := K.k1
  refine ⟨(userB u).size, by rw [ikB_size K]; push_cast; walk_at "o", ?_⟩
  unfold ikB tagB
  have h0 := oct_app (x := userB u) (l := [k, (0 - m) % 256, (0 - m) / 256, 0, 0, 0, 0, 0]) (i := 0) rfl (by walk_at "o") (by walk_at "o")
  have h1 := oct_app (x := userB u) (l := [k, (0 - m) % 256, (0 - m) / 256, 0, 0, 0, 0, 0]) (i := 1) rfl (by walk_at "o") (by walk_at "o")
  have h2 := oct_app (x := userB u) (l := [k, (0 - m) % 256, (0 - m) / 256, 0, 0, 0, 0, 0]) (i := 2) rfl (by walk_at "o") (by walk_at "o")
  have h3 := oct_app (x := userB u) (l := [k, (0 - m) % 256, (0 - m) / 256, 0, 0, 0, 0, 0]) (i := 3) rfl (by walk_at "o") (by walk_at "o")
  have h4 := oct_app (x := userB u) (l := [k, (0 - m) % 256, (0 - m) / 256, 0, 0, 0, 0, 0]) (i := 4) rfl (by walk_at "o") (by walk_at "o")
  have h5 := oct_app (x := userB u) (l := [k, (0 - m) % 256, (0 - m) / 256, 0, 0, 0, 0, 0]) (i := 5) rfl (by walk_at "o") (by walk_at "o")
  have h6 := oct_app (x := userB u) (l := [k, (0 - m) % 256, (0 - m) / 256, 0, 0, 0, 0, 0]) (i := 6) rfl (by walk_at "o") (by walk_at "o")
  have h7 := oct_app (x := userB u) (l := [k, (0 - m) % 256, (0 - m) / 256, 0, 0, 0, 0, 0]) (i := 7) rfl (by walk_at "o") (by walk_at "o")
  simp only [Int.natCast_zero, Int.add_zero] at h0
  exact ⟨h0, h1, h2, h3, h4, h5, h6, h7⟩
theorem kuser_spec {w : World} {A : Around} {s : Shared} {hp : Heap} {k : Nat} {mg mb : Str → Option Value} {Q : Value → Shared → Prop} {E : Value → Shared → Prop}
    (G : GK w mg mb hp) (hA : OkA A 1) {u m kd : Int} {tb : Tok} (K : KeyOk u m kd)
    (h : ∀ h' tk t, hp.StaysIn h' → Q (.bytes (userB u) t) (S3 s h' tk)) :
    wpAny (model PG w) A (call (.ref 164) [.bytes (ikB u m kd) tb] []) Q E (S3 s hp k) := by
  refine userof_spec G hA (by have := ikB_size_le K; walk_at "o") (by rw [ikB_size K]; walk_at "o") fun h' tk t st => ?_
  rw [ikB_user]
  exact h h' tk t st
theorem ktag_spec {w : World} {A : Around} {s : Shared} {hp : Heap} {k : Nat} {mg mb : Str → Option Value} {Q : Value → Shared → Prop} {E : Value → Shared → Prop}
    (G : GK w mg mb hp) (hA : OkA A 3) {u m kd : Int} {tb : Tok} (K : KeyOk u m kd)
    (h : ∀ h' tk t, hp.StaysIn h' → Q (.int ((0 - m) * 256 + kd) t) (S3 s h' tk)) :
    wpAny (model PG w) A (call (.ref 171) [.bytes (ikB u m kd) tb] []) Q E (S3 s hp k) := by
  obtain ⟨n, hn, e0, e1, e2, hz⟩ := oct_ik K
  refine tagof_spec G hA (by have := ikB_size_le K; walk_at "o") (by rw [ikB_size K]; walk_at "o") hn hz fun h' tk t st => ?_
  rw [e0, e1, e2, show kd + (0 - m) % 256 * 256 + (0 - m) / 256 * 65536 = (0 - m) * 256 + kd by walk_at "o"]
  exact h h' tk t st
theorem ordI_user {u v : Int} (u0 : 0 ≤ u) (u1 : u < 5) (v0 : 0 ≤ v) (v1 : v < 5) : ordI (userB u) (userB v) = if u < v then -1 else if v < u then 1 else 0 := by
  rcases seqIdx u0 u1 with rfl | rfl | rfl | rfl | rfl <;> rcases seqIdx v0 v1 with rfl | rfl | rfl | rfl | rfl <;> decide +kernel
/-- how two internal keys lie -/
noncomputable def icmp (u m k v n l : Int) : Int := if u < v then -1 else if v < u then 1 else if (0 - n) * 256 + l < (0 - m) * 256 + k then -1 else if (0 - m) * 256 + k < (0 - n) * 256 + l then 1 else 0
/-- the order of internal keys -/
noncomputable def IsOrd (h : Heap) (x : Addr) : Prop := ∃ es y, IsInst h x 298 es ∧ NoRef es ∧ getL "user_order" es = some (some (.ref y)) ∧ getL "compare" es = some none ∧ IsInst h y 244 []
theorem IsOrd.mono {h h' : Heap} {x : Addr} (k : h.StaysIn h') (I : IsOrd h x) : IsOrd h' x :=
  let ⟨es, y, a, b, c, d, e⟩ := I; ⟨es, y, a.mono k, b, c, d, e.mono k⟩
theorem icompare_spec {w : World} {A : Around} {s : Shared} {hp : Heap} {k : Nat} {mg mb : Str → Option Value} {Q : Value → Shared → Prop} {E : Value → Shared → Prop}
    (G : GK w mg mb hp) (hA : OkA A 5) {x : Addr} {u m kd v n l : Int} {ta tb : Tok} (I : IsOrd hp x) (Ka : KeyOk u m kd) (Kb : KeyOk v n l)
    (h : ∀ h' tk t, hp.StaysIn h' → Q (.int (icmp u m kd v n l) t) (S3 s h' tk)) :
    wpAny (model PG w) A (call (.ref 267) [.ref x, .bytes (ikB u m kd) ta, .bytes (ikB v n l) tb] []) Q E (S3 s hp k) := by
  refine wpAny_call (enter_ret [("self", .ref x), ("a", .bytes (ikB u m kd) ta), ("b", .bytes (ikB v n l) tb)] G hA (by k_is) (by k_is) (fun _ => BindsTo.of_eq rfl) (locs rfl) ?_)
  intro A' E' h₁ L k₁ hA hL O
  obtain ⟨es, y, Ix, hr, hu, hc, Iy⟩ := I
  repeat (walk_at "ms")
  refine kuser_spec (O.gk G) (hA.le (by decide)) Ka fun h2 k2 t2 st2 => ?_
  have O := O.grow st2
  repeat (walk_at "ms")
  refine kuser_spec (O.gk G) (hA.le (by decide)) Kb fun h3 k3 t3 st3 => ?_
  have O := O.grow st3
  repeat (walk_at "ms")
  refine ocompare_spec (O.gk G) (hA.le (by decide)) fun h4 k4 t4 st4 => ?_
  have O := O.grow st4
  rw [ordI_user Ka.u0 Ka.u1 Kb.u0 Kb.u1]
  unfold icmp at h
  by_cases c1 : u < v
  · rw [if_pos c1] at h ⊢
    repeat (walk_at "ms")
    exact h _ _ _ ‹Own _ _ _ _ _›.keep
  rw [if_neg c1] at h ⊢
  by_cases c2 : v < u
  · rw [if_pos c2] at h ⊢
    repeat (walk_at "ms")
    exact h _ _ _ ‹Own _ _ _ _ _›.keep
  rw [if_neg c2] at h ⊢
  repeat (walk_at "ms")
  rename_i O
  refine ktag_spec (O.gk G) (hA.le (by decide)) Ka fun h5 k5 t5 st5 => ?_
  have O := O.grow st5
  repeat (walk_at "ms")
  rename_i O
  refine ktag_spec (O.gk G) (hA.le (by decide)) Kb fun h6 k6 t6 st6 => ?_
  have O := O.grow st6
  by_cases c3 : (0 - n) * 256 + l < (0 - m) * 256 + kd
  · rw [if_pos c3] at h
    repeat (walk_at "ms")
    exact h _ _ _ ‹Own _ _ _ _ _›.keep
  rw [if_neg c3] at h
  by_cases c4 : (0 - m) * 256 + kd < (0 - n) * 256 + l
  · rw [if_pos c4] at h
    repeat (walk_at "ms")
    exact h _ _ _ ‹Own _ _ _ _ _›.keep
  · rw [if_neg c4] at h
    repeat (walk_at "ms")
    exact h _ _ _ ‹Own _ _ _ _ _›.keep
/-- a file's row: number, size, the smallest key, the largest -/
structure FM where
  num : Int
  size : Int
  lu : Int
  lm : Int
  lk : Int
  hu : Int
  hm : Int
  hk : Int
structure FM.Ok (f : FM) : Prop where
  lo : KeyOk f.lu f.lm f.lk
  hi : KeyOk f.hu f.hm f.hk
  n0 : 0 ≤ f.num
  n1 : f.num < 128
noncomputable def IsMeta (h : Heap) (v : Value) (f : FM) : Prop := ∃ x es, v = .ref x ∧ IsInst h x 422 es ∧ (∃ t, getL "number" es = some (some (.int f.num t))) ∧
  (∃ t, getL "smallest" es = some (some (.bytes (ikB f.lu f.lm f.lk) t))) ∧ (∃ t, getL "largest" es = some (some (.bytes (ikB f.hu f.hm f.hk) t)))
theorem IsMeta.mono {h h' : Heap} {v : Value} {f : FM} (k : h.StaysIn h') (I : IsMeta h v f) : IsMeta h' v f :=
  let ⟨x, es, a, b, c, d, e⟩ := I; ⟨x, es, a, b.mono k, c, d, e⟩
noncomputable def IsFiles (h : Heap) (a : Addr) (fs : List FM) : Prop := ∃ vs : List Value, h.IsList a vs.toArray ∧ All2 (IsMeta h) vs fs
theorem IsFiles.mono {h h' : Heap} {a : Addr} {fs : List FM} (k : h.StaysIn h') (I : IsFiles h a fs) : IsFiles h' a fs :=
  let ⟨vs, b, c⟩ := I; ⟨vs, stays_list k b, c.imp fun _ _ x => x.mono k⟩
theorem find_spec {w : World} {A : Around} {s : Shared} {hp : Heap} {k : Nat} {mg mb : Str → Option Value} {Q : Value → Shared → Prop} {E : Value → Shared → Prop}
    (G : GK w mg mb hp) (hA : OkA A 6) {a x : Addr} {fs : List FM} {u m kd : Int} {tb : Tok} (Fi : IsFiles hp a fs) (I : IsOrd hp x) (K : KeyOk u m kd) (ok : ∀ f ∈ fs, f.Ok) (hz : fs.length ≤ 1000)
    {c : Nat} (hc : c ≤ fs.length) (cut : ∀ i f, fs[i]? = some f → (icmp f.hu f.hm f.hk u m kd < 0 ↔ i < c))
    (hQ : ∀ h' tk t, hp.StaysIn h' → Q (.int c t) (S3 s h' tk)) :
    wpAny (model PG w) A (call (.ref 433) [.ref a, .bytes (ikB u m kd) tb, .ref x] []) Q E (S3 s hp k) := by
  refine wpAny_call (enter_ret [("files", .ref a), ("ikey", .bytes (ikB u m kd) tb), ("order", .ref x)] G hA (by k_is) (by k_is) (fun _ => BindsTo.of_eq rfl) (locs rfl) ?_)
  intro A' E' h₁ L k₁ hA hL O
  obtain ⟨vs, hl, hvs⟩ := Fi
  have hlen := hvs.length
  have hsz : vs.toArray.size = fs.length := by simp [hlen]
  repeat (walk_at "ms")
  rename_i O
  with_reducible refine r_while (fun n h k => ∃ m' lo hi t1 t2, Own hp L h m' [] ∧ m' "files" = some (.ref a) ∧ m' "ikey" = some (.bytes (ikB u m kd) tb) ∧ m' "order" = some (.ref x) ∧
    m' "low" = some (.int lo t1) ∧ m' "high" = some (.int hi t2) ∧ 0 ≤ lo ∧ lo ≤ c ∧ (c : Int) ≤ hi ∧ hi ≤ fs.length ∧ n = (hi - lo).toNat) fs.length ?_ ?_
  · exact ⟨_, 0, vs.toArray.size, _, _, O, rfl, rfl, rfl, rfl, rfl, by walk_at "o", by walk_at "o", by walk_at "o", by walk_at "o", by walk_at "o"⟩
  rintro E' n h k ⟨m', lo, hi, t1, t2, O, e1, e2, e3, e4, e5, b1, b2, b3, b4, rfl⟩
  repeat (walk_at "ms")
  refine if_dec (fun hlt => ?_) fun hge => ?_
  · have I' := I
    obtain ⟨es, y, Ix, hr, hu, hcm, Iy⟩ := I'
    repeat (walk_at "ms")
    have hmid : ((lo + hi) / 2).toNat < fs.length := by walk_at "o"
    obtain ⟨f, hf⟩ : ∃ f, fs[((lo + hi) / 2).toNat]? = some f := ⟨fs[((lo + hi) / 2).toNat], List.getElem?_eq_getElem hmid⟩
    obtain ⟨v, hv, xf, esf, rfl, If, en, el, tl, eh⟩ := hvs.get hf
    have okf := ok f (List.mem_of_getElem? hf)
    rename_i O
    with_reducible refine r_item_list (O.list hl) (by walk_at "o") (by walk_at "o") (by simpa using hv) ?_ ?_
    · repeat (walk_at "ms")
      refine icompare_spec (O.gk G) (hA.le (by decide)) (I.mono O.keep) okf.hi K fun h2 k2 t2 st2 => ?_
      have O := O.grow st2
      have hcut := cut _ f hf
      repeat (walk_at "ms")
      refine if_dec (fun hneg => ?_) fun hpos => ?_
      · have := hcut.mp hneg
        repeat (walk_at "ms")
        rename_i O
        exact ⟨((hi - ((lo + hi) / 2 + 1)).toNat), _, _, by walk_at "o", rfl, _, _, _, _, _, O, e1, e2, e3, rfl, e5, by walk_at "o", by walk_at "o", by walk_at "o", by walk_at "o", rfl⟩
      · have hge : ¬ ((lo + hi) / 2).toNat < c := fun q => hpos (hcut.mpr q)
        repeat (walk_at "ms")
        rename_i O
        exact ⟨(((lo + hi) / 2 - lo).toNat), _, _, by walk_at "o", rfl, _, _, _, _, _, O, e1, e2, e3, e4, rfl, by walk_at "o", by walk_at "o", by walk_at "o", by walk_at "o", rfl⟩
    · with_unfolding_all rfl
  · have e : lo = c := by walk_at "o"
    subst e
    repeat (walk_at "ms")
    exact hQ _ _ _ O.keep
/-- the dict of a walk over a level's files -/
structure WalkEs (es : List DictEntry) (a x : Addr) (p : Int) : Prop where
  nr : NoRef es
  len : es.length ≤ 10
  rows : getL "rows" es = some (some (.ref a))
  order : getL "order" es = some (some (.ref x))
  place : ∃ t, getL "place" es = some (some (.int p t))
  other : ∀ nm : Str, nm ≠ "rows" → nm ≠ "order" → nm ≠ "place" → getL nm es = some none
theorem valid_spec {w : World} {A : Around} {s : Shared} {hp : Heap} {k : Nat} {mg mb : Str → Option Value} {Q : Value → Shared → Prop} {E : Value → Shared → Prop}
    (G : GK w mg mb hp) (hA : OkA A 1) {y a x : Addr} {es : List DictEntry} {p : Int} {its : Array Value} (I : IsInst hp y 457 es) (W : WalkEs es a x p) (hl : hp.IsList a its) (hz : its.size ≤ 1000)
    (hQ : ∀ h' tk, hp.StaysIn h' → Q (.bool (decide (0 ≤ p ∧ p < its.size))) (S3 s h' tk)) :
    wpAny (model PG w) A (call (.ref 335) [.ref y] []) Q E (S3 s hp k) := by
  refine wpAny_call (enter_ret [("self", .ref y)] G hA (by k_is) (by k_is) (fun _ => BindsTo.of_eq rfl) (locs rfl) ?_)
  intro A' E' h₁ L k₁ hA hL O
  have er := W.rows
  obtain ⟨tp, ep⟩ := W.place
  repeat (walk_at "ms")
  by_cases c : 0 ≤ p
  · repeat (walk_at "ms")
    rw [show decide (0 ≤ p ∧ p < its.size) = decide (p < its.size) by simp [c]] at hQ
    exact hQ _ _ O.keep
  · repeat (walk_at "ms")
    rw [show decide (0 ≤ p ∧ p < its.size) = decide (0 ≤ p) by simp [c]] at hQ
    exact hQ _ _ O.keep
theorem need_spec {w : World} {A : Around} {s : Shared} {hp : Heap} {k : Nat} {mg mb : Str → Option Value} {Q : Value → Shared → Prop} {E : Value → Shared → Prop}
    (G : GK w mg mb hp) (hA : OkA A 2) {y a x : Addr} {es : List DictEntry} {p : Int} {its : Array Value} (I : IsInst hp y 457 es) (W : WalkEs es a x p) (hl : hp.IsList a its) (hz : its.size ≤ 1000) (hv : 0 ≤ p ∧ p < its.size)
    (hQ : ∀ h' tk, hp.StaysIn h' → Q .none (S3 s h' tk)) :
    wpAny (model PG w) A (call (.ref 342) [.ref y] []) Q E (S3 s hp k) := by
  refine wpAny_call (enter_ret [("self", .ref y)] G hA (by k_is) (by k_is) (fun _ => BindsTo.of_eq rfl) (locs rfl) ?_)
  intro A' E' h₁ L k₁ hA hL O
  have ev := W.other "valid" (by decide) (by decide) (by decide)
  repeat (walk_at "ms")
  refine valid_spec (O.gk G) hA (I.mono O.keep) W (O.list hl) hz fun h2 k2 st2 => ?_
  rw [show decide (0 ≤ p ∧ p < its.size) = true by simp [hv]]
  have O := O.grow st2
  repeat (walk_at "ms")
  exact hQ _ _ O.keep
theorem keyat_spec {w : World} {A : Around} {s : Shared} {hp : Heap} {k : Nat} {mg mb : Str → Option Value} {Q : Value → Shared → Prop} {E : Value → Shared → Prop}
    (G : GK w mg mb hp) (hA : OkA A 1) {y a x : Addr} {es : List DictEntry} {p i : Int} {ti : Tok} {fs : List FM} {f : FM} (I : IsInst hp y 457 es) (W : WalkEs es a x p) (Fi : IsFiles hp a fs) (hz : fs.length ≤ 1000) (i0 : 0 ≤ i) (hf : fs[i.toNat]? = some f)
    (hQ : ∀ h' tk t, hp.StaysIn h' → Q (.bytes (ikB f.hu f.hm f.hk) t) (S3 s h' tk)) :
    wpAny (model PG w) A (call (.ref 447) [.ref y, .int i ti] []) Q E (S3 s hp k) := by
  refine wpAny_call (enter_ret [("self", .ref y), ("i", .int i ti)] G hA (by k_is) (by k_is) (fun _ => BindsTo.of_eq rfl) (locs rfl) ?_)
  intro A' E' h₁ L k₁ hA hL O
  have er := W.rows
  obtain ⟨vs, hl, hvs⟩ := Fi
  obtain ⟨v, hv, xf, esf, rfl, If, en, el, tl, eh⟩ := hvs.get hf
  have hi : i.toNat < fs.length := by rcases Nat.lt_or_ge i.toNat fs.length with q | q; exact q; rw [List.getElem?_eq_none q] at hf; cases hf
  repeat (walk_at "ms")
  with_reducible refine r_item_list (O.list hl) i0 (by walk_at "o") (by simpa using hv) ?_ ?_
  · repeat (walk_at "ms")
    exact hQ _ _ _ O.keep
  · with_unfolding_all rfl
theorem varint_spec {w : World} {A : Around} {s : Shared} {hp : Heap} {k : Nat} {mg mb : Str → Option Value} {Q : Value → Shared → Prop} {E : Value → Shared → Prop}
    (G : GK w mg mb hp) (hA : OkA A 1) {n : Int} {tn : Tok} (n0 : 0 ≤ n) (n1 : n < 128)
    (hQ : ∀ h' tk t, hp.StaysIn h' → Q (.bytes (byteArr [n]) t) (S3 s h' tk)) :
    wpAny (model PG w) A (call (.ref 108) [.int n tn] []) Q E (S3 s hp k) := by
  refine wpAny_call (enter_ret [("n", .int n tn)] G hA (by k_is) (by k_is) (fun _ => BindsTo.of_eq rfl) (locs rfl) ?_)
  intro A' E' h₁ L k₁ hA hL O
  repeat (walk_at "ms")
  rename_i O2
  with_reducible refine r_bytes_ints hA.handled O2.headList (ns := [n]) (.cons _ _ .nil) ?_ (by simp) fun h4 t4 k4 st4 => ?_
  · simp only [List.forall_mem_cons, List.not_mem_nil, false_implies, implies_true, and_true]
    walk_at "o"
  repeat (walk_at "ms")
  exact hQ _ _ _ fun b o e => st4 b o (O2.keep b o e)
theorem valueat_spec {w : World} {A : Around} {s : Shared} {hp : Heap} {k : Nat} {mg mb : Str → Option Value} {Q : Value → Shared → Prop} {E : Value → Shared → Prop}
    (G : GK w mg mb hp) (hA : OkA A 2) {y a x : Addr} {es : List DictEntry} {p i : Int} {ti : Tok} {fs : List FM} {f : FM} (I : IsInst hp y 457 es) (W : WalkEs es a x p) (Fi : IsFiles hp a fs) (hz : fs.length ≤ 1000) (i0 : 0 ≤ i) (hf : fs[i.toNat]? = some f) (ok : f.Ok)
    (hQ : ∀ h' tk t, hp.StaysIn h' → Q (.bytes (byteArr [f.num]) t) (S3 s h' tk)) :
    wpAny (model PG w) A (call (.ref 454) [.ref y, .int i ti] []) Q E (S3 s hp k) := by
  refine wpAny_call (enter_ret [("self", .ref y), ("i", .int i ti)] G hA (by k_is) (by k_is) (fun _ => BindsTo.of_eq rfl) (locs rfl) ?_)
  intro A' E' h₁ L k₁ hA hL O
  have er := W.rows
  obtain ⟨vs, hl, hvs⟩ := Fi
  obtain ⟨v, hv, xf, esf, rfl, If, ⟨tn, en⟩, el, eh⟩ := hvs.get hf
  have hi : i.toNat < fs.length := by rcases Nat.lt_or_ge i.toNat fs.length with q | q; exact q; rw [List.getElem?_eq_none q] at hf; cases hf
  repeat (walk_at "ms")
  with_reducible refine r_item_list (O.list hl) i0 (by walk_at "o") (by simpa using hv) ?_ ?_
  · repeat (walk_at "ms")
    refine varint_spec (O.gk G) hA ok.n0 ok.n1 fun h2 k2 t2 st2 => ?_
    have O := O.grow st2
    repeat (walk_at "ms")
    exact hQ _ _ _ O.keep
  · with_unfolding_all rfl
theorem key_spec {w : World} {A : Around} {s : Shared} {hp : Heap} {k : Nat} {mg mb : Str → Option Value} {Q : Value → Shared → Prop} {E : Value → Shared → Prop}
    (G : GK w mg mb hp) (hA : OkA A 3) {y a x : Addr} {es : List DictEntry} {p : Int} {fs : List FM} {f : FM} (I : IsInst hp y 457 es) (W : WalkEs es a x p) (Fi : IsFiles hp a fs) (hz : fs.length ≤ 1000) (i0 : 0 ≤ p) (hf : fs[p.toNat]? = some f)
    (hQ : ∀ h' tk t, hp.StaysIn h' → Q (.bytes (ikB f.hu f.hm f.hk) t) (S3 s h' tk)) :
    wpAny (model PG w) A (call (.ref 384) [.ref y] []) Q E (S3 s hp k) := by
  refine wpAny_call (enter_ret [("self", .ref y)] G hA (by k_is) (by k_is) (fun _ => BindsTo.of_eq rfl) (locs rfl) ?_)
  intro A' E' h₁ L k₁ hA hL O
  have en := W.other "need" (by decide) (by decide) (by decide)
  have ek := W.other "key_at" (by decide) (by decide) (by decide)
  obtain ⟨tp, ep⟩ := W.place
  have hi : p.toNat < fs.length := by rcases Nat.lt_or_ge p.toNat fs.length with q | q; exact q; rw [List.getElem?_eq_none q] at hf; cases hf
  have Fi' := Fi
  obtain ⟨vs, hl, hvs⟩ := Fi'
  have hlen := hvs.length
  repeat (walk_at "ms")
  refine need_spec (O.gk G) hA (I.mono O.keep) W (O.list hl) (by simp; walk_at "o") (by simp; walk_at "o") fun h2 k2 st2 => ?_
  have O := O.grow st2
  repeat (walk_at "ms")
  refine keyat_spec (O.gk G) (hA.le (by decide)) (I.mono O.keep) W (Fi.mono O.keep) hz i0 hf fun h3 k3 t3 st3 => ?_
  have O := O.grow st3
  repeat (walk_at "ms")
  exact hQ _ _ _ O.keep
theorem value_spec {w : World} {A : Around} {s : Shared} {hp : Heap} {k : Nat} {mg mb : Str → Option Value} {Q : Value → Shared → Prop} {E : Value → Shared → Prop}
    (G : GK w mg mb hp) (hA : OkA A 3) {y a x : Addr} {es : List DictEntry} {p : Int} {fs : List FM} {f : FM} (I : IsInst hp y 457 es) (W : WalkEs es a x p) (Fi : IsFiles hp a fs) (hz : fs.length ≤ 1000) (i0 : 0 ≤ p) (hf : fs[p.toNat]? = some f) (ok : f.Ok)
    (hQ : ∀ h' tk t, hp.StaysIn h' → Q (.bytes (byteArr [f.num]) t) (S3 s h' tk)) :
    wpAny (model PG w) A (call (.ref 391) [.ref y] []) Q E (S3 s hp k) := by
  refine wpAny_call (enter_ret [("self", .ref y)] G hA (by k_is) (by k_is) (fun _ => BindsTo.of_eq rfl) (locs rfl) ?_)
  intro A' E' h₁ L k₁ hA hL O
  have en := W.other "need" (by decide) (by decide) (by decide)
  have ek := W.other "value_at" (by decide) (by decide) (by decide)
  obtain ⟨tp, ep⟩ := W.place
  have hi : p.toNat < fs.length := by rcases Nat.lt_or_ge p.toNat fs.length with q | q; exact q; rw [List.getElem?_eq_none q] at hf; cases hf
  have Fi' := Fi
  obtain ⟨vs, hl, hvs⟩ := Fi'
  have hlen := hvs.length
  repeat (walk_at "ms")
  refine need_spec (O.gk G) hA (I.mono O.keep) W (O.list hl) (by simp; walk_at "o") (by simp; walk_at "o") fun h2 k2 st2 => ?_
  have O := O.grow st2
  repeat (walk_at "ms")
  refine valueat_spec (O.gk G) hA (I.mono O.keep) W (Fi.mono O.keep) hz i0 hf ok fun h3 k3 t3 st3 => ?_
  have O := O.grow st3
  repeat (walk_at "ms")
  exact hQ _ _ _ O.keep
theorem putL_len_of {name : Str} {hs : Int} {key v : Value} : ∀ {es : List DictEntry}, es.any (·.key.isStr name) = true → (putL name hs key v es).length = es.length
  | [], h => by simp at h
  | e :: r, h => by
    unfold putL
    cases q : e.key.isStr name with
    | true => simp
    | false =>
      simp only [Bool.false_eq_true, if_false, List.length_cons]
      rw [putL_len_of (by simpa [q] using h)]
theorem getL_any {name : Str} {es : List DictEntry} {v : Value} (h : getL name es = some (some v)) : es.any (·.key.isStr name) = true := by
  unfold getL at h
  split at h
  · rename_i e he
    exact List.any_eq_true.mpr ⟨e, List.mem_of_find?_eq_some he, by simpa using List.find?_some he⟩
  · split at h <;> simp at h
theorem WalkEs.set {es : List DictEntry} {a x : Addr} {p p' : Int} {hs : Int} {tk t : Tok} (W : WalkEs es a x p) : WalkEs (putL "place" hs (.str "place" tk) (.int p' t) es) a x p' where
  nr := W.nr.put hs tk _
  len := by obtain ⟨t', e⟩ := W.place; rw [putL_len_of (getL_any e)]; exact W.len
  rows := by rw [getL_put_ne hs tk _ (by decide)]; exact W.rows
  order := by rw [getL_put_ne hs tk _ (by decide)]; exact W.order
  place := ⟨t, getL_put_self ..⟩
  other := fun nm h1 h2 h3 => by rw [getL_put_ne hs tk _ (Ne.symm h3)]; exact W.other nm h1 h2 h3
theorem seek_spec {w : World} {A : Around} {s : Shared} {hp g0 : Heap} {k : Nat} {mg mb : Str → Option Value} {Q : Value → Shared → Prop} {E : Value → Shared → Prop}
    (G : GK w mg mb g0) (k0 : g0.StaysIn hp) {y dx a x : Addr} {es : List DictEntry} {nd : Nat} (d0 : g0.get? dx = none) (hx : hp.get? y = some (instObj 457 dx)) (hy : y ≠ dx) (hdx : hp.get? dx = some (dictOf es nd))
    (hA : OkA A 7) {fs : List FM} {u m kd p : Int} {tb : Tok} (W : WalkEs es a x p) (Fi : IsFiles g0 a fs) (I : IsOrd g0 x) (K : KeyOk u m kd) (ok : ∀ f ∈ fs, f.Ok) (hz : fs.length ≤ 1000)
    {c : Nat} (hc : c ≤ fs.length) (cut : ∀ i f, fs[i]? = some f → (icmp f.hu f.hm f.hk u m kd < 0 ↔ i < c))
    (hQ : ∀ h' es' n' tk, KeepBut dx hp h' → h'.get? dx = some (dictOf es' n') → WalkEs es' a x c → Q .none (S3 s h' tk)) :
    wpAny (model PG w) A (call (.ref 363) [.ref y, .bytes (ikB u m kd) tb] []) Q E (S3 s hp k) := by
  refine wpAny_call (enter_mut [("self", .ref y), ("target", .bytes (ikB u m kd) tb)] G k0 d0 hdx hA (Q := Q) (fun _ _ x => x) (by k_is) (by k_is) (fun _ => BindsTo.of_eq rfl) (locs rfl) ?_)
  intro A' E' g h₁ L k₁ hA G kg O hend
  have hyg : g.get? y = some (instObj 457 dx) := kg _ _ hy hx
  have kg0 : g0.StaysIn g := fun b o e => kg b o (fun z => by subst z; rw [d0] at e; cases e) (k0 b o e)
  have Fi := Fi.mono kg0
  have I := I.mono kg0
  have Fi' := Fi
  obtain ⟨vs, hl, hvs⟩ := Fi'
  have hlen := hvs.length
  have hsz : vs.toArray.size = fs.length := by simp [hlen]
  have er := W.rows
  have eo := W.order
  have ek := W.other "key_at" (by decide) (by decide) (by decide)
  repeat (walk_at "ms")
  rename_i O
  with_reducible refine r_while (fun n h k => ∃ m' lo hi t1 t2, Own g L h m' [(dx, dictOf es nd)] ∧ m' "self" = some (.ref y) ∧ m' "target" = some (.bytes (ikB u m kd) tb) ∧
    m' "low" = some (.int lo t1) ∧ m' "high" = some (.int hi t2) ∧ 0 ≤ lo ∧ lo ≤ c ∧ (c : Int) ≤ hi ∧ hi ≤ fs.length ∧ n = (hi - lo).toNat) fs.length ?_ ?_
  · exact ⟨_, 0, vs.toArray.size, _, _, O, rfl, rfl, rfl, rfl, by walk_at "o", by walk_at "o", by walk_at "o", by walk_at "o", by walk_at "o"⟩
  rintro E' n h k ⟨m', lo, hi, t1, t2, O, e1, e2, e4, e5, b1, b2, b3, b4, rfl⟩
  repeat (walk_at "ms")
  refine if_dec (fun hlt => ?_) fun hge => ?_
  · have I' := I
    obtain ⟨eso, yo, Ix, hr, hu, hcm, Iy⟩ := I'
    have hmid : ((lo + hi) / 2).toNat < fs.length := by walk_at "o"
    obtain ⟨f, hf⟩ : ∃ f, fs[((lo + hi) / 2).toNat]? = some f := ⟨fs[((lo + hi) / 2).toNat], List.getElem?_eq_getElem hmid⟩
    have okf := ok f (List.mem_of_getElem? hf)
    have hcut := cut _ f hf
    repeat (walk_at "ms")
    rename_i O
    refine keyat_spec (O.gk G) (hA.le (by decide)) ⟨_, _, O.get hyg, O.head⟩ W (Fi.mono O.keep) hz (by walk_at "o") hf fun h2 k2 t2 st2 => ?_
    have O := O.grow st2
    repeat (walk_at "ms")
    refine icompare_spec (O.gk G) (hA.le (by decide)) (I.mono O.keep) okf.hi K fun h3 k3 t3 st3 => ?_
    have O := O.grow st3
    repeat (walk_at "ms")
    refine if_dec (fun hneg => ?_) fun hpos => ?_
    · have := hcut.mp hneg
      repeat (walk_at "ms")
      rename_i O
      exact ⟨((hi - ((lo + hi) / 2 + 1)).toNat), _, _, by walk_at "o", rfl, _, _, _, _, _, O, e1, e2, rfl, e5, by walk_at "o", by walk_at "o", by walk_at "o", by walk_at "o", rfl⟩
    · have hge : ¬ ((lo + hi) / 2).toNat < c := fun q => hpos (hcut.mpr q)
      repeat (walk_at "ms")
      rename_i O
      exact ⟨(((lo + hi) / 2 - lo).toNat), _, _, by walk_at "o", rfl, _, _, _, _, _, O, e1, e2, e4, rfl, by walk_at "o", by walk_at "o", by walk_at "o", by walk_at "o", rfl⟩
  · have e : lo = c := by walk_at "o"
    subst e
    have nr := W.nr
    have ln := W.len
    repeat (walk_at "ms")
    walk_at "mSet"
    intro h4 hsh tk n4 O
    repeat (walk_at "ms")
    exact hQ _ _ _ _ (hend _ _ _ O) O.head W.set
theorem back_spec {w : World} {A : Around} {s : Shared} {hp g0 : Heap} {k : Nat} {mg mb : Str → Option Value} {Q : Value → Shared → Prop} {E : Value → Shared → Prop}
    (G : GK w mg mb g0) (k0 : g0.StaysIn hp) {y dx a x : Addr} {es : List DictEntry} {nd : Nat} (d0 : g0.get? dx = none) (hx : hp.get? y = some (instObj 457 dx)) (hy : y ≠ dx) (hdx : hp.get? dx = some (dictOf es nd))
    (hA : OkA A 3) {p : Int} {its : Array Value} (W : WalkEs es a x p) (hl : g0.IsList a its) (hz : its.size ≤ 1000) (hv : 0 ≤ p ∧ p < its.size)
    (hQ : ∀ h' es' n' tk, KeepBut dx hp h' → h'.get? dx = some (dictOf es' n') → WalkEs es' a x (p - 1) → Q .none (S3 s h' tk)) :
    wpAny (model PG w) A (call (.ref 377) [.ref y] []) Q E (S3 s hp k) := by
  refine wpAny_call (enter_mut [("self", .ref y)] G k0 d0 hdx hA (Q := Q) (fun _ _ x => x) (by k_is) (by k_is) (fun _ => BindsTo.of_eq rfl) (locs rfl) ?_)
  intro A' E' g h₁ L k₁ hA G kg O hend
  have hyg : g.get? y = some (instObj 457 dx) := kg _ _ hy hx
  have kg0 : g0.StaysIn g := fun b o e => kg b o (fun z => by subst z; rw [d0] at e; cases e) (k0 b o e)
  have hl := stays_list kg0 hl
  have en := W.other "need" (by decide) (by decide) (by decide)
  obtain ⟨tp, ep⟩ := W.place
  have nr := W.nr
  have ln := W.len
  repeat (walk_at "ms")
  refine need_spec (O.gk G) hA ⟨_, _, O.get hyg, O.head⟩ W (O.list hl) hz hv fun h2 k2 st2 => ?_
  have O := O.grow st2
  repeat (walk_at "ms")
  walk_at "mSet"
  intro h4 hsh tk n4 O
  repeat (walk_at "ms")
  exact hQ _ _ _ _ (hend _ _ _ O) O.head W.set
theorem litinit_spec {w : World} {A : Around} {s : Shared} {hp g0 : Heap} {k : Nat} {mg mb : Str → Option Value} {R : Result → Shared → Prop}
    (G : GK w mg mb g0) (k0 : g0.StaysIn hp) {y dx a x : Addr} (d0 : g0.get? dx = none) (hx : hp.get? y = some (instObj 457 dx)) (hy : y ≠ dx) (hdx : hp.get? dx = some (dictOf [] 0))
    (hA : OkA A 1)
    (hQ : ∀ h' es' n' tk, KeepBut dx hp h' → h'.get? dx = some (dictOf es' n') → WalkEs es' a x (-1) → R (.ok (.ret .none)) (S3 s h' tk)) :
    codeAny (model PG w) A (.call (.ref 314) ⟨[.ref y, .ref a, .ref x], []⟩) R (S3 s hp k) := by
  refine enter_mut [("self", .ref y), ("rows", .ref a), ("order", .ref x)] G k0 d0 hdx hA (Q := fun v s' => R (.ok (.ret v)) s') (fun _ _ x => x) (by k_is) (by k_is) (fun _ => BindsTo.of_eq rfl) (locs rfl) ?_
  intro A' E' g h₁ L k₁ hA G kg O hend
  have hyg : g.get? y = some (instObj 457 dx) := kg _ _ hy hx
  repeat (walk_at "ms")
  walk_at "mSet"
  intro h2 hs2 tk2 n2 O
  have nr := NoRef.nil.put hs2 tk2 (name := "rows") (.ref a)
  have l2 : (putL "rows" hs2 (.str "rows" tk2) (.ref a) []).length ≤ 1 := putL_len ..
  repeat (walk_at "ms")
  walk_at "mSet"
  intro h3 hs3 tk3 n3 O
  have nr := nr.put hs3 tk3 (name := "order") (.ref x)
  have l3 := putL_len "order" hs3 (.str "order" tk3) (.ref x) (putL "rows" hs2 (.str "rows" tk2) (.ref a) [])
  repeat (walk_at "ms")
  walk_at "mSet"
  intro h4 hs4 tk4 n4 O
  repeat (walk_at "ms")
  refine hQ _ _ _ _ (hend _ _ _ O) O.head ⟨nr.put hs4 tk4 (name := "place") _, ?_, ?_, ?_, ⟨_, getL_put_self ..⟩, ?_⟩
  · exact Nat.le_trans (putL_len ..) (by walk_at "o")
  · rw [getL_put_ne _ _ _ (by decide), getL_put_ne _ _ _ (by decide), getL_put_self]
  · rw [getL_put_ne _ _ _ (by decide), getL_put_self]
  · intro nm h1 h2 h3
    rw [getL_put_ne _ _ _ (Ne.symm h3), getL_put_ne _ _ _ (Ne.symm h2), getL_put_ne _ _ _ (Ne.symm h1)]; rfl
section new
variable {w : World} {A : Around} {s : Shared} {h g : Heap} {L : Addr} {m mg mb : Str → Option Value} {mu : List (Addr × Obj)} {k : Nat} {Q : Value → Shared → Prop} {E : Value → Shared → Prop}
theorem walker_new (G : GK w mg mb g) (O : Own g L h m mu) (hA : OkA A 2) {a x : Addr}
    (hQ : ∀ g' h' y dx es n k', h.get? y = none → g.StaysIn g' → Own g' L h' m ((dx, dictOf es n) :: mu) → g'.get? y = some (instObj 457 dx) → WalkEs es a x (-1) → Q (.ref y) (S3 s h' k')) :
    wpAny (model PG w) A (call (.ref 457) [.ref a, .ref x] []) Q E (S3 s h k) := by
  refine r_make G O (by k_is) (by k_is) (by k_is) fun y dx h1 fy fd O1 => ?_
  have hne : y ≠ dx := fun e => (List.nodup_cons.mp O1.nd).1 (by rw [← e]; simp)
  refine litinit_spec G O1.keep (O1.mus _ (.head _)).2.2 O1.second hne O1.head hA.under fun h2 es n k2 kb e W => ⟨rfl, ?_⟩
  have O2 := O1.updK kb e
  have hy := O2.second
  have O3 := O2.swap.drop
  obtain ⟨O4, st, k3⟩ := O3.rebase
  have hmu : y ∉ ((dx, dictOf es n) :: mu).map (·.1) := by
    intro q
    rcases List.mem_cons.mp q with q | q
    · exact hne q
    · exact O.neMu fy q
  exact hQ _ h2 y dx es n k2 fy st O4 (k3 y _ (O.neL fy) hmu hy) W
theorem bo_new (G : GK w mg mb g) (O : Own g L h m mu) (hQ : ∀ y dx h', h.get? y = none → h.get? dx = none → h'.get? y = some (instObj 244 dx) → h'.get? dx = some (dictOf [] 0) → Own g L h' m mu → h.StaysIn h' ∨ True → Q (.ref y) (S3 s h' k)) :
    wpAny (model PG w) A (call (.ref 244) [] []) Q E (S3 s h k) := by
  refine r_make0 G O (by k_is) (by k_is) fun y dx h1 fy fd O1 => ?_
  exact hQ y dx h1 fy fd O1.second O1.head O1.drop.drop (.inr trivial)
theorem ordinit_spec {hp g0 : Heap} {R : Result → Shared → Prop} (G : GK w mg mb g0) (k0 : g0.StaysIn hp) {y dx : Addr} (d0 : g0.get? dx = none) (hx : hp.get? y = some (instObj 298 dx)) (hy : y ≠ dx) (hdx : hp.get? dx = some (dictOf [] 0))
    (hA : OkA A 1)
    (hQ : ∀ h' es' n' tk yb db, KeepBut dx hp h' → h'.get? dx = some (dictOf es' n') → NoRef es' → getL "user_order" es' = some (some (.ref yb)) → getL "compare" es' = some none → hp.get? yb = none → hp.get? db = none → h'.get? yb = some (instObj 244 db) → h'.get? db = some (dictOf [] 0) → R (.ok (.ret .none)) (S3 s h' tk)) :
    codeAny (model PG w) A (.call (.ref 260) ⟨[.ref y], []⟩) R (S3 s hp k) := by
  refine enter_mut [("self", .ref y)] G k0 d0 hdx hA (Q := fun v s' => R (.ok (.ret v)) s') (fun _ _ x => x) (by k_is) (by k_is) (fun _ => BindsTo.of_eq rfl) (locs rfl) ?_
  intro A' E' g h₁ L k₁ hA G kg O hend
  have hyg : g.get? y = some (instObj 298 dx) := kg _ _ hy hx
  have hfresh : ∀ b, h₁.get? b = none → hp.get? b = none := fun b e => by
    cases q : hp.get? b with
    | none => rfl
    | some o =>
      by_cases hb : b = dx
      · subst hb; rw [O.head] at e; cases e
      · rw [O.keep b o (kg b o hb q)] at e; cases e
  repeat (walk_at "ms")
  refine bo_new G O fun yb db h2 fy fd ey ed O2 _ => ?_
  have O2 : Own g L h2 _ [(dx, dictOf [] 0)] := O2
  obtain ⟨O3, st, k3⟩ := O2.rebase
  have G3 := G.keeps st
  have ey' := k3 yb _ (O.neL fy) (O.neMu fy) ey
  have ed' := k3 db _ (O.neL fd) (O.neMu fd) ed
  have hyg := st _ _ hyg
  clear O2 O G
  repeat (walk_at "ms")
  walk_at "mSet"
  intro h4 hsh tk n4 O
  repeat (walk_at "ms")
  refine hQ _ _ _ _ yb db (fun b o hb e => ?_) O.head (NoRef.nil.put ..) (getL_put_self ..) ?_ (hfresh _ fy) (hfresh _ fd) (O.get ey') (O.get ed')
  · exact O.keep b o (st b o (kg b o hb e))
  · rw [getL_put_ne _ _ _ (by decide)]; rfl
theorem order_new (G : GK w mg mb g) (O : Own g L h m mu) (hA : OkA A 2)
    (hQ : ∀ g' h' y k', g.StaysIn g' → Own g' L h' m mu → IsOrd g' y → Q (.ref y) (S3 s h' k')) :
    wpAny (model PG w) A (call (.ref 298) [] []) Q E (S3 s h k) := by
  refine r_make G O (by k_is) (by k_is) (by k_is) fun y dx h1 fy fd O1 => ?_
  have hne : y ≠ dx := fun e => (List.nodup_cons.mp O1.nd).1 (by rw [← e]; simp)
  refine ordinit_spec G O1.keep (O1.mus _ (.head _)).2.2 O1.second hne O1.head hA.under fun h2 es n k2 yb db kb e nr gu gc fyb fdb eyb edb => ⟨rfl, ?_⟩
  have O2 := O1.updK kb e
  have hy := O2.second
  have hd2 := O2.head
  obtain ⟨O4, st, k3⟩ := O2.drop.drop.rebase
  refine hQ _ h2 y k2 st O4 ⟨es, yb, ⟨dx, n, k3 y _ (O.neL fy) (O.neMu fy) hy, k3 dx _ (O.neL fd) (O.neMu fd) hd2⟩, nr, gu, gc, db, 0, k3 yb _ (O1.neL fyb) ?_ eyb, k3 db _ (O1.neL fdb) ?_ edb⟩
  · exact fun q => O1.neMu fyb (by simp only [List.map_cons]; exact .tail _ (.tail _ q))
  · exact fun q => O1.neMu fdb (by simp only [List.map_cons]; exact .tail _ (.tail _ q))
end new
section new2
variable {w : World} {A : Around} {s : Shared} {h g : Heap} {L : Addr} {m mg mb : Str → Option Value} {mu : List (Addr × Obj)} {k : Nat} {Q : Value → Shared → Prop} {E : Value → Shared → Prop}
/-- the dict of a file's row -/
noncomputable def FileEs (es : List DictEntry) (f : FM) : Prop := (∃ t, getL "number" es = some (some (.int f.num t))) ∧
  (∃ t, getL "smallest" es = some (some (.bytes (ikB f.lu f.lm f.lk) t))) ∧ (∃ t, getL "largest" es = some (some (.bytes (ikB f.hu f.hm f.hk) t)))
theorem metainit_spec {hp g0 : Heap} {R : Result → Shared → Prop} (G : GK w mg mb g0) (k0 : g0.StaysIn hp) {y dx : Addr} (d0 : g0.get? dx = none) (hx : hp.get? y = some (instObj 422 dx)) (hy : y ≠ dx) (hdx : hp.get? dx = some (dictOf [] 0))
    (hA : OkA A 1) {f : FM} {tn ts tl th : Tok}
    (hQ : ∀ h' es' n' tk, KeepBut dx hp h' → h'.get? dx = some (dictOf es' n') → FileEs es' f → R (.ok (.ret .none)) (S3 s h' tk)) :
    codeAny (model PG w) A (.call (.ref 412) ⟨[.ref y, .int f.num tn, .int f.size ts, .bytes (ikB f.lu f.lm f.lk) tl, .bytes (ikB f.hu f.hm f.hk) th], []⟩) R (S3 s hp k) := by
  refine enter_mut [("self", .ref y), ("number", .int f.num tn), ("size", .int f.size ts), ("smallest", .bytes (ikB f.lu f.lm f.lk) tl), ("largest", .bytes (ikB f.hu f.hm f.hk) th)] G k0 d0 hdx hA (Q := fun v s' => R (.ok (.ret v)) s') (fun _ _ x => x) (by k_is) (by k_is) (fun _ => BindsTo.of_eq rfl) (locs rfl) ?_
  intro A' E' g h₁ L k₁ hA G kg O hend
  have hyg : g.get? y = some (instObj 422 dx) := kg _ _ hy hx
  repeat (walk_at "ms")
  walk_at "mSet"
  intro h2 hs2 tk2 n2 O
  have nr := NoRef.nil.put hs2 tk2 (name := "number") (.int f.num tn)
  have l2 : (putL "number" hs2 (.str "number" tk2) (.int f.num tn) []).length ≤ 1 := putL_len ..
  have e2 : getL "number" (putL "number" hs2 (.str "number" tk2) (.int f.num tn) []) = some (some (.int f.num tn)) := getL_put_self ..
  generalize putL "number" hs2 (.str "number" tk2) (.int f.num tn) [] = es2 at *
  repeat (walk_at "ms")
  walk_at "mSet"
  intro h3 hs3 tk3 n3 O
  have nr := nr.put hs3 tk3 (name := "size") (.int f.size ts)
  have l3 := putL_len "size" hs3 (.str "size" tk3) (.int f.size ts) es2
  have e2 := (getL_put_ne (name := "size") (x := "number") hs3 tk3 (.int f.size ts) (by decide) es2).trans e2
  generalize putL "size" hs3 (.str "size" tk3) (.int f.size ts) es2 = es3 at *
  repeat (walk_at "ms")
  walk_at "mSet"
  intro h4 hs4 tk4 n4 O
  have nr := nr.put hs4 tk4 (name := "smallest") (.bytes (ikB f.lu f.lm f.lk) tl)
  have l4 := putL_len "smallest" hs4 (.str "smallest" tk4) (.bytes (ikB f.lu f.lm f.lk) tl) es3
  have e2 := (getL_put_ne (name := "smallest") (x := "number") hs4 tk4 (.bytes (ikB f.lu f.lm f.lk) tl) (by decide) es3).trans e2
  have e4 := getL_put_self "smallest" hs4 tk4 (.bytes (ikB f.lu f.lm f.lk) tl) es3
  generalize putL "smallest" hs4 (.str "smallest" tk4) (.bytes (ikB f.lu f.lm f.lk) tl) es3 = es4 at *
  repeat (walk_at "ms")
  walk_at "mSet"
  intro h5 hs5 tk5 n5 O
  repeat (walk_at "ms")
  refine hQ _ _ _ _ (hend _ _ _ O) O.head ⟨⟨_, (getL_put_ne _ _ _ (by decide) _).trans e2⟩, ⟨_, (getL_put_ne _ _ _ (by decide) _).trans e4⟩, ⟨_, getL_put_self ..⟩⟩
theorem meta_new (G : GK w mg mb g) (O : Own g L h m mu) (hA : OkA A 2) {f : FM} {tn ts tl th : Tok}
    (hQ : ∀ g' h' y k', g.StaysIn g' → Own g' L h' m mu → IsMeta g' (.ref y) f → Q (.ref y) (S3 s h' k')) :
    wpAny (model PG w) A (call (.ref 422) [.int f.num tn, .int f.size ts, .bytes (ikB f.lu f.lm f.lk) tl, .bytes (ikB f.hu f.hm f.hk) th] []) Q E (S3 s h k) := by
  refine r_make G O (by k_is) (by k_is) (by k_is) fun y dx h1 fy fd O1 => ?_
  have hne : y ≠ dx := fun e => (List.nodup_cons.mp O1.nd).1 (by rw [← e]; simp)
  refine metainit_spec (f := f) G O1.keep (O1.mus _ (.head _)).2.2 O1.second hne O1.head hA.under fun h2 es n k2 kb e fe => ⟨rfl, ?_⟩
  have O2 := O1.updK kb e
  have hy := O2.second
  have hd2 := O2.head
  obtain ⟨O4, st, k3⟩ := O2.drop.drop.rebase
  exact hQ _ h2 y k2 st O4 ⟨y, es, rfl, ⟨dx, n, k3 y _ (O.neL fy) (O.neMu fy) hy, k3 dx _ (O.neL fd) (O.neMu fd) hd2⟩, fe⟩
end new2
/-- the dict of a version -/
structure VerEs (es : List DictEntry) (n : Int) (x F : Addr) : Prop where
  levels : ∃ t, getL "num_levels" es = some (some (.int n t))
  order : getL "order" es = some (some (.ref x))
  files : getL "files" es = some (some (.ref F))
  other : ∀ nm : Str, nm ≠ "num_levels" → nm ≠ "order" → nm ≠ "files" → nm ≠ "refs" → nm ≠ "score" → nm ≠ "score_level" → getL nm es = some none
section new3
variable {w : World} {A : Around} {s : Shared} {h g : Heap} {L : Addr} {m mg mb : Str → Option Value} {mu : List (Addr × Obj)} {k : Nat} {Q : Value → Shared → Prop} {E : Value → Shared → Prop}
theorem verinit_spec {hp g0 : Heap} {R : Result → Shared → Prop} (G : GK w mg mb g0) (k0 : g0.StaysIn hp) {y dx x : Addr} (d0 : g0.get? dx = none) (hx : hp.get? y = some (instObj 539 dx)) (hy : y ≠ dx) (hdx : hp.get? dx = some (dictOf [] 0))
    (hA : OkA A 2) {n : Nat} {tn : Tok} (hn : n ≤ 100)
    (hQ : ∀ h' es' n' tk F nF (ls : List Addr), KeepBut dx hp h' → h'.get? dx = some (dictOf es' n') → VerEs es' n x F → h'.get? F = some (listOf (ls.map .ref).toArray nF) → ls.length = n → (∀ l ∈ ls, h'.get? l = some (listOf #[] 0)) →
      hp.get? F = none → (∀ l ∈ ls, hp.get? l = none) → (F :: ls).Nodup → R (.ok (.ret .none)) (S3 s h' tk)) :
    codeAny (model PG w) A (.call (.ref 473) ⟨[.ref y, .int n tn, .ref x], []⟩) R (S3 s hp k) := by
  refine enter_mut [("self", .ref y), ("num_levels", .int n tn), ("order", .ref x)] G k0 d0 hdx hA (Q := fun v s' => R (.ok (.ret v)) s') (fun _ _ x => x) (by k_is) (by k_is) (fun _ => BindsTo.of_eq rfl) (locs rfl) ?_
  intro A' E' g h₁ L k₁ hA G kg O hend
  have hyg : g.get? y = some (instObj 539 dx) := kg _ _ hy hx
  have en := getL_nil "num_levels"
  repeat (walk_at "ms")
  walk_at "mSet"
  intro h2 hs2 tk2 n2 O
  have nr := NoRef.nil.put hs2 tk2 (name := "num_levels") (.int n tn)
  have l2 : (putL "num_levels" hs2 (.str "num_levels" tk2) (.int n tn) []).length ≤ 1 := putL_len ..
  have e2 : getL "num_levels" (putL "num_levels" hs2 (.str "num_levels" tk2) (.int n tn) []) = some (some (.int n tn)) := getL_put_self ..
  have ot2 : ∀ nm : Str, nm ≠ "num_levels" → getL nm (putL "num_levels" hs2 (.str "num_levels" tk2) (.int n tn) []) = some none := fun nm q => (getL_put_ne _ _ _ (Ne.symm q) _).trans rfl
  generalize putL "num_levels" hs2 (.str "num_levels" tk2) (.int n tn) [] = es2 at *
  repeat (walk_at "ms")
  walk_at "mSet"
  intro h3 hs3 tk3 n3 O
  have nr := nr.put hs3 tk3 (name := "order") (.ref x)
  have l3 := putL_len "order" hs3 (.str "order" tk3) (.ref x) es2
  have e2 := (getL_put_ne (name := "order") (x := "num_levels") hs3 tk3 (.ref x) (by decide) es2).trans e2
  have e3 := getL_put_self "order" hs3 tk3 (.ref x) es2
  have ot3 : ∀ nm : Str, nm ≠ "num_levels" → nm ≠ "order" → getL nm (putL "order" hs3 (.str "order" tk3) (.ref x) es2) = some none := fun nm q q' => (getL_put_ne _ _ _ (Ne.symm q') _).trans (ot2 nm q)
  generalize putL "order" hs3 (.str "order" tk3) (.ref x) es2 = es3 at *
  repeat (walk_at "ms")
  rename_i F h4 fF st4 eF O
  have O := O.swap
  walk_at "mSet"
  intro h5 hs5 tk5 n5 O
  have nr := nr.put hs5 tk5 (name := "files") (.ref F)
  have l5 := putL_len "files" hs5 (.str "files" tk5) (.ref F) es3
  have e2 := (getL_put_ne (name := "files") (x := "num_levels") hs5 tk5 (.ref F) (by decide) es3).trans e2
  have e3 := (getL_put_ne (name := "files") (x := "order") hs5 tk5 (.ref F) (by decide) es3).trans e3
  have e5 := getL_put_self "files" hs5 tk5 (.ref F) es3
  have ot5 : ∀ nm : Str, nm ≠ "num_levels" → nm ≠ "order" → nm ≠ "files" → getL nm (putL "files" hs5 (.str "files" tk5) (.ref F) es3) = some none := fun nm q q' q'' => (getL_put_ne _ _ _ (Ne.symm q'') _).trans (ot3 nm q q')
  generalize putL "files" hs5 (.str "files" tk5) (.ref F) es3 = es5 at *
  repeat (walk_at "ms")
  with_reducible refine r_range1 fun r h6 k6 t1 t2 t3 st6 hr => ?_
  have O := O.grow st6
  repeat (walk_at "ms")
  with_reducible refine r_iter_range (n := n) hA.handled O hr (small_one (by decide) (by decide) (by walk_at "o") (by walk_at "o")) ((rangeSize_nat _ _).trans (by walk_at "o")) (fun i g' m' mu' => m' "self" = some (.ref y) ∧ ∃ (ls : List Addr) (nF : Nat), ls.length = i ∧ mu' = (dx, dictOf es5 n5) :: (F, listOf (ls.map .ref).toArray nF) :: ls.map (fun l => (l, listOf #[] 0))) ?_ ?_ ?_ ?_
  · exact ⟨rfl, [], 0, rfl, rfl⟩
  · rintro E2 i tk g' h7 m7 mu7 p k7 hi hg ⟨es, ls, nF, hls, rfl⟩ O
    have hyg := hg _ _ hyg
    have G := G.keeps hg
    repeat (walk_at "ms")
    rename_i O
    have O := (O.swap.perm (.cons _ (.swap _ _ _))).swap
    with_reducible refine r_mAppend O.head ?_
    repeat (walk_at "ms")
    rename_i a h8 fa sa ea O
    have O := O.swap
    with_reducible refine r_append O (by simp; walk_at "o") fun h9 n9 O => ?_
    have e9 : (ls.map Value.ref).toArray.push (.ref a) = ((ls ++ [a]).map Value.ref).toArray := by simp
    rw [e9] at O
    repeat (walk_at "ms")
    refine ⟨g', h9, _, (dx, dictOf es5 n5) :: (F, listOf ((ls ++ [a]).map Value.ref).toArray n9) :: (ls ++ [a]).map (fun l => (l, listOf #[] 0)), _, rfl, fun _ _ e => e, O.perm ?_, es, ls ++ [a], n9, by simp [hls], rfl⟩
    have eq : p :: (dx, dictOf es5 n5) :: (F, listOf ((ls ++ [a]).map Value.ref).toArray n9) :: (ls ++ [a]).map (fun l => (l, listOf #[] 0)) =
        (p :: (dx, dictOf es5 n5) :: (F, listOf ((ls ++ [a]).map Value.ref).toArray n9) :: ls.map (fun l => (l, listOf #[] 0))) ++ [(a, listOf #[] 0)] := by simp
    rw [eq]
    refine List.Perm.trans ?_ (List.perm_append_singleton _ _).symm
    refine (List.Perm.swap _ _ _).trans (.cons _ ?_)
    refine (List.Perm.cons _ (.swap _ _ _)).trans ((List.Perm.swap _ _ _).trans (.cons _ (.swap _ _ _)))
  · rintro g' h7 m7 mu7 k7 hg ⟨es, ls, nF, hls, rfl⟩ O
    have hyg := hg _ _ hyg
    have G := G.keeps hg
    repeat (walk_at "ms")
    walk_at "mSet"
    intro h9 hs9 tk9 n9 O
    have nr := nr.put hs9 tk9 (name := "refs") (.int 0 k7)
    have l9 := putL_len "refs" hs9 (.str "refs" tk9) (.int 0 k7) es5
    have e2 := (getL_put_ne (name := "refs") (x := "num_levels") hs9 tk9 (.int 0 k7) (by decide) es5).trans e2
    have e3 := (getL_put_ne (name := "refs") (x := "order") hs9 tk9 (.int 0 k7) (by decide) es5).trans e3
    have e5 := (getL_put_ne (name := "refs") (x := "files") hs9 tk9 (.int 0 k7) (by decide) es5).trans e5
    have ot9 : ∀ nm : Str, nm ≠ "num_levels" → nm ≠ "order" → nm ≠ "files" → nm ≠ "refs" → getL nm (putL "refs" hs9 (.str "refs" tk9) (.int 0 k7) es5) = some none := fun nm q q' q'' q3 => (getL_put_ne _ _ _ (Ne.symm q3) _).trans (ot5 nm q q' q'')
    generalize putL "refs" hs9 (.str "refs" tk9) (.int 0 k7) es5 = es9 at *
    repeat (walk_at "ms")
    with_reducible refine r_newTuple (by simp) fun T h10 fT sT eT => ?_
    have O := O.grow sT
    repeat (walk_at "ms")
    walk_at "mSet"
    intro h11 hs11 tk11 n11 O
    have nr := nr.put hs11 tk11 (name := "score") (.ref T)
    have l11 := putL_len "score" hs11 (.str "score" tk11) (.ref T) es9
    have e2 := (getL_put_ne (name := "score") (x := "num_levels") hs11 tk11 (.ref T) (by decide) es9).trans e2
    have e3 := (getL_put_ne (name := "score") (x := "order") hs11 tk11 (.ref T) (by decide) es9).trans e3
    have e5 := (getL_put_ne (name := "score") (x := "files") hs11 tk11 (.ref T) (by decide) es9).trans e5
    have ot11 : ∀ nm : Str, nm ≠ "num_levels" → nm ≠ "order" → nm ≠ "files" → nm ≠ "refs" → nm ≠ "score" → getL nm (putL "score" hs11 (.str "score" tk11) (.ref T) es9) = some none := fun nm q q' q'' q3 q4 => (getL_put_ne _ _ _ (Ne.symm q4) _).trans (ot9 nm q q' q'' q3)
    generalize putL "score" hs11 (.str "score" tk11) (.ref T) es9 = es11 at *
    repeat (walk_at "ms")
    walk_at "mSet"
    intro h12 hs12 tk12 n12 O
    repeat (walk_at "ms")
    have hd12 := O.head
    have hF := O.second
    have hfr : ∀ b ∈ ((F, listOf (ls.map Value.ref).toArray nF) :: ls.map (fun l => (l, listOf #[] 0))).map (·.1), hp.get? b = none := fun b hb => by
      obtain ⟨q, hq, rfl⟩ := List.mem_map.mp hb
      have hM := O.mus q (.tail _ hq)
      cases z : hp.get? q.1 with
      | none => rfl
      | some o =>
        have : q.1 ≠ dx := fun e => (List.nodup_cons.mp O.nd).1 (List.mem_map.mpr ⟨q, hq, e⟩)
        have := hg _ _ (kg _ _ this z)
        rw [hM.2.2] at this; cases this
    have hmm : (ls.map (fun l => (l, listOf #[] 0))).map (·.1) = ls := by
      rw [List.map_map]
      exact (List.map_congr_left fun _ _ => rfl).trans (List.map_id _)
    refine hQ _ _ _ _ F nF ls (fun b o hb e => O.keep b o (hg b o (kg b o hb e))) hd12 ⟨⟨_, (getL_put_ne _ _ _ (by decide) _).trans e2⟩, (getL_put_ne _ _ _ (by decide) _).trans e3, (getL_put_ne _ _ _ (by decide) _).trans e5, fun nm q1 q2 q3 q4 q5 q6 => (getL_put_ne _ _ _ (Ne.symm q6) _).trans (ot11 nm q1 q2 q3 q4 q5)⟩ hF hls ?_ (hfr F (by simp)) (fun l hl => hfr l (by rw [List.map_cons, hmm]; exact .tail _ hl)) ?_
    · exact fun l hl => (O.mus (l, listOf #[] 0) (.tail _ (.tail _ (List.mem_map.mpr ⟨l, hl, rfl⟩)))).1
    · have := (List.nodup_cons.mp O.nd).2
      rw [List.map_cons, hmm] at this
      exact this
  · intro _ _; rfl
end new3
theorem Own.addList {g h : Heap} {L : Addr} {m : Str → Option Value} {mu new : List (Addr × Obj)} (O : Own g L h m mu) (hl : ∀ p ∈ new, h.get? p.1 = some p.2 ∧ p.1 ≠ L ∧ g.get? p.1 = none ∧ p.1 ∉ mu.map (·.1)) (nd : (new.map (·.1)).Nodup) :
    Own g L h m (new ++ mu) := by
  refine ⟨O.ns, O.keep, O.off, fun p hp => ?_, ?_⟩
  · rcases List.mem_append.mp hp with q | q
    · have := hl p q; exact ⟨this.1, this.2.1, this.2.2.1⟩
    · exact O.mus p q
  · rw [List.map_append]
    refine List.nodup_append.mpr ⟨nd, O.nd, fun a ha b hb e => ?_⟩
    obtain ⟨p, hp, rfl⟩ := List.mem_map.mp ha
    exact (hl p hp).2.2.2 (e ▸ hb)
section new4
variable {w : World} {A : Around} {s : Shared} {h g : Heap} {L : Addr} {m mg mb : Str → Option Value} {mu : List (Addr × Obj)} {k : Nat} {Q : Value → Shared → Prop} {E : Value → Shared → Prop}
noncomputable def inner (ls : List (Addr × List Value × Nat)) : List (Addr × Obj) := ls.map fun x => (x.1, listOf x.2.1.toArray x.2.2)
theorem ver_new (G : GK w mg mb g) (O : Own g L h m mu) (hA : OkA A 3) {n : Nat} {tn : Tok} {x : Addr} (hn : n ≤ 100)
    (hQ : ∀ g' h' y es F (ls : List Addr) k', g.StaysIn g' → Own g' L h' m (ls.map (fun l => (l, listOf #[] 0)) ++ mu) → IsInst g' y 539 es → VerEs es n x F → g'.IsList F (ls.map .ref).toArray → ls.length = n → Q (.ref y) (S3 s h' k')) :
    wpAny (model PG w) A (call (.ref 539) [.int n tn, .ref x] []) Q E (S3 s h k) := by
  refine r_make G O (by k_is) (by k_is) (by k_is) fun y dx h1 fy fd O1 => ?_
  have hne : y ≠ dx := fun e => (List.nodup_cons.mp O1.nd).1 (by rw [← e]; simp)
  refine verinit_spec G O1.keep (O1.mus _ (.head _)).2.2 O1.second hne O1.head hA.under hn fun h2 es n2 k2 F nF ls kb e ve eF hls el fF fl nd => ⟨rfl, ?_⟩
  have O2 := O1.updK kb e
  have hy := O2.second
  have hd2 := O2.head
  have hmu : ∀ b, h1.get? b = none → b ∉ mu.map (·.1) := fun b hb q => O1.neMu hb (by simp only [List.map_cons]; exact .tail _ (.tail _ q))
  have O3 : Own g L h2 m (ls.map (fun l => (l, listOf #[] 0)) ++ mu) := by
    refine O2.drop.drop.addList (fun p hp => ?_) ?_
    · obtain ⟨l, hl, rfl⟩ := List.mem_map.mp hp
      exact ⟨el l hl, O1.neL (fl l hl), O1.fresh (fl l hl), hmu l (fl l hl)⟩
    · rw [List.map_map]
      have : (ls.map ((·.1) ∘ fun l => (l, listOf #[] 0))) = ls := (List.map_congr_left fun _ _ => rfl).trans (List.map_id _)
      rw [this]
      exact (List.nodup_cons.mp nd).2
  obtain ⟨O4, st, k3⟩ := O3.rebase
  have hm2 : ∀ b, b ∉ mu.map (·.1) → b ∉ ls → b ∉ (ls.map (fun l => (l, listOf #[] 0)) ++ mu).map (·.1) := fun b h1 h2 q => by
    rw [List.map_append, List.map_map] at q
    rcases List.mem_append.mp q with q | q
    · obtain ⟨l, hl, rfl⟩ := List.mem_map.mp q; exact h2 hl
    · exact h1 q
  have hin : ∀ b o, h1.get? b = some o → b ∉ ls := fun b o e q => by rw [fl b q] at e; cases e
  refine hQ _ h2 y es F ls k2 st O4 ⟨dx, n2, k3 y _ (O.neL fy) (hm2 _ (O.neMu fy) (hin _ _ O1.second)) hy, k3 dx _ (O.neL fd) (hm2 _ (O.neMu fd) (hin _ _ O1.head)) hd2⟩ ve ?_ hls
  exact isList_of (k3 F _ (O1.neL fF) (hm2 _ (hmu _ fF) (List.nodup_cons.mp nd).1) eF)
end new4
section rz
variable {w : World} {A : Around} {s : Shared} {hp base : Heap} {k : Nat} {mg mb : Str → Option Value} {Q : Value → Shared → Prop} {E : Value → Shared → Prop} {outer : List Env}
theorem pack_raises (G : GK w mg mb hp) (hA : OkA A 2) (K : Below A base outer hp) {tn tk : Tok} (hE : ∀ v s', Rz s hp base outer 80 v s' → E v s') :
    wpAny (model PG w) A (call (.ref 143) [.int (-1) tn, .int 1 tk] []) Q E (S3 s hp k) := by
  refine wpAny_call (enter_x (C := 80) [("seq", .int (-1) tn), ("kind", .int 1 tk)] G hA K hE (by k_is) (by k_is) (fun _ => BindsTo.of_eq rfl) (locs rfl) ?_)
  intro A' E' h₁ L k₁ hA hL O X
  repeat (walk_at "ms")
  with_reducible refine r_raise1 (C := 80) G O hA.handled (by k_is) (by k_exc) PySem.F.excBase_Exception rfl rfl rfl rfl (by decide) ?_
  with_reducible refine JoinedStr_many (joinParts_cons (r_str ⟨by decide +kernel, joinParts_cons (r_fmt (i := -1) (by decide +kernel) ?_)⟩))
  repeat (walk_at "ms")
  refine ⟨_, _, _, rfl, rfl, fun t' k'' => ⟨by decide +kernel, joinParts_cons (r_str ⟨by decide +kernel, r_strEnd (by decide +kernel) ?_⟩)⟩⟩
  exact ⟨_, _, rfl, O.keep, fun h' e hm => X.made O hm⟩
theorem mkikey_raises (G : GK w mg mb hp) (hA : OkA A 3) (K : Below A base outer hp) {b : Array UInt8} {tb tn tk : Tok} (hE : ∀ v s', Rz s hp base outer 80 v s' → E v s') :
    wpAny (model PG w) A (call (.ref 150) [.bytes b tb, .int (-1) tn, .int 1 tk] []) Q E (S3 s hp k) := by
  refine wpAny_call (enter_x (C := 80) [("user", .bytes b tb), ("seq", .int (-1) tn), ("kind", .int 1 tk)] G hA K hE (by k_is) (by k_is) (fun _ => BindsTo.of_eq rfl) (locs rfl) ?_)
  intro A' E' h₁ L k₁ hA hL O X
  repeat (walk_at "ms")
  exact pack_raises (O.gk G) hA (X.below O) fun v s' R => X.on v s' (R.weak O.keep)
theorem split_raises (G : GK w mg mb hp) (hA : OkA A 4) (K : Below A base outer hp) {u m : Int} {tb : Tok} (Ky : KeyOk u m 7) (hE : ∀ v s', Rz s hp base outer 56 v s' → E v s') :
    wpAny (model PG w) A (call (.ref 157) [.bytes (ikB u m 7) tb] []) Q E (S3 s hp k) := by
  refine wpAny_call (enter_x (C := 56) [("ik", .bytes (ikB u m 7) tb)] G hA K hE (by k_is) (by k_is) (fun _ => BindsTo.of_eq rfl) (locs rfl) ?_)
  intro A' E' h₁ L k₁ hA hL O X
  repeat (walk_at "ms")
  refine kuser_spec (O.gk G) (hA.le (by decide)) Ky fun h2 k2 t2 st2 => ?_
  have O := O.grow st2
  repeat (walk_at "ms")
  rename_i O
  refine ktag_spec (O.gk G) (hA.le (by decide)) Ky fun h3 k3 t3 st3 => ?_
  have O := O.grow st3
  repeat (walk_at "ms")
  rename_i O
  rw [bitAnd_m8, show ((0 - m) * 256 + 7) % 256 = 7 by walk_at "o"] at O ⊢
  repeat (walk_at "ms")
  with_reducible refine r_raise1 (C := 56) G O hA.handled (by k_is) (by k_exc) PySem.F.excBase_Exception rfl rfl rfl rfl (by decide) ?_
  with_reducible refine JoinedStr_many (joinParts_cons (r_str ⟨by decide +kernel, joinParts_cons (r_fmt (i := 7) (by decide +kernel) ?_)⟩))
  repeat (walk_at "ms")
  refine ⟨_, _, _, rfl, rfl, fun t' k'' => ⟨by decide +kernel, r_strEnd (by decide +kernel) ?_⟩⟩
  exact ⟨_, _, rfl, O.keep, fun h' e hm => X.made O hm⟩
theorem need_raises (G : GK w mg mb hp) (hA : OkA A 2) (K : Below A base outer hp) {y a x : Addr} {es : List DictEntry} {p : Int} {its : Array Value} (I : IsInst hp y 457 es) (W : WalkEs es a x p) (hl : hp.IsList a its) (hz : its.size ≤ 1000) (hv : ¬ (0 ≤ p ∧ p < its.size))
    (hE : ∀ v s', Rz s hp base outer 92 v s' → E v s') :
    wpAny (model PG w) A (call (.ref 342) [.ref y] []) Q E (S3 s hp k) := by
  refine wpAny_call (enter_x (C := 92) [("self", .ref y)] G hA K hE (by k_is) (by k_is) (fun _ => BindsTo.of_eq rfl) (locs rfl) ?_)
  intro A' E' h₁ L k₁ hA hL O X
  have ev := W.other "valid" (by decide) (by decide) (by decide)
  repeat (walk_at "ms")
  refine valid_spec (O.gk G) hA (I.mono O.keep) W (O.list hl) hz fun h2 k2 st2 => ?_
  rw [show decide (0 ≤ p ∧ p < its.size) = false by simpa using hv]
  have O := O.grow st2
  repeat (walk_at "ms")
  with_reducible refine r_raise1 (C := 92) G O hA.handled (by k_is) (by k_exc) PySem.F.excBase_Exception rfl rfl rfl rfl (by decide) ?_
  exact r_str ⟨_, _, rfl, O.keep, fun h' e hm => X.made O hm⟩
theorem off_key (G : GK w mg mb hp) (hA : OkA A 3) (K : Below A base outer hp) {y a x : Addr} {es : List DictEntry} {p : Int} {its : Array Value} (I : IsInst hp y 457 es) (W : WalkEs es a x p) (hl : hp.IsList a its) (hz : its.size ≤ 1000) (hv : ¬ (0 ≤ p ∧ p < its.size))
    (hE : ∀ v s', Rz s hp base outer 92 v s' → E v s') :
    wpAny (model PG w) A (call (.ref 384) [.ref y] []) Q E (S3 s hp k) := by
  refine wpAny_call (enter_x (C := 92) [("self", .ref y)] G hA K hE (by k_is) (by k_is) (fun _ => BindsTo.of_eq rfl) (locs rfl) ?_)
  intro A' E' h₁ L k₁ hA hL O X
  have ev := W.other "need" (by decide) (by decide) (by decide)
  repeat (walk_at "ms")
  exact need_raises (O.gk G) hA (X.below O) (I.mono O.keep) W (O.list hl) hz hv fun v s' R => X.on v s' (R.weak O.keep)
theorem off_value (G : GK w mg mb hp) (hA : OkA A 3) (K : Below A base outer hp) {y a x : Addr} {es : List DictEntry} {p : Int} {its : Array Value} (I : IsInst hp y 457 es) (W : WalkEs es a x p) (hl : hp.IsList a its) (hz : its.size ≤ 1000) (hv : ¬ (0 ≤ p ∧ p < its.size))
    (hE : ∀ v s', Rz s hp base outer 92 v s' → E v s') :
    wpAny (model PG w) A (call (.ref 391) [.ref y] []) Q E (S3 s hp k) := by
  refine wpAny_call (enter_x (C := 92) [("self", .ref y)] G hA K hE (by k_is) (by k_is) (fun _ => BindsTo.of_eq rfl) (locs rfl) ?_)
  intro A' E' h₁ L k₁ hA hL O X
  have ev := W.other "need" (by decide) (by decide) (by decide)
  repeat (walk_at "ms")
  exact need_raises (O.gk G) hA (X.below O) (I.mono O.keep) W (O.list hl) hz hv fun v s' R => X.on v s' (R.weak O.keep)
theorem off_step (G : GK w mg mb hp) (hA : OkA A 3) (K : Below A base outer hp) {y a x : Addr} {es : List DictEntry} {p : Int} {its : Array Value} (I : IsInst hp y 457 es) (W : WalkEs es a x p) (hl : hp.IsList a its) (hz : its.size ≤ 1000) (hv : ¬ (0 ≤ p ∧ p < its.size))
    (hE : ∀ v s', Rz s hp base outer 92 v s' → E v s') :
    wpAny (model PG w) A (call (.ref 370) [.ref y] []) Q E (S3 s hp k) := by
  refine wpAny_call (enter_x (C := 92) [("self", .ref y)] G hA K hE (by k_is) (by k_is) (fun _ => BindsTo.of_eq rfl) (locs rfl) ?_)
  intro A' E' h₁ L k₁ hA hL O X
  have ev := W.other "need" (by decide) (by decide) (by decide)
  repeat (walk_at "ms")
  exact need_raises (O.gk G) hA (X.below O) (I.mono O.keep) W (O.list hl) hz hv fun v s' R => X.on v s' (R.weak O.keep)
theorem off_back (G : GK w mg mb hp) (hA : OkA A 3) (K : Below A base outer hp) {y a x : Addr} {es : List DictEntry} {p : Int} {its : Array Value} (I : IsInst hp y 457 es) (W : WalkEs es a x p) (hl : hp.IsList a its) (hz : its.size ≤ 1000) (hv : ¬ (0 ≤ p ∧ p < its.size))
    (hE : ∀ v s', Rz s hp base outer 92 v s' → E v s') :
    wpAny (model PG w) A (call (.ref 377) [.ref y] []) Q E (S3 s hp k) := by
  refine wpAny_call (enter_x (C := 92) [("self", .ref y)] G hA K hE (by k_is) (by k_is) (fun _ => BindsTo.of_eq rfl) (locs rfl) ?_)
  intro A' E' h₁ L k₁ hA hL O X
  have ev := W.other "need" (by decide) (by decide) (by decide)
  repeat (walk_at "ms")
  exact need_raises (O.gk G) hA (X.below O) (I.mono O.keep) W (O.list hl) hz hv fun v s' R => X.on v s' (R.weak O.keep)
end rz
section off
variable {w : World} {A : Around} {s : Shared} {hp base : Heap} {k : Nat} {mg mb : Str → Option Value} {Q : Value → Shared → Prop} {E : Value → Shared → Prop} {outer : List Env}
theorem off_spec (G : GK w mg mb base) (hA : OkA A 4) (K : Below A base outer hp) {y a x : Addr} {es : List DictEntry} {p : Int} {its : Array Value} (I : IsInst base y 457 es) (W : WalkEs es a x p) (hl : base.IsList a its) (hz : its.size ≤ 1000) (hv : ¬ (0 ≤ p ∧ p < its.size))
    (hQ : ∀ h' tk, base.StaysIn h' → hp.UpToSlots h' → Q (.bool true) (S3 s h' tk)) :
    wpAny (model PG w) A (call (.ref 583) [.ref y] []) Q E (S3 s hp k) := by
  refine wpAny_call (enter_t [("walker", .ref y)] G hA K (by k_is) (by k_is) (fun _ => BindsTo.of_eq rfl) (locs rfl) ?_)
  intro A' E' h₁ L k₁ hA hL O U hfr Bel
  repeat (walk_at "ms")
  with_reducible refine r_range1 fun r h6 k6 t1 t2 t3 st6 hr => ?_
  have O := O.grow st6
  have U := U.trans (.of_keeps st6)
  repeat (walk_at "ms")
  with_reducible refine r_iter_rangeU (n := 4) hA.handled O hr (small_one (by decide) (by decide) (by decide) (by decide)) ((rangeSize_nat _ _).trans (by decide)) hp U (fun i g' m' mu' => g' = base ∧ mu' = [] ∧ m' "walker" = some (.ref y)) ⟨rfl, rfl, rfl⟩ ?_ ?_ ?_ hL
  · rintro E2 i tk g' h7 m7 mu7 q k7 hq hi hg ⟨rfl, rfl, em⟩ U O
    have ek := W.other "key" (by decide) (by decide) (by decide)
    have ev := W.other "value" (by decide) (by decide) (by decide)
    have es := W.other "step" (by decide) (by decide) (by decide)
    have eb := W.other "back" (by decide) (by decide) (by decide)
    have ed := W.other "valid" (by decide) (by decide) (by decide)
    obtain ⟨g2, st2, O, U2⟩ := O.slotsBase U hL (by simpa using hq)
    have I2 := I.mono st2
    have hl2 := stays_list st2 hl
    have G2 := G.keeps st2
    repeat (walk_at "ms")
    rename_i O
    have U3 := U2.trans (.of_keeps O.keep)
    have O3 := O.weak st2
    obtain ⟨B, sB, OB, KB, kB⟩ := Mine.Below.own (Bel O3 U3) O3 rfl
    have GB := G.keeps sB
    have IB := I.mono sB
    have hlB := stays_list sB hl
    have qB : B.get? q.1 = some q.2 := kB _ _ (O.mus q (.head _)).1 fun hm => by
      rw [List.filterMap_cons] at hm
      rcases List.mem_cons.mp hm with e | hm
      · exact (O.mus q (.head _)).2.1 e
      · obtain ⟨o, ho, _⟩ := (K.frames.mem hm).2
        rw [hq] at ho; cases ho
    refine r_try (C := 92) (bmB := [.type "Exception", .type "BaseException", .type "object"]) (newId := "Exception.__new__") GB OB (fun _ _ e => e) hfr rfl (by k_is) (by k_exc) rfl rfl rfl rfl (by decide) ?_ fun v h8 k8 O8 sm st => ?_
    · rcases (show i = 0 ∨ i = 1 ∨ i = 2 ∨ i = 3 by walk_at "o") with rfl | rfl | rfl | rfl
      · repeat (walk_at "ms")
        exact off_key (GB.keeps OB.keep) hA KB (IB.mono OB.keep) W (OB.list hlB) hz hv fun _ _ x => x
      · repeat (walk_at "ms")
        exact off_value (GB.keeps OB.keep) hA KB (IB.mono OB.keep) W (OB.list hlB) hz hv fun _ _ x => x
      · repeat (walk_at "ms")
        exact off_step (GB.keeps OB.keep) hA KB (IB.mono OB.keep) W (OB.list hlB) hz hv fun _ _ x => x
      · repeat (walk_at "ms")
        exact off_back (GB.keeps OB.keep) hA KB (IB.mono OB.keep) W (OB.list hlB) hz hv fun _ _ x => x
    · have U8 := U3.trans sm
      have O := O8.back O3 sB (by simpa using qB)
      obtain ⟨g3, st3, O, U4⟩ := O.slotsBase U8 hL (by simpa using hq)
      have I3 := I.mono st3
      have hl3 := stays_list st3 hl
      have G3 := G.keeps st3
      clear G2 GB O8 OB O3 KB IB hlB I2 hl2
      repeat (walk_at "ms")
      rename_i O
      refine valid_spec (O.gk G3) (hA.le (by decide)) (I3.mono O.keep) W (O.list hl3) hz fun h2 k2 st2 => ?_
      rw [show decide (0 ≤ p ∧ p < its.size) = false by simpa using hv]
      have O := O.grow st2
      repeat (walk_at "ms")
      refine ⟨_, _, _, [], _, rfl, fun _ _ e => e, O.weak st3, U4.trans (.of_keeps O.keep), rfl, rfl, em⟩
  · rintro g' h' m' mu' k' hg ⟨rfl, rfl, em⟩ U O
    repeat (walk_at "ms")
    exact hQ _ _ O.keep U
  · intro _ _; rfl
end off
theorem ord_le_user {u v : Int} (u0 : 0 ≤ u) (u1 : u < 5) (v0 : 0 ≤ v) (v1 : v < 5) : (ord (userB u) (userB v) != .gt) = decide (u ≤ v) := by
  rcases seqIdx u0 u1 with rfl | rfl | rfl | rfl | rfl <;> rcases seqIdx v0 v1 with rfl | rfl | rfl | rfl | rfl <;> decide +kernel
/-- a version of levels of files -/
noncomputable def IsVer (h : Heap) (y : Addr) (x : Addr) (fss : List (List FM)) : Prop :=
  ∃ es F ls, IsInst h y 539 es ∧ VerEs es fss.length x F ∧ h.IsList F (ls.map Value.ref).toArray ∧ All2 (IsFiles h) ls fss ∧ IsOrd h x
theorem IsVer.mono {h h' : Heap} {y x : Addr} {fss : List (List FM)} (k : h.StaysIn h') (I : IsVer h y x fss) : IsVer h' y x fss :=
  let ⟨es, F, ls, a, b, c, d, e⟩ := I; ⟨es, F, ls, a.mono k, b, stays_list k c, d.imp fun _ _ q => q.mono k, e.mono k⟩
noncomputable def covers (u : Int) (f : FM) : Bool := decide (f.lu ≤ u ∧ u ≤ f.hu)
noncomputable def cutIdx (fs : List FM) (u m k : Int) : Nat := (fs.takeWhile fun f => decide (icmp f.hu f.hm f.hk u m k < 0)).length
noncomputable def CutOk (fs : List FM) (u m k : Int) : Prop := ∀ i f, fs[i]? = some f → (icmp f.hu f.hm f.hk u m k < 0 ↔ i < cutIdx fs u m k)
/-- what a deeper level gives -/
noncomputable def pick (fs : List FM) (u m k : Int) : Option FM := match fs[cutIdx fs u m k]? with
  | some f => if f.lu ≤ u then some f else none
  | none => none
noncomputable def pickL (fss : List (List FM)) (u m k : Int) (lv : Nat) : List (Nat × FM) := match pick (fss.getD lv []) u m k with
  | some f => [(lv, f)]
  | none => []
noncomputable def cands (fss : List (List FM)) (u m k : Int) : List (Nat × FM) :=
  ((fss.headD []).reverse.filter (covers u)).map (fun f => (0, f)) ++ ((List.range (fss.length - 1)).map fun i => pickL fss u m k (1 + i)).flatten
noncomputable def IsCand (h0 h : Heap) (v : Value) (c : Nat × FM) : Prop := ∃ a t mv, v = .ref a ∧ IsTup h a #[.int c.1 t, mv] ∧ IsMeta h0 mv c.2
theorem IsCand.mono {h0 h h' : Heap} {v : Value} {c : Nat × FM} (k : h.StaysIn h') (I : IsCand h0 h v c) : IsCand h0 h' v c :=
  let ⟨a, t, mv, b, d, e⟩ := I; ⟨a, t, mv, b, stays_tup k d, e⟩
theorem cutIdx_le (fs : List FM) (u m k : Int) : cutIdx fs u m k ≤ fs.length := (List.takeWhile_sublist _).length_le
section cand
variable {w : World} {A : Around} {s : Shared} {hp : Heap} {k : Nat} {mg mb : Str → Option Value} {Q : Value → Shared → Prop} {E : Value → Shared → Prop}
theorem candidates_spec {g0 : Heap} (k0 : g0.StaysIn hp) (G : GK w mg mb hp) (hA : OkA A 7) {y x : Addr} {fss : List (List FM)} {u m kd : Int} {tb : Tok} (V : IsVer g0 y x fss) (K : KeyOk u m kd) (h0 : 0 < fss.length) (hl : fss.length ≤ 100) (hz : ∀ fs ∈ fss, fs.length ≤ 1000) (ok : ∀ fs ∈ fss, ∀ f ∈ fs, f.Ok)
    (cut : ∀ i fs, 0 < i → fss[i]? = some fs → CutOk fs u m kd)
    (hQ : ∀ h' tk a vs, hp.StaysIn h' → h'.IsList a vs → All2 (IsCand g0 h') vs.toList (cands fss u m kd) → Q (.ref a) (S3 s h' tk)) :
    wpAny (model PG w) A (call (.ref 487) [.ref y, .bytes (ikB u m kd) tb] []) Q E (S3 s hp k) := by
  refine wpAny_call (enter_ret [("self", .ref y), ("ikey", .bytes (ikB u m kd) tb)] G hA (by k_is) (by k_is) (fun _ => BindsTo.of_eq rfl) (locs rfl) ?_)
  intro A' E' h₁ L k₁ hA hL O
  have V' := V
  obtain ⟨es, F, ls, I, ve, hF, hls0, IO⟩ := V'
  have I := I.mono k0
  have hF := stays_list k0 hF
  have IO := IO.mono k0
  have hls := hls0.imp fun _ _ q => IsFiles.mono k0 q
  obtain ⟨tn, en⟩ := ve.levels
  have eo := ve.order
  have ef := ve.files
  have hlen := hls.length
  obtain ⟨fs0, hfs0⟩ : ∃ fs0, fss[0]? = some fs0 := ⟨fss[0], List.getElem?_eq_getElem h0⟩
  obtain ⟨l0, hl0, fi0⟩ := hls0.get hfs0
  have fi0' := fi0
  obtain ⟨v0, lv0, av00⟩ := fi0'
  have lv0 := stays_list k0 lv0
  have av0 := av00.imp fun _ _ q => IsMeta.mono k0 q
  have z0 := hz fs0 (List.mem_of_getElem? hfs0)
  have hlen0 := av0.length
  repeat (walk_at "ms")
  refine kuser_spec (O.gk G) (hA.le (by decide)) K fun h2 k2 t2 st2 => ?_
  have O := O.grow st2
  repeat (walk_at "ms")
  rename_i D _ _ _ _ _ _ O
  have huser := O
  with_reducible refine r_item_list (x := .ref l0) (O.list hF) (by decide) (by simp [hlen]; try walk_at "o") (by simp [hl0]) ?_ (by with_unfolding_all rfl)
  repeat (walk_at "ms")
  rename_i O
  with_reducible refine r_len_list (O.list lv0) (by simp; walk_at "o") ?_
  repeat (walk_at "ms")
  with_reducible refine r_range3 (by decide) (by decide) fun r h3 k3 t3 t4 t5 st3 hr => ?_
  have O := O.grow st3
  rw [show (v0.toArray.size : Int) - 1 = ((fs0.length : Nat) : Int) - 1 by simp [hlen0]] at hr
  repeat (walk_at "ms")
  with_reducible refine r_iter_range (n := fs0.length) hA.handled O hr (small_down (by walk_at "o")) (rangeSize_down _) (fun i g' m' mu' => m' "self" = some (.ref y) ∧ m' "ikey" = some (.bytes (ikB u m kd) tb) ∧ (∃ t, m' "user" = some (.bytes (userB u) t)) ∧ m' "found" = some (.ref D) ∧ m' "level0" = some (.ref l0) ∧
    ∃ its nF, mu' = [(D, listOf its nF)] ∧ its.size ≤ i ∧ All2 (IsCand g0 g') its.toList (((fs0.reverse.take i).filter (covers u)).map fun f => (0, f))) ?_ ?_ ?_ ?_
  · exact ⟨rfl, rfl, ⟨_, rfl⟩, rfl, rfl, #[], 0, rfl, Nat.le_refl _, .nil⟩
  · rintro E2 i tk g' h7 m7 mu7 p k7 hi hg ⟨e1, e2, ⟨tu, e3⟩, e4, e5, its, nF, rfl, hsz, hall⟩ O
    have G := G.keeps hg
    have lv0 := stays_list hg lv0
    obtain ⟨f, hf⟩ : ∃ f, fs0[fs0.length - 1 - i]? = some f := ⟨fs0[fs0.length - 1 - i], List.getElem?_eq_getElem (by walk_at "o")⟩
    obtain ⟨mv, hmv, im0⟩ := av00.get hf
    have im := (im0.mono k0).mono hg
    have okf := ok fs0 (List.mem_of_getElem? hfs0) f (List.mem_of_getElem? hf)
    have im' := im
    obtain ⟨xm, em, rfl, Im, hnum, ⟨tsm, esm⟩, ⟨tla, ela⟩⟩ := im'
    have htake : fs0.reverse.take (i + 1) = fs0.reverse.take i ++ [f] := by
      rw [List.take_add_one, List.getElem?_reverse (by walk_at "o"), hf]; rfl
    rw [htake, List.filter_append]
    repeat (walk_at "ms")
    rename_i O
    have eidx : ((fs0.length : Int) - 1 + (i : Int) * -1).toNat = fs0.length - 1 - i := by walk_at "o"
    with_reducible refine r_item_list (x := .ref xm) (O.list lv0) (by walk_at "o") (by simp; walk_at "o") (by rw [eidx]; simpa using hmv) ?_ (by with_unfolding_all rfl)
    repeat (walk_at "ms")
    rename_i O
    refine kuser_spec (O.gk G) (hA.le (by decide)) okf.lo fun h8 k8 t8 st8 => ?_
    have O := O.grow st8
    repeat (walk_at "ms")
    rw [ord_le_user okf.lo.u0 okf.lo.u1 K.u0 K.u1]
    refine if_dec (fun c1 => ?_) fun c1 => ?_
    · repeat (walk_at "ms")
      refine kuser_spec (O.gk G) (hA.le (by decide)) okf.hi fun h9 k9 t9 st9 => ?_
      have O := O.grow st9
      repeat (walk_at "ms")
      rw [ord_le_user K.u0 K.u1 okf.hi.u0 okf.hi.u1]
      refine if_dec (fun c2 => ?_) fun c2 => ?_
      · repeat (walk_at "ms")
        have O := O.swap
        with_reducible refine r_mAppend O.head ?_
        repeat (walk_at "ms")
        with_reducible refine r_newTuple (by simp) fun T h10 fT sT eT => ?_
        obtain ⟨g10, st10, O, eT⟩ := O.newTup fT sT eT
        repeat (walk_at "ms")
        with_reducible refine r_append O (by walk_at "o") fun h11 n11 O => ?_
        repeat (walk_at "ms")
        refine ⟨g10, h11, _, [(D, listOf (its.push (.ref T)) n11)], _, rfl, st10, O.swap, e1, e2, ⟨_, e3⟩, e4, e5, its.push (.ref T), n11, rfl, by rw [Array.size_push]; walk_at "o", ?_⟩
        have c3 : covers u f = true := by simp [covers, c1, c2]
        rw [List.filter_cons, c3, if_pos rfl, List.map_append, Array.toList_push]
        exact (hall.imp fun _ _ q => q.mono st10).append (.cons ⟨T, _, _, rfl, eT, im0⟩ .nil)
      · repeat (walk_at "ms")
        refine ⟨g', _, _, [(D, listOf its nF)], _, rfl, fun _ _ e => e, O, e1, e2, ⟨_, e3⟩, e4, e5, its, nF, rfl, by walk_at "o", ?_⟩
        have c3 : covers u f = false := by simp [covers, c2]
        rw [List.filter_cons, c3]
        simpa using hall
    · repeat (walk_at "ms")
      refine ⟨g', _, _, [(D, listOf its nF)], _, rfl, fun _ _ e => e, O, e1, e2, ⟨_, e3⟩, e4, e5, its, nF, rfl, by walk_at "o", ?_⟩
      have c3 : covers u f = false := by simp [covers, c1]
      rw [List.filter_cons, c3]
      simpa using hall
  · rintro g' h7 m7 mu7 k7 hg ⟨e1, e2, ⟨tu, e3⟩, e4, e5, its, nF, rfl, hsz, hall⟩ O
    have G := G.keeps hg
    have hF := stays_list hg hF
    have hls := hls.imp fun _ _ q => IsFiles.mono hg q
    have IO := IO.mono hg
    have I := I.mono hg
    have tk0 : fs0.reverse.take fs0.length = fs0.reverse := List.take_of_length_le (by simp)
    rw [tk0] at hall
    have O0 := O
    repeat (walk_at "ms")
    with_reducible refine r_range2 fun r h8 k8 t6 t7 t8 st8 hr => ?_
    have O := O.grow st8
    repeat (walk_at "ms")
    with_reducible refine r_iter_range (n := fss.length - 1) hA.handled O hr (small_one (by decide) (by decide) (by walk_at "o") (by walk_at "o")) ((rangeSize_nat _ _).trans (by walk_at "o")) (fun i g2 m' mu' => g'.StaysIn g2 ∧ m' "self" = some (.ref y) ∧ m' "ikey" = some (.bytes (ikB u m kd) tb) ∧ (∃ t, m' "user" = some (.bytes (userB u) t)) ∧ m' "found" = some (.ref D) ∧
      ∃ its nF, mu' = [(D, listOf its nF)] ∧ its.size ≤ fs0.length + i ∧ All2 (IsCand g0 g2) its.toList (((fs0.reverse.filter (covers u)).map fun f => (0, f)) ++ ((List.range i).map fun j => pickL fss u m kd (1 + j)).flatten)) ?_ ?_ ?_ ?_
    · exact ⟨fun _ _ e => e, e1, e2, ⟨_, e3⟩, e4, its, nF, rfl, by walk_at "o", by simpa using hall⟩
    · rintro E2 i tk g2 h9 m9 mu9 p k9 hi hg2 ⟨_, e1, e2, ⟨tu, e3⟩, e4, its, nF, rfl, hsz, hall⟩ O
      have G := G.keeps hg2
      have hF := stays_list hg2 hF
      have hls := hls.imp fun _ _ q => IsFiles.mono hg2 q
      have IO := IO.mono hg2
      have I := I.mono hg2
      obtain ⟨fs, hfs⟩ : ∃ fs, fss[1 + i]? = some fs := ⟨fss[1 + i], List.getElem?_eq_getElem (by walk_at "o")⟩
      obtain ⟨l, hl1, fi0⟩ := hls0.get hfs
      have fi := ((fi0.mono k0).mono hg).mono hg2
      have fi' := fi
      obtain ⟨v, lv0, av0⟩ := fi0
      have lv := stays_list hg2 (stays_list hg (stays_list k0 lv0))
      have av := ((av0.imp fun _ _ q => IsMeta.mono k0 q).imp fun _ _ q => IsMeta.mono hg q).imp fun _ _ q => IsMeta.mono hg2 q
      have hlv := av.length
      have zf := hz fs (List.mem_of_getElem? hfs)
      have okf := ok fs (List.mem_of_getElem? hfs)
      have hcut := cut (1 + i) fs (by walk_at "o") hfs
      have hcl := cutIdx_le fs u m kd
      have eidx : ((1 : Int) + (i : Int) * 1).toNat = 1 + i := by walk_at "o"
      have hgd : fss.getD (1 + i) [] = fs := by rw [List.getD_eq_getElem?_getD, hfs]; rfl
      rw [List.range_succ, List.map_append, List.flatten_append, ← List.append_assoc]
      have hpl : (List.map (fun j => pickL fss u m kd (1 + j)) [i]).flatten = pickL fss u m kd (1 + i) := by simp
      rw [hpl]
      repeat (walk_at "ms")
      rename_i O
      with_reducible refine r_item_list (x := .ref l) (O.list hF) (by walk_at "o") (by simp [hlen]; walk_at "o") (by rw [eidx]; simpa using hl1) ?_ (by with_unfolding_all rfl)
      repeat (walk_at "ms")
      rename_i O
      refine find_spec (O.gk G) (hA.le (by decide)) (fi.mono O.keep) (IO.mono O.keep) K okf zf hcl hcut fun h10 k10 t10 st10 => ?_
      have O := O.grow st10
      repeat (walk_at "ms")
      rename_i O
      with_reducible refine r_len_list (O.list lv) (by simp; walk_at "o") ?_
      rw [show v.toArray.size = fs.length by simp [hlv]]
      repeat (walk_at "ms")
      refine if_dec (fun c1 => ?_) fun c1 => ?_
      · have c1' : cutIdx fs u m kd < fs.length := by walk_at "o"
        obtain ⟨f, hf⟩ : ∃ f, fs[cutIdx fs u m kd]? = some f := ⟨fs[cutIdx fs u m kd], List.getElem?_eq_getElem c1'⟩
        obtain ⟨mv, hmv, im0⟩ := av0.get hf
        have im := ((im0.mono k0).mono hg).mono hg2
        have im' := im
        have okf := okf f (List.mem_of_getElem? hf)
        obtain ⟨xm, em, rfl, Im, hnum, ⟨tsm, esm⟩, ⟨tla, ela⟩⟩ := im'
        repeat (walk_at "ms")
        with_reducible refine r_item_list (x := .ref xm) (O.list lv) (by walk_at "o") (by simp; walk_at "o") (by simpa using hmv) ?_ (by with_unfolding_all rfl)
        repeat (walk_at "ms")
        refine kuser_spec (O.gk G) (hA.le (by decide)) okf.lo fun h11 k11 t11 st11 => ?_
        have O := O.grow st11
        repeat (walk_at "ms")
        rw [ord_le_user okf.lo.u0 okf.lo.u1 K.u0 K.u1]
        refine if_dec (fun c2 => ?_) fun c2 => ?_
        · repeat (walk_at "ms")
          have O := O.swap
          with_reducible refine r_mAppend O.head ?_
          repeat (walk_at "ms")
          with_reducible refine r_item_list (x := .ref xm) (O.list lv) (by walk_at "o") (by simp; walk_at "o") (by simpa using hmv) ?_ (by with_unfolding_all rfl)
          repeat (walk_at "ms")
          with_reducible refine r_newTuple (by simp) fun T h12 fT sT eT => ?_
          obtain ⟨g12, st12, O, eT⟩ := O.newTup fT sT eT
          repeat (walk_at "ms")
          with_reducible refine r_append O (by walk_at "o") fun h13 n13 O => ?_
          repeat (walk_at "ms")
          refine ⟨g12, h13, _, [(D, listOf (its.push (.ref T)) n13)], _, rfl, st12, O.swap, fun b o e => st12 b o (hg2 b o e), e1, e2, ⟨_, e3⟩, e4, its.push (.ref T), n13, rfl, by rw [Array.size_push]; walk_at "o", ?_⟩
          have ep : pickL fss u m kd (1 + i) = [(1 + i, f)] := by unfold pickL pick; rw [hgd, hf]; simp [c2]
          rw [show (1 + (i : Int) * 1) = ((1 + i : Nat) : Int) by walk_at "o"] at eT
          rw [Array.toList_push, ep]
          exact (hall.imp fun _ _ q => q.mono st12).append (.cons ⟨T, _, _, rfl, eT, im0⟩ .nil)
        · repeat (walk_at "ms")
          refine ⟨g2, _, _, [(D, listOf its nF)], _, rfl, fun _ _ e => e, O, hg2, e1, e2, ⟨_, e3⟩, e4, its, nF, rfl, by walk_at "o", ?_⟩
          have ep : pickL fss u m kd (1 + i) = [] := by unfold pickL pick; rw [hgd, hf]; simp [c2]
          rw [ep, List.append_nil]
          exact hall
      · have hn : fs[cutIdx fs u m kd]? = none := List.getElem?_eq_none (by walk_at "o")
        repeat (walk_at "ms")
        refine ⟨g2, _, _, [(D, listOf its nF)], _, rfl, fun _ _ e => e, O, hg2, e1, e2, ⟨_, e3⟩, e4, its, nF, rfl, by walk_at "o", ?_⟩
        have ep : pickL fss u m kd (1 + i) = [] := by unfold pickL pick; rw [hgd, hn]
        rw [ep, List.append_nil]
        exact hall
    · rintro g2 h9 m9 mu9 k9 hg2 ⟨_, e1, e2, ⟨tu, e3⟩, e4, its, nF, rfl, hsz, hall⟩ O
      repeat (walk_at "ms")
      have hhd : fss.headD [] = fs0 := by cases fss with
        | nil => simp at hfs0
        | cons a r => simpa using hfs0
      refine hQ _ _ D its (fun b o e => O.keep b o (hg2 b o (hg b o e))) O.headList ?_
      unfold cands
      rw [hhd]
      exact hall.imp fun _ _ q => q.mono O.keep
    · intro _ _; rfl
  · intro _ _; rfl
end cand
/-- what a cache says of a table -/
structure CE where
  u : Int
  m : Int
  k : Int
  val : Array UInt8
noncomputable def IsCe (h : Heap) (v : Value) : Option CE → Prop
  | none => v = .none
  | some e => ∃ a t1 t2, v = .ref a ∧ IsTup h a #[.bytes (ikB e.u e.m e.k) t1, .bytes e.val t2]
theorem IsCe.mono {h h' : Heap} {v : Value} {c : Option CE} (k : h.StaysIn h') (I : IsCe h v c) : IsCe h' v c := by
  cases c with
  | none => exact I
  | some e => obtain ⟨a, t1, t2, b, d⟩ := I; exact ⟨a, t1, t2, b, stays_tup k d⟩
noncomputable def IsCache (w : World) (h : Heap) (d : Addr) (c : List (Int × Option CE)) : Prop :=
  (d == sysModules) = false ∧ ∃ kvs, h.DictOf (intKind PG w) d kvs ∧ All2 (fun (p : Int × Value) q => p.1 = q.1 ∧ IsCe h p.2 q.2) kvs c
inductive GR where
  | no
  | bad
  | yes (k : Int) (v : Array UInt8)
noncomputable def askC (c : List (Int × Option CE)) (n : Int) : Option (Option CE) := (c.find? fun p => p.1 = n).map (·.2)
/-- what get makes of the tables in turn -/
noncomputable def getR (c : List (Int × Option CE)) (u : Int) : List (Nat × FM) → GR
  | [] => .no
  | f :: r => match askC c f.2.num with
    | some (some e) => if e.k = 7 then .bad else if e.u = u then (if e.k = 0 then .yes 0 #[] else .yes 1 e.val) else getR c u r
    | _ => getR c u r
noncomputable def CeOk (e : CE) : Prop := KeyOk e.u e.m e.k ∧ (e.k = 0 ∨ e.k = 1 ∨ e.k = 7)
theorem valueAt_find {kvs : List (Int × Value)} {c : List (Int × Option CE)} {R : Value → Option CE → Prop} (q : All2 (fun (p : Int × Value) q => p.1 = q.1 ∧ R p.2 q.2) kvs c) {n : Int} {o : Option CE} (e : askC c n = some o) : ∃ v, valueAt kvs n = some v ∧ R v o := by
  unfold askC at e
  unfold valueAt
  induction q with
  | nil => simp at e
  | @cons a b as bs r _ ih =>
    by_cases hb : b.1 = n
    · have ha : a.1 = n := r.1.trans hb
      simp only [List.find?_cons, hb, decide_true, Option.map_some, Option.some.injEq] at e
      refine ⟨a.2, by simp [List.find?_cons, ha], ?_⟩
      rw [← e]; exact r.2
    · have ha : ¬ a.1 = n := fun z => hb (r.1.symm.trans z)
      simp only [List.find?_cons, hb, decide_false] at e
      obtain ⟨v, h1, h2⟩ := ih e
      exact ⟨v, by simpa [List.find?_cons, ha] using h1, h2⟩
theorem getR_none {c : List (Int × Option CE)} {u : Int} {f : Nat × FM} {r : List (Nat × FM)} (h : askC c f.2.num = some none) : getR c u (f :: r) = getR c u r := by rw [getR, h]
theorem getR_bad {c : List (Int × Option CE)} {u : Int} {f : Nat × FM} {r : List (Nat × FM)} {e : CE} (h : askC c f.2.num = some (some e)) (hk : e.k = 7) : getR c u (f :: r) = .bad := by rw [getR, h]; simp [hk]
theorem getR_skip {c : List (Int × Option CE)} {u : Int} {f : Nat × FM} {r : List (Nat × FM)} {e : CE} (h : askC c f.2.num = some (some e)) (hk : ¬ e.k = 7) (hu : ¬ e.u = u) : getR c u (f :: r) = getR c u r := by rw [getR, h]; simp [hk, hu]
theorem getR_del {c : List (Int × Option CE)} {u : Int} {f : Nat × FM} {r : List (Nat × FM)} {e : CE} (h : askC c f.2.num = some (some e)) (hu : e.u = u) (hk : e.k = 0) : getR c u (f :: r) = .yes 0 #[] := by rw [getR, h]; simp [hk, hu]
theorem getR_val {c : List (Int × Option CE)} {u : Int} {f : Nat × FM} {r : List (Nat × FM)} {e : CE} (h : askC c f.2.num = some (some e)) (hu : e.u = u) (hk : e.k = 1) : getR c u (f :: r) = .yes 1 e.val := by rw [getR, h]; simp [hk, hu]
theorem userB_beq {u v : Int} (u0 : 0 ≤ u) (u1 : u < 5) (v0 : 0 ≤ v) (v1 : v < 5) : ((userB u).toList == (userB v).toList) = decide (u = v) := by
  rcases seqIdx u0 u1 with rfl | rfl | rfl | rfl | rfl <;> rcases seqIdx v0 v1 with rfl | rfl | rfl | rfl | rfl <;> decide +kernel
section get
variable {w : World} {A : Around} {s : Shared} {hp base : Heap} {k : Nat} {mg mb : Str → Option Value} {Q : Value → Shared → Prop} {E : Value → Shared → Prop} {outer : List Env}
theorem split_spec (G : GK w mg mb hp) (hA : OkA A 4) {u m kd : Int} {tb : Tok} (Ky : KeyOk u m kd) (hk : kd ≤ 1)
    (hQ : ∀ h' tk a t1 t2 t3, hp.StaysIn h' → IsTup h' a #[.bytes (userB u) t1, .int (0 - m) t2, .int kd t3] → Q (.ref a) (S3 s h' tk)) :
    wpAny (model PG w) A (call (.ref 157) [.bytes (ikB u m kd) tb] []) Q E (S3 s hp k) := by
  refine wpAny_call (enter_ret [("ik", .bytes (ikB u m kd) tb)] G hA (by k_is) (by k_is) (fun _ => BindsTo.of_eq rfl) (locs rfl) ?_)
  intro A' E' h₁ L k₁ hA hL O
  have y1 := Ky.k0; have y2 := Ky.m0
  repeat (walk_at "ms")
  refine kuser_spec (O.gk G) (hA.le (by decide)) Ky fun h2 k2 t2 st2 => ?_
  have O := O.grow st2
  repeat (walk_at "ms")
  rename_i O
  refine ktag_spec (O.gk G) (hA.le (by decide)) Ky fun h3 k3 t3 st3 => ?_
  have O := O.grow st3
  repeat (walk_at "ms")
  rename_i O
  rw [bitAnd_m8, show ((0 - m) * 256 + kd) % 256 = kd by walk_at "o"] at O ⊢
  repeat (walk_at "ms")
  rw [show ((0 - m) * 256 + kd) / 2 ^ Int.toNat 8 = 0 - m by show ((0 - m) * 256 + kd) / 2 ^ 8 = 0 - m; walk_at "o"]
  with_reducible refine r_newTuple (by simp) fun T h12 fT sT eT => ?_
  have O := O.grow sT
  repeat (walk_at "ms")
  exact hQ _ _ _ _ _ _ O.keep eT
theorem get_spec (G : GK w mg mb hp) (hA : OkA A 8) (K : Below A base outer hp) {y x d : Addr} {fss : List (List FM)} {u m : Int} {c : List (Int × Option CE)} {tu tm : Tok} (V : IsVer hp y x fss) (C : IsCache w hp d c) (Ky : KeyOk u m 1)
    (h0 : 0 < fss.length) (hl : fss.length ≤ 100) (hz : ∀ fs ∈ fss, fs.length ≤ 1000) (ok : ∀ fs ∈ fss, ∀ f ∈ fs, f.Ok)
    (cut : ∀ i fs, 0 < i → fss[i]? = some fs → CutOk fs u m 1) (hin : ∀ q ∈ cands fss u m 1, (askC c q.2.num).isSome = true) (hce : ∀ n e, askC c n = some (some e) → CeOk e)
    (hE : getR c u (cands fss u m 1) = .bad → ∀ v s', Rz s hp base outer 56 v s' → E v s')
    (hN : getR c u (cands fss u m 1) = .no → ∀ h' tk a t1 t2, hp.StaysIn h' → IsTup h' a #[.bool false, .int 0 t1, .bytes #[] t2] → Q (.ref a) (S3 s h' tk))
    (hY : ∀ kd v, getR c u (cands fss u m 1) = .yes kd v → ∀ h' tk a t1 t2, hp.StaysIn h' → IsTup h' a #[.bool true, .int kd t1, .bytes v t2] → Q (.ref a) (S3 s h' tk)) :
    wpAny (model PG w) A (call (.ref 494) [.ref y, .ref d, .bytes (userB u) tu, .int (0 - m) tm] []) Q E (S3 s hp k) := by
  refine wpAny_call (enter_p (C := 56) [("self", .ref y), ("cache", .ref d), ("user", .bytes (userB u) tu), ("seq", .int (0 - m) tm)] G hA K hE (by k_is) (by k_is) (fun _ => BindsTo.of_eq rfl) (locs rfl) ?_)
  intro A' E' h₁ L k₁ hA hL O X
  have V' := V
  obtain ⟨es, F, ls, I, ve, hF, hls, IO⟩ := V'
  have ec := ve.other "candidates" (by decide) (by decide) (by decide) (by decide) (by decide) (by decide)
  have y0 := Ky.m0; have y1 := Ky.m1
  have hub := userB_size Ky.u0 Ky.u1
  obtain ⟨lo, kvs, hD, hAll⟩ := C
  repeat (walk_at "ms")
  refine mkikey_spec (O.gk G) (hA.le (by decide)) (by walk_at "o") (by walk_at "o") (by walk_at "o") fun h2 k2 t2 st2 => ?_
  have O := O.grow st2
  rw [show userB u ++ tagB (0 - m) 1 = ikB u m 1 from rfl]
  repeat (walk_at "ms")
  rename_i O
  refine candidates_spec O.keep (O.gk G) hA V Ky h0 hl hz ok cut fun h3 k3 a vs st3 hlv hcs => ?_
  have O := O.grow st3
  obtain ⟨g3, sg3, O, kg3, klist, ktup⟩ := O.all
  have hlv := klist _ _ hlv
  have hcs : All2 (IsCand hp g3) vs.toList (cands fss u m 1) := hcs.imp fun _ _ ⟨a, t, mv, b, c, d⟩ => ⟨a, t, mv, b, ktup _ _ c, d⟩
  have hlen : vs.size = (cands fss u m 1).length := by simpa using hcs.length
  with_reducible refine r_iter_listX hA.handled O hlv X.pass (fun i g' m' mu' => m' "cache" = some (.ref d) ∧ (∃ t, m' "user" = some (.bytes (userB u) t)) ∧ (∃ t, m' "ikey" = some (.bytes (ikB u m 1) t)) ∧ mu' = [] ∧ getR c u ((cands fss u m 1).drop i) = getR c u (cands fss u m 1)) ?_ ?_ ?_
  · exact ⟨rfl, ⟨_, rfl⟩, ⟨_, rfl⟩, rfl, by simp⟩
  · rintro i v g' h7 m7 mu7 p k7 hi hv hg ⟨e1, ⟨tu', e2⟩, ⟨ti, e3⟩, rfl, hR⟩ O
    have sg := fun b o e => hg b o (sg3 b o e)
    have G := G.keeps sg
    have hD := dictK sg hD
    obtain ⟨⟨lv, f⟩, hq, T, tl, mv, rfl, hT, im⟩ := hcs.get' (i := i) (by simpa using hv)
    have im := im.mono sg
    obtain ⟨xm, em, rfl, Im, ⟨tn, enum⟩, -, -⟩ := im
    have hT := O.tup (stays_tup hg hT)
    have hmem := hin _ (List.mem_of_getElem? hq)
    obtain ⟨o, ho⟩ := Option.isSome_iff_exists.mp hmem
    obtain ⟨cv, hcv, hce'⟩ := valueAt_find hAll ho
    have hdrop : (cands fss u m 1).drop i = (lv, f) :: (cands fss u m 1).drop (i + 1) := by
      have hi' : i < (cands fss u m 1).length := by walk_at "o"
      rw [List.drop_eq_getElem_cons hi']
      rw [List.getElem?_eq_getElem hi'] at hq
      rw [Option.some.inj hq]
    rw [hdrop] at hR
    refine r_assignT2 hA.handled O hT fun h8 O => ?_
    repeat (walk_at "ms")
    rename_i O
    refine r_mGet (dictK O.keep hD) ?_
    repeat (walk_at "ms")
    refine r_get2 lo (dictK O.keep hD) ?_
    rw [hcv, Option.getD_some]
    repeat (walk_at "ms")
    rename_i O
    cases o with
    | none =>
      rw [getR_none ho] at hR
      have hce' : cv = .none := hce'
      subst hce'
      with_reducible refine is_none_none ?_
      repeat (walk_at "ms")
      with_reducible refine r_cont ?_
      repeat (walk_at "ms")
      refine ⟨g', _, _, [], _, rfl, fun _ _ e => e, O, trivial, e1, ⟨_, e2⟩, ⟨_, e3⟩, rfl, hR⟩
    | some e =>
      obtain ⟨Te, te1, te2, rfl, hTe⟩ := hce'
      have hTe := stays_tup sg hTe
      with_reducible refine is_none_ne (fun z => nomatch z) ?_
      repeat (walk_at "ms")
      obtain ⟨Ke, hk⟩ := hce _ _ ho
      refine Assign_Tuple ?_ (by rfl) (by rfl)
      repeat (walk_at "ms")
      with_reducible refine r_item_tup (O.tup hTe) (by decide) (by simp) (by simp) rfl ?_ (by with_unfolding_all rfl)
      repeat (walk_at "ms")
      by_cases hk7 : e.k = 7
      · rw [getR_bad ho hk7] at hR
        rw [hk7] at Ke ⊢
        exact split_raises (O.gk G) (hA.le (by decide)) (X.below (O.weak sg)) Ke fun v s' R => X.on hR.symm v s' (R.weak (O.weak sg).keep)
      · have hk1 : e.k ≤ 1 := by walk_at "o"
        refine split_spec (O.gk G) (hA.le (by decide)) Ke hk1 fun h9 k9 T3 t1 t2 t3 st9 hT3 => ?_
        have O := O.grow st9
        refine r_assignT3 hA.handled O hT3 fun h10 O => ?_
        repeat (walk_at "ms")
        rename_i O
        rw [userB_beq Ke.u0 Ke.u1 Ky.u0 Ky.u1]
        refine if_dec (fun hu => ?_) fun hu => ?_
        · by_cases hk0 : e.k = 0
          · rw [getR_del ho hu hk0] at hR
            repeat (walk_at "ms")
            with_reducible refine r_newTuple (by simp) fun T h12 fT sT eT => ?_
            have O := O.grow sT
            repeat (walk_at "ms")
            exact hY _ _ hR.symm _ _ _ _ _ (O.weak sg).keep eT
          · have hk1 : e.k = 1 := by walk_at "o"
            rw [getR_val ho hu hk1] at hR
            repeat (walk_at "ms")
            with_reducible refine r_item_tup (O.tup hTe) (by decide) (by simp) (by simp) rfl ?_ (by with_unfolding_all rfl)
            repeat (walk_at "ms")
            with_reducible refine r_newTuple (by simp) fun T h12 fT sT eT => ?_
            have O := O.grow sT
            repeat (walk_at "ms")
            exact hY _ _ hR.symm _ _ _ _ _ (O.weak sg).keep eT
        · rw [getR_skip ho hk7 hu] at hR
          repeat (walk_at "ms")
          refine ⟨g', _, _, [], _, rfl, fun _ _ e => e, O, trivial, e1, ⟨_, e2⟩, ⟨_, e3⟩, rfl, hR⟩
  · rintro g' h7 m7 mu7 k7 hg ⟨e1, ⟨tu', e2⟩, ⟨ti, e3⟩, rfl, hR⟩ O
    have sg := fun b o e => hg b o (sg3 b o e)
    rw [hlen, List.drop_length] at hR
    repeat (walk_at "ms")
    with_reducible refine r_newTuple (by simp) fun T h12 fT sT eT => ?_
    have O := O.grow sT
    repeat (walk_at "ms")
    exact hN hR.symm _ _ _ _ _ (O.weak sg).keep eT
end get
/-- a table: its number, its level, its writes in order -/
structure TB where
  num : Int
  lev : Nat
  rows : List En
noncomputable def TB.lo (t : TB) : En := t.rows.headD e0
noncomputable def TB.hi (t : TB) : En := t.rows.getLastD e0
noncomputable def TB.fm (t : TB) : FM := ⟨t.num, t.rows.length, t.lo.u, t.lo.m, t.lo.k, t.hi.u, t.hi.m, t.hi.k⟩
structure EnOk (e : En) : Prop where
  u0 : 0 ≤ e.u
  u1 : e.u < 5
  m0 : e.m ≤ -1
  m1 : -1000 < e.m
  k : e.k = 0 ∨ e.k = 1
structure HistOk (hist : List En) : Prop where
  ok : ∀ e ∈ hist, EnOk e
  pw : hist.Pairwise fun a b => b.m < a.m ∧ (a.u = b.u → a.sh ≤ b.sh)
structure TabOk (cnt : Nat) (hist : List En) (t : TB) : Prop where
  ne : t.rows ≠ []
  sorted : t.rows.Pairwise fun a b => lexLt a b = true
  mem : ∀ e ∈ t.rows, e ∈ hist
  lev : t.lev < cnt
  n0 : 0 < t.num
  n1 : t.num < 128
  l0 : 60 ≤ t.num ↔ t.lev = 0
noncomputable def TabRel (t t' : TB) : Prop := t'.lev ≤ t.lev ∧ t.num ≠ t'.num ∧ (t.lev = t'.lev → t.num < t'.num) ∧ (t.lev = t'.lev → 0 < t.lev → ∀ a ∈ t.rows, ∀ b ∈ t'.rows, a.u < b.u) ∧ ∀ a ∈ t.rows, ∀ b ∈ t'.rows, a.u = b.u → a.sh < b.sh
structure TabsOk (cnt : Nat) (hist : List En) (tabs : List TB) : Prop where
  ok : ∀ t ∈ tabs, TabOk cnt hist t
  pw : tabs.Pairwise TabRel
/-- what the law calls covering -/
noncomputable def covL (u m : Int) (t : TB) : Bool := decide (t.lo.u ≤ u ∧ if t.num < 60 then u < t.hi.u ∨ (t.hi.u = u ∧ m ≤ t.hi.m) else u ≤ t.hi.u)
noncomputable def qual (u m : Int) (e : En) : Bool := decide (e.u = u ∧ m ≤ e.m)
noncomputable def atOrBehind (u m : Int) (e : En) : Bool := decide (u < e.u ∨ (e.u = u ∧ m ≤ e.m))
noncomputable def valB (e : En) : Array UInt8 := byteArr [65 + e.u, (0 - e.m) % 251]
noncomputable def ceOf (u m sp : Int) (denies : Bool) (t : TB) : Option CE := match t.rows.find? (atOrBehind u m) with
  | some e => if e.u = u ∨ denies = false then some ⟨e.u, e.m, if t.num = sp then 7 else e.k, valB e⟩ else none
  | none => none
noncomputable def cacheOf (u m sp : Int) (denies : Bool) (tabs : List TB) : List (Int × Option CE) := tabs.map fun t => (t.num, ceOf u m sp denies t)
noncomputable def foundOf (hist : List En) (u m : Int) : Option En := (hist.filter (qual u m)).getLast?
/-- the law's loop down the shelves -/
noncomputable def enEq (a b : En) : Bool := decide (a.u = b.u ∧ a.m = b.m ∧ a.k = b.k ∧ a.sh = b.sh)
theorem enEq_iff {a b : En} : enEq a b = true ↔ a = b := by
  cases a; cases b
  simp [enEq]
noncomputable def memB (e : En) (rows : List En) : Bool := rows.any (enEq e)
theorem memB_iff {e : En} {rows : List En} : memB e rows = true ↔ e ∈ rows := by
  unfold memB
  rw [List.any_eq_true]
  constructor
  · rintro ⟨x, hx, h⟩; rw [enEq_iff.mp h]; exact hx
  · intro h; exact ⟨e, h, enEq_iff.mpr rfl⟩
theorem memB_false {e : En} {rows : List En} (h : e ∉ rows) : memB e rows = false := by
  cases q : memB e rows with
  | false => rfl
  | true => exact absurd (memB_iff.mp q) h
noncomputable def brkStep (u m sp : Int) (denies : Bool) (fd : Option En) (st : Bool × Bool) (t : TB) : Bool × Bool :=
  if covL u m t = true ∧ st.2 = false then (st.1 || (decide (t.num = sp) && (ceOf u m sp denies t).isSome), match fd with | some e => memB e t.rows | none => false) else st
noncomputable def levs (cnt : Nat) (tabs : List TB) : List (List FM) := (List.range cnt).map fun l => (tabs.filter fun t => t.lev = l).map TB.fm
section
variable {cnt : Nat} {hist : List En} {t : TB}
theorem TabOk.lo_mem (T : TabOk cnt hist t) : t.lo ∈ t.rows := by
  have := T.ne
  unfold TB.lo
  cases h : t.rows with
  | nil => exact absurd h this
  | cons a r => exact .head _
theorem TabOk.hi_mem (T : TabOk cnt hist t) : t.hi ∈ t.rows := by
  have := T.ne
  unfold TB.hi
  rw [List.getLastD_eq_getLast?, List.getLast?_eq_some_getLast this]
  exact List.getLast_mem this
theorem lex_lt {a b : En} (h : lexLt a b = true) : a.u < b.u ∨ (a.u = b.u ∧ a.m ≤ b.m) := by
  simp only [lexLt, decide_eq_true_eq] at h; walk_at "o"
theorem TabOk.lo_le (T : TabOk cnt hist t) {e : En} (he : e ∈ t.rows) : t.lo.u < e.u ∨ (t.lo.u = e.u ∧ t.lo.m ≤ e.m) := by
  have hs := T.sorted
  unfold TB.lo
  cases h : t.rows with
  | nil => rw [h] at he; cases he
  | cons a r =>
    rw [h] at he hs
    rcases List.mem_cons.mp he with rfl | he
    · exact .inr ⟨rfl, Int.le_refl _⟩
    · exact lex_lt ((List.pairwise_cons.mp hs).1 e he)
theorem pw_last {α : Type} {R : α → α → Prop} : ∀ {l : List α} (hl : l ≠ []), l.Pairwise R → ∀ e ∈ l, e = l.getLast hl ∨ R e (l.getLast hl)
  | [a], _, _, e, he => .inl (by simpa using he)
  | a :: b :: r, _, h, e, he => by
    have hp := List.pairwise_cons.mp h
    rw [List.getLast_cons (by simp)]
    rcases List.mem_cons.mp he with rfl | he
    · exact .inr (hp.1 _ (List.getLast_mem _))
    · exact pw_last (by simp) hp.2 e he
theorem TabOk.le_hi (T : TabOk cnt hist t) {e : En} (he : e ∈ t.rows) : e.u < t.hi.u ∨ (e.u = t.hi.u ∧ e.m ≤ t.hi.m) := by
  have hs := pw_last T.ne T.sorted e he
  unfold TB.hi
  rw [List.getLastD_eq_getLast?, List.getLast?_eq_some_getLast T.ne]
  rcases hs with q | q
  · rw [← q]; exact .inr ⟨rfl, Int.le_refl _⟩
  · exact lex_lt q
end
theorem icmp_neg {u m k v n l : Int} (hk : k = 0 ∨ k = 1) (hl : l = 1) : icmp u m k v n l < 0 ↔ u < v ∨ (u = v ∧ m < n) := by
  unfold icmp
  subst hl
  split
  · walk_at "o"
  · split
    · walk_at "o"
    · split
      · walk_at "o"
      · split <;> walk_at "o"
/-- a list in order of its keys, cut by key -/
theorem split_keys {α : Type} (key : α → Nat) : ∀ (n : Nat) (X : List α), X.Pairwise (fun a b => key a ≤ key b) → (∀ x ∈ X, key x < n) → X = ((List.range n).map fun l => X.filter fun x => key x = l).flatten
  | 0, X, _, h => by
    cases X with
    | nil => rfl
    | cons a r => exact absurd (h a (.head _)) (Nat.not_lt_zero _)
  | n + 1, X, hp, h => by
    have cut : ∀ Y : List α, Y.Pairwise (fun a b => key a ≤ key b) → (∀ x ∈ Y, key x < n + 1) → Y = (Y.filter fun x => key x < n) ++ Y.filter fun x => key x = n := by
      intro Y
      induction Y with
      | nil => intros; rfl
      | cons a r ih =>
        intro hp h
        have hp' := List.pairwise_cons.mp hp
        have ih := ih hp'.2 fun x hx => h x (.tail _ hx)
        by_cases c : key a < n
        · have c' : ¬ key a = n := by walk_at "o"
          rw [List.filter_cons, List.filter_cons]
          simp only [c, c', decide_true, decide_false, if_true, Bool.false_eq_true, if_false, List.cons_append]
          rw [← ih]
        · have ca : key a = n := by have := h a (.head _); walk_at "o"
          have e0 : (r.filter fun x => key x < n) = [] := by
            rw [List.filter_eq_nil_iff]
            intro x hx
            have := hp'.1 x hx
            simp; walk_at "o"
          rw [List.filter_cons, List.filter_cons]
          rw [e0] at ih ⊢
          simp only [ca, Nat.lt_irrefl, decide_true, decide_false, if_true, Bool.false_eq_true, if_false, List.nil_append] at ih ⊢
          rw [← ih]
    have e := cut X hp h
    have q := split_keys key n (X.filter fun x => key x < n) (hp.filter _) (fun x hx => by simpa using (List.mem_filter.mp hx).2)
    rw [List.range_succ, List.map_append, List.flatten_append]
    have hmap : ((List.range n).map fun l => X.filter fun x => key x = l) = (List.range n).map fun l => (X.filter fun x => key x < n).filter fun x => key x = l := by
      refine List.map_congr_left fun l hl => ?_
      rw [List.filter_filter]
      refine List.filter_congr fun x _ => ?_
      have : l < n := List.mem_range.mp hl
      by_cases c : key x = l
      · simp [c, this]
      · simp [c]
    rw [hmap, ← q]
    simpa using e
/-- what a deeper level gives -/
theorem pick_eq {cnt : Nat} {hist : List En} {u m : Int} (H : HistOk hist) : ∀ {xs : List TB}, (∀ t ∈ xs, TabOk cnt hist t) → (∀ t ∈ xs, t.num < 60) → xs.Pairwise (fun t t' => ∀ a ∈ t.rows, ∀ b ∈ t'.rows, a.u < b.u) →
    pick (xs.map TB.fm) u m 1 = ((xs.reverse.filter (covL u m)).map TB.fm).head? ∧ (xs.reverse.filter (covL u m)).length ≤ 1
  | [], _, _, _ => ⟨rfl, Nat.zero_le _⟩
  | x :: xs, hok, hn, hp => by
    have hp' := List.pairwise_cons.mp hp
    have X := hok x (.head _)
    have ih := pick_eq (cnt := cnt) (u := u) (m := m) H (xs := xs) (fun t ht => hok t (.tail _ ht)) (fun t ht => hn t (.tail _ ht)) hp'.2
    have hx60 := hn x (.head _)
    have hkk := (H.ok _ (X.mem _ X.hi_mem)).k
    rw [List.reverse_cons, List.filter_append]
    by_cases c : icmp x.hi.u x.hi.m x.hi.k u m 1 < 0
    · have c2 := (icmp_neg hkk rfl).mp c
      have cov : covL u m x = false := by
        unfold covL
        rw [decide_eq_false_iff_not, if_pos hx60]
        walk_at "o"
      have e1 : pick ((x :: xs).map TB.fm) u m 1 = pick (xs.map TB.fm) u m 1 := by
        unfold pick cutIdx
        have cc : decide (icmp x.fm.hu x.fm.hm x.fm.hk u m 1 < 0) = true := decide_eq_true c
        rw [List.map_cons, List.takeWhile_cons, if_pos cc, List.length_cons, List.getElem?_cons_succ]
      rw [e1, List.filter_cons_of_neg (by rw [cov]; simp)]
      simpa using ih
    · have c2 : ¬ (x.hi.u < u ∨ (x.hi.u = u ∧ x.hi.m < m)) := fun z => c ((icmp_neg hkk rfl).mpr z)
      have e1 : pick ((x :: xs).map TB.fm) u m 1 = if x.lo.u ≤ u then some x.fm else none := by
        unfold pick cutIdx
        have cc : ¬ decide (icmp x.fm.hu x.fm.hm x.fm.hk u m 1 < 0) = true := by rw [decide_eq_true_eq]; exact c
        rw [List.map_cons, List.takeWhile_cons, if_neg cc]
        rfl
      have e2 : xs.reverse.filter (covL u m) = [] := by
        rw [List.filter_eq_nil_iff]
        intro t ht
        have ht := List.mem_reverse.mp ht
        have := hp'.1 t ht x.hi X.hi_mem t.lo (hok t (.tail _ ht)).lo_mem
        unfold covL
        rw [decide_eq_true_eq]
        intro z
        have := z.1
        walk_at "o"
      rw [e1, e2, List.nil_append]
      by_cases d : x.lo.u ≤ u
      · have cov : covL u m x = true := by
          unfold covL
          rw [decide_eq_true_eq, if_pos hx60]
          walk_at "o"
        rw [if_pos d, List.filter_cons_of_pos cov]
        simp
      · have cov : covL u m x = false := by
          unfold covL
          rw [decide_eq_false_iff_not]
          walk_at "o"
        rw [if_neg d, List.filter_cons_of_neg (by rw [cov]; simp)]
        simp
theorem head_one {α β : Type} (f : α → β) : ∀ {l : List α}, l.length ≤ 1 → (match (l.map f).head? with | some x => [x] | none => []) = l.map f
  | [], _ => rfl
  | [a], _ => rfl
  | _ :: _ :: _, h => by simp at h
/-- the candidates are the covering tables, the newest first -/
theorem cands_eq {cnt : Nat} {hist : List En} {tabs : List TB} {u m : Int} (h1 : 0 < cnt) (H : HistOk hist) (T : TabsOk cnt hist tabs) :
    cands (levs cnt tabs) u m 1 = (tabs.reverse.filter (covL u m)).map fun t => (t.lev, t.fm) := by
  have sk := split_keys TB.lev cnt tabs.reverse (by rw [List.pairwise_reverse]; exact T.pw.imp fun h => h.1) (fun t ht => (T.ok t (List.mem_reverse.mp ht)).lev)
  obtain ⟨n, rfl⟩ : ∃ n, cnt = n + 1 := ⟨cnt - 1, by walk_at "o"⟩
  have per : ∀ l, l < n → pickL (levs (n + 1) tabs) u m 1 (1 + l) = ((tabs.reverse.filter fun t => t.lev = 1 + l).filter (covL u m)).map fun t => (t.lev, t.fm) := by
    intro l hl
    have eg : (levs (n + 1) tabs).getD (1 + l) [] = (tabs.filter fun t => t.lev = 1 + l).map TB.fm := by
      unfold levs
      rw [List.getD_eq_getElem?_getD, List.getElem?_map, List.getElem?_range (by walk_at "o")]
      rfl
    unfold pickL
    rw [eg]
    have pe := pick_eq (u := u) (m := m) H (xs := tabs.filter fun t => t.lev = 1 + l) (fun t ht => T.ok t (List.mem_filter.mp ht).1) (fun t ht => by
      have o := T.ok t (List.mem_filter.mp ht).1
      have hl : t.lev = 1 + l := by simpa using (List.mem_filter.mp ht).2
      have := o.l0
      walk_at "o") (by
      refine List.Pairwise.imp_of_mem (fun {a b} ha hb hr => ?_) (T.pw.filter _)
      have h1 : a.lev = 1 + l := by simpa using (List.mem_filter.mp ha).2
      have h2 : b.lev = 1 + l := by simpa using (List.mem_filter.mp hb).2
      exact hr.2.2.2.1 (by walk_at "o") (by walk_at "o"))
    rw [← List.filter_reverse] at pe
    rw [pe.1]
    have hlv : ∀ t ∈ (tabs.reverse.filter fun t => t.lev = 1 + l).filter (covL u m), t.lev = 1 + l := fun t ht => by simpa using (List.mem_filter.mp (List.mem_filter.mp ht).1).2
    generalize (tabs.reverse.filter fun t => t.lev = 1 + l).filter (covL u m) = L at pe hlv
    match L, pe.2, hlv with
    | [], _, _ => rfl
    | [a], _, hlv => simp [hlv a (.head _)]
    | _ :: _ :: _, h, _ => simp at h
  have zero : (((levs (n + 1) tabs).headD []).reverse.filter (covers u)).map (fun f => (0, f)) = ((tabs.reverse.filter fun t => t.lev = 0).filter (covL u m)).map fun t => (t.lev, t.fm) := by
    have eh : (levs (n + 1) tabs).headD [] = (tabs.filter fun t => t.lev = 0).map TB.fm := by
      unfold levs
      rw [List.range_succ_eq_map]
      rfl
    rw [eh, ← List.map_reverse, List.filter_map, List.map_map, ← List.filter_reverse]
    have hc : ∀ t ∈ tabs.reverse.filter (fun t => t.lev = 0), (covers u ∘ TB.fm) t = covL u m t := fun t ht => by
      have hl : t.lev = 0 := by simpa using (List.mem_filter.mp ht).2
      have o := (T.ok t (List.mem_reverse.mp (List.mem_filter.mp ht).1)).l0
      show covers u t.fm = _
      unfold covers covL
      have : ¬ t.num < 60 := by walk_at "o"
      simp only [this, if_false]
      rfl
    rw [List.filter_congr hc]
    refine List.map_congr_left fun t ht => ?_
    have hl : t.lev = 0 := by simpa using (List.mem_filter.mp (List.mem_filter.mp ht).1).2
    show ((0 : Nat), t.fm) = (t.lev, t.fm)
    rw [hl]
  unfold cands
  rw [zero]
  have hlen : (levs (n + 1) tabs).length - 1 = n := by unfold levs; simp
  rw [hlen]
  have em : ((List.range n).map fun i => pickL (levs (n + 1) tabs) u m 1 (1 + i)) = (List.range n).map fun i => ((tabs.reverse.filter fun t => t.lev = 1 + i).filter (covL u m)).map fun t => (t.lev, t.fm) :=
    List.map_congr_left fun i hi => per i (List.mem_range.mp hi)
  rw [em]
  conv => rhs; rw [sk]
  rw [List.range_succ_eq_map, List.map_cons, List.flatten_cons, List.filter_append, List.map_append]
  congr 1
  rw [List.filter_flatten, List.map_flatten, List.map_map, List.map_map, List.map_map]
  congr 1
  refine List.map_congr_left fun i _ => ?_
  simp only [Function.comp, Nat.succ_eq_one_add]
theorem find_first {p : En → Bool} {x : En} : ∀ {rows : List En}, rows.Pairwise (fun a b => lexLt a b = true) → rows.find? p = some x → p x = true ∧ x ∈ rows ∧ ∀ e ∈ rows, p e = true → e = x ∨ lexLt x e = true
  | [], _, h => by cases h
  | a :: r, hp, h => by
    have hp' := List.pairwise_cons.mp hp
    rw [List.find?_cons] at h
    cases c : p a with
    | true =>
      rw [c] at h
      cases h
      refine ⟨c, .head _, fun e he _ => ?_⟩
      rcases List.mem_cons.mp he with rfl | he
      · exact .inl rfl
      · exact .inr (hp'.1 e he)
    | false =>
      rw [c] at h
      obtain ⟨h1, h2, h3⟩ := find_first hp'.2 h
      refine ⟨h1, .tail _ h2, fun e he q => ?_⟩
      rcases List.mem_cons.mp he with rfl | he
      · rw [c] at q; cases q
      · exact h3 e he q
theorem askC_of {tabs : List TB} {u m sp : Int} {denies : Bool} : ∀ {l : List TB}, l.Pairwise TabRel → ∀ {t : TB}, t ∈ l → askC (cacheOf u m sp denies l) t.num = some (ceOf u m sp denies t)
  | [], _, _, h => nomatch h
  | a :: r, hp, t, h => by
    have hp' := List.pairwise_cons.mp hp
    unfold askC cacheOf
    rw [List.map_cons, List.find?_cons]
    rcases List.mem_cons.mp h with rfl | h
    · simp
    · have hne : ¬ a.num = t.num := (hp'.1 t h).2.1
      rw [decide_eq_false hne]
      exact askC_of (tabs := tabs) hp'.2 h
theorem hist_rel {hist : List En} (H : HistOk hist) {a b : En} (ha : a ∈ hist) (hb : b ∈ hist) : a = b ∨ (b.m < a.m ∧ (a.u = b.u → a.sh ≤ b.sh)) ∨ (a.m < b.m ∧ (b.u = a.u → b.sh ≤ a.sh)) := by
  obtain ⟨i, hi, rfl⟩ := List.getElem_of_mem ha
  obtain ⟨j, hj, rfl⟩ := List.getElem_of_mem hb
  have pw := List.pairwise_iff_getElem.mp H.pw
  rcases Nat.lt_trichotomy i j with c | c | c
  · exact .inr (.inl (pw i j hi hj c))
  · subst c; exact .inl rfl
  · exact .inr (.inr (pw j i hj hi c))
theorem found_some {hist : List En} (H : HistOk hist) {u m : Int} {e : En} (h : foundOf hist u m = some e) : e ∈ hist ∧ (e.u = u ∧ m ≤ e.m) ∧ ∀ x ∈ hist, x.u = u → m ≤ x.m → e.m ≤ x.m ∧ x.sh ≤ e.sh := by
  unfold foundOf at h
  have hm := List.mem_of_getLast? h
  have hne : hist.filter (qual u m) ≠ [] := fun z => by rw [z] at hm; cases hm
  have hl : (hist.filter (qual u m)).getLast hne = e := by
    rw [List.getLast?_eq_some_getLast hne] at h
    exact Option.some.inj h
  have hm' := List.mem_filter.mp hm
  have hq : e.u = u ∧ m ≤ e.m := by simpa [qual] using hm'.2
  refine ⟨hm'.1, hq, fun x hx h1 h2 => ?_⟩
  have := pw_last hne (H.pw.filter _) x (List.mem_filter.mpr ⟨hx, by simp [qual, h1, h2]⟩)
  rw [hl] at this
  rcases this with rfl | q
  · exact ⟨Int.le_refl _, Int.le_refl _⟩
  · exact ⟨Int.le_of_lt q.1, q.2 (h1.trans hq.1.symm)⟩
theorem found_none {hist : List En} {u m : Int} (h : foundOf hist u m = none) {x : En} (hx : x ∈ hist) (h1 : x.u = u) (h2 : m ≤ x.m) : False := by
  unfold foundOf at h
  have := List.getLast?_eq_none_iff.mp h
  have hm : x ∈ hist.filter (qual u m) := List.mem_filter.mpr ⟨hx, by simp [qual, h1, h2]⟩
  rw [this] at hm
  cases hm
section
variable {cnt : Nat} {hist : List En} {t : TB} {u m sp : Int} {denies : Bool}
/-- a table that has the found write covers, and its entry is that write's -/
theorem has_covers (T : TabOk cnt hist t) {e : En} (he : e ∈ t.rows) (h1 : e.u = u) (h2 : m ≤ e.m) : covL u m t = true := by
  have a := T.lo_le he
  have b := T.le_hi he
  unfold covL
  rw [decide_eq_true_eq]
  refine ⟨by walk_at "o", ?_⟩
  split <;> walk_at "o"
theorem ce_of_found (H : HistOk hist) (T : TabOk cnt hist t) {e : En} (hf : foundOf hist u m = some e) (he : e ∈ t.rows) : ceOf u m sp denies t = some ⟨e.u, e.m, if t.num = sp then 7 else e.k, valB e⟩ := by
  obtain ⟨f1, f2, f3⟩ := found_some H hf
  have hp : atOrBehind u m e = true := by simp [atOrBehind, f2]
  obtain ⟨x, hx⟩ : ∃ x, t.rows.find? (atOrBehind u m) = some x := by
    cases q : t.rows.find? (atOrBehind u m) with
    | some x => exact ⟨x, rfl⟩
    | none => exact absurd hp (List.find?_eq_none.mp q e he)
  obtain ⟨h1, h2, h3⟩ := find_first T.sorted hx
  have hxe : x = e := by
    rcases h3 e he hp with q | q
    · exact q.symm
    · have l1 := lex_lt q
      have l2 : u < x.u ∨ (x.u = u ∧ m ≤ x.m) := by simpa [atOrBehind] using h1
      have l3 : x.u = u ∧ m ≤ x.m ∧ x.m ≤ e.m := by walk_at "o"
      have := f3 x (T.mem x h2) l3.1 l3.2.1
      rcases hist_rel H (T.mem x h2) f1 with q | q | q
      · exact q
      · walk_at "o"
      · walk_at "o"
  subst hxe
  unfold ceOf
  rw [hx]
  simp [f2]
theorem ce_some (T : TabOk cnt hist t) {ce : CE} (h : ceOf u m sp denies t = some ce) : ∃ x ∈ t.rows, ce = ⟨x.u, x.m, if t.num = sp then 7 else x.k, valB x⟩ ∧ atOrBehind u m x = true := by
  unfold ceOf at h
  cases q : t.rows.find? (atOrBehind u m) with
  | none => rw [q] at h; cases h
  | some x =>
    rw [q] at h
    obtain ⟨h1, h2, _⟩ := find_first T.sorted q
    simp only at h
    split at h
    · exact ⟨x, h2, (Option.some.inj h).symm, h1⟩
    · cases h
end
noncomputable def wantR : Option En → GR
  | none => .no
  | some e => if e.k = 0 then .yes 0 #[] else .yes 1 (valB e)
theorem brk_ended {u m sp : Int} {denies : Bool} {fd : Option En} : ∀ (S : List TB) (b : Bool), S.foldl (brkStep u m sp denies fd) (b, true) = (b, true)
  | [], _ => rfl
  | t :: S, b => by
    rw [List.foldl_cons, show brkStep u m sp denies fd (b, true) t = (b, true) by unfold brkStep; simp]
    exact brk_ended S b
theorem brk_true {u m sp : Int} {denies : Bool} {fd : Option En} : ∀ (S : List TB) (d : Bool), (S.foldl (brkStep u m sp denies fd) (true, d)).1 = true
  | [], _ => rfl
  | t :: S, d => by
    rw [List.foldl_cons]
    have : ∃ d', brkStep u m sp denies fd (true, d) t = (true, d') := by
      unfold brkStep
      split
      · exact ⟨_, rfl⟩
      · exact ⟨_, rfl⟩
    obtain ⟨d', e⟩ := this
    rw [e]
    exact brk_true S d'
/-- the law's walk down the shelves says just what get does -/
theorem get_plain {cnt : Nat} {hist : List En} {tabs : List TB} {u m sp : Int} {denies : Bool} (hsp : ∀ x ∈ hist, True) (H : HistOk hist) (T : TabsOk cnt hist tabs) : ∀ (S : List TB), (∀ t ∈ S, t ∈ tabs) → S.Pairwise (fun a b => TabRel b a) →
    (∀ e, foundOf hist u m = some e → ∃ t ∈ S, e ∈ t.rows) →
    (((S.foldl (brkStep u m sp denies (foundOf hist u m)) (false, false)).1 = true ↔ getR (cacheOf u m sp denies tabs) u ((S.filter (covL u m)).map fun t => (t.lev, t.fm)) = .bad) ∧
      (getR (cacheOf u m sp denies tabs) u ((S.filter (covL u m)).map fun t => (t.lev, t.fm)) ≠ .bad → getR (cacheOf u m sp denies tabs) u ((S.filter (covL u m)).map fun t => (t.lev, t.fm)) = wantR (foundOf hist u m)))
  | [], _, _, hf => by
    have : foundOf hist u m = none := by
      cases q : foundOf hist u m with
      | none => rfl
      | some e => obtain ⟨t, ht, _⟩ := hf e q; cases ht
    rw [this]
    exact ⟨⟨fun h => (by cases h), fun h => (by cases h)⟩, fun _ => rfl⟩
  | t :: S, hS, hp, hf => by
    have hp' := List.pairwise_cons.mp hp
    have ht := hS t (.head _)
    have O := T.ok t ht
    have ih := get_plain (u := u) (m := m) (sp := sp) (denies := denies) hsp H T S (fun x hx => hS x (.tail _ hx)) hp'.2
    rw [List.foldl_cons]
    by_cases hc : covL u m t = true
    · have hst : brkStep u m sp denies (foundOf hist u m) (false, false) t = ((decide (t.num = sp) && (ceOf u m sp denies t).isSome), match foundOf hist u m with | some e => memB e t.rows | none => false) := by
        unfold brkStep; simp [hc]
      rw [hst, List.filter_cons_of_pos hc, List.map_cons]
      have ask := askC_of (tabs := tabs) (u := u) (m := m) (sp := sp) (denies := denies) T.pw ht
      have ask' : askC (cacheOf u m sp denies tabs) ((t.lev, t.fm) : Nat × FM).2.num = some (ceOf u m sp denies t) := ask
      have notin : ceOf u m sp denies t = none ∨ (∃ ce, ceOf u m sp denies t = some ce ∧ ¬ ce.u = u) → ∀ e, foundOf hist u m = some e → e ∉ t.rows := by
        intro h e he hm
        have z := ce_of_found (sp := sp) (denies := denies) H O he hm
        have := (found_some H he).2.1.1
        rcases h with h | ⟨ce, h, hne⟩
        · rw [h] at z; cases z
        · rw [h] at z; cases z; exact hne this
      have skip : (∀ e, foundOf hist u m = some e → e ∉ t.rows) → (match foundOf hist u m with | some e => memB e t.rows | none => false) = false ∧ ∀ e, foundOf hist u m = some e → ∃ t ∈ S, e ∈ t.rows := by
        intro h
        constructor
        · cases q : foundOf hist u m with
          | none => rfl
          | some e => exact memB_false (h e q)
        · intro e he
          obtain ⟨x, hx, hm⟩ := hf e he
          rcases List.mem_cons.mp hx with rfl | hx
          · exact absurd hm (h e he)
          · exact ⟨x, hx, hm⟩
      cases hce : ceOf u m sp denies t with
      | none =>
        rw [getR_none (ask'.trans (by rw [hce]))]
        obtain ⟨s1, s2⟩ := skip (notin (.inl hce))
        rw [s1]
        simpa using ih s2
      | some ce =>
        have ask2 := ask'.trans (by rw [hce])
        obtain ⟨x, hx, rfl, hab⟩ := ce_some O hce
        by_cases hsp : t.num = sp
        · rw [getR_bad ask2 (by simp [hsp])]
          simp only [hsp, decide_true, Option.isSome_some, Bool.and_self]
          exact ⟨⟨fun _ => trivial, fun _ => brk_true _ _⟩, fun h => absurd rfl h⟩
        · have hk := (H.ok x (O.mem x hx)).k
          have hk7 : ¬ (if t.num = sp then (7 : Int) else x.k) = 7 := by rw [if_neg hsp]; walk_at "o"
          by_cases hu : x.u = u
          · have hmx : m ≤ x.m := by
              have : u < x.u ∨ (x.u = u ∧ m ≤ x.m) := by simpa [atOrBehind] using hab
              walk_at "o"
            obtain ⟨e, he⟩ : ∃ e, foundOf hist u m = some e := by
              cases q : foundOf hist u m with
              | none => exact (found_none q (O.mem x hx) hu hmx).elim
              | some e => exact ⟨e, rfl⟩
            obtain ⟨f1, f2, f3⟩ := found_some H he
            have hle := f3 x (O.mem x hx) hu hmx
            have hin : e ∈ t.rows := by
              obtain ⟨y, hy, hm⟩ := hf e he
              rcases List.mem_cons.mp hy with rfl | hy
              · exact hm
              · have := (hp'.1 y hy).2.2.2.2 e hm x hx (f2.1.trans hu.symm)
                walk_at "o"
            have z := ce_of_found (sp := sp) (denies := denies) H O he hin
            rw [hce] at z
            have z := Option.some.inj z
            have zu : x.u = e.u := congrArg CE.u z
            have zm : x.m = e.m := congrArg CE.m z
            have hxe : x = e := by
              rcases hist_rel H (O.mem x hx) f1 with q | q | q
              · exact q
              · walk_at "o"
              · walk_at "o"
            subst hxe
            rw [he]
            simp only [memB_iff.mpr hin, hsp, decide_false, Bool.false_and]
            rw [brk_ended]
            rcases hk with hk | hk
            · rw [getR_del ask2 hu (by simp [hsp, hk])]
              refine ⟨⟨fun h => (by cases h), fun h => (by cases h)⟩, fun _ => ?_⟩
              simp [wantR, hk]
            · rw [getR_val ask2 hu (by simp [hsp, hk])]
              refine ⟨⟨fun h => (by cases h), fun h => (by cases h)⟩, fun _ => ?_⟩
              simp [wantR, hk]
          · rw [getR_skip ask2 hk7 hu]
            obtain ⟨s1, s2⟩ := skip (notin (.inr ⟨_, hce, hu⟩))
            rw [s1]
            simpa [hsp] using ih s2
    · have hc' : covL u m t = false := by simpa using hc
      rw [show brkStep u m sp denies (foundOf hist u m) (false, false) t = (false, false) by unfold brkStep; simp [hc'], List.filter_cons_of_neg hc]
      refine ih fun e he => ?_
      obtain ⟨x, hx, hm⟩ := hf e he
      rcases List.mem_cons.mp hx with rfl | hx
      · have f2 := (found_some H he).2.1
        exact absurd (has_covers O hm f2.1 f2.2) hc
      · exact ⟨x, hx, hm⟩
theorem eqAt_int {A : Around} {s : Shared} (x y : Int) (t u : Tok) : SeqAt.EqAt A s (.int x t) (.int y u) (x == y) := fun _ _ _ _ q => wpAny_eqBool_int q
theorem eqAt_bytes {A : Around} {s : Shared} (x : Array UInt8) (t u : Tok) : SeqAt.EqAt A s (.bytes x t) (.bytes x u) true := fun prog w E Q q => by
  unfold eqBool
  show wpAny _ _ (if (Value.bytes x t == Value.bytes x u) = true then _ else _) Q E s
  by_cases hab : (Value.bytes x t == Value.bytes x u) = true
  · rw [if_pos hab]
    exact wpAny_bind (wpAny_rule (wpAny_pure q))
  · rw [if_neg hab]
    refine wpAny_bind ?_
    show wpAny _ _ (compareOp .Eq (.bytes x t) (.bytes x u)) _ _ _
    refine eq_bytes (wpAny_truthy_bool ?_)
    simpa using q
theorem tupEq {A : Around} {s : Shared} {l b : Addr} {a c : En} {t1 t2 t3 t4 u1 u2 u3 u4 : Tok} (hu : A.units < cLine) (h1 : IsTup s.heap l #[.int a.u t1, .int a.m t2, .int a.k t3, .int a.sh t4]) (h2 : IsTup s.heap b #[.int c.u u1, .int c.m u2, .int c.k u3, .int c.sh u4]) (hne : l ≠ b) :
    SeqAt.EqAt A s (.ref l) (.ref b) (enEq c a) := by
  have h := SeqAt.EqAt.of_refs hne (SeqAt.RcAt.tuples (e := fun j => [a.u == c.u, a.m == c.m, a.k == c.k, a.sh == c.sh].getD j true) h1 h2 hu fun j j1 j2 => ?_)
  · have e : enEq c a = ((List.range (min 4 4)).all (fun j => [a.u == c.u, a.m == c.m, a.k == c.k, a.sh == c.sh].getD j true) && (4 : Nat) == 4) := by
      have : (List.range (min 4 4)) = [0, 1, 2, 3] := by decide
      rw [this]
      unfold enEq
      simp only [List.all_cons, List.all_nil, Bool.and_true, beq_self_eq_true]
      show decide _ = ((a.u == c.u) && ((a.m == c.m) && ((a.k == c.k) && (a.sh == c.sh))))
      rw [Bool.eq_iff_iff]
      simp only [decide_eq_true_eq, Bool.and_eq_true, beq_iff_eq]
      constructor
      · rintro ⟨r1, r2, r3, r4⟩; exact ⟨r1.symm, r2.symm, r3.symm, r4.symm⟩
      · rintro ⟨r1, r2, r3, r4⟩; exact ⟨r1.symm, r2.symm, r3.symm, r4.symm⟩
    rw [e]
    exact h
  · match j, j1 with
    | 0, _ => exact eqAt_int _ _ _ _
    | 1, _ => exact eqAt_int _ _ _ _
    | 2, _ => exact eqAt_int _ _ _ _
    | 3, _ => exact eqAt_int _ _ _ _
    | n + 4, h => exact absurd h (by simp)
section more
variable {w : World} {A : Around} {E : Value → Shared → Prop} {s : Shared} {h g : Heap} {L : Addr} {m mg mb : Str → Option Value} {mu : List (Addr × Obj)} {k : Nat}
theorem r_min {Q : Value → Shared → Prop} {a b : Int} {t u : Tok} (hh : A.handled = none) (q : ∀ h' tk k', h.StaysIn h' → Q (.int (min a b) tk) (S3 s h' k')) : wpAny (model PG w) A (call (.builtin "min") [.int a t, .int b u] []) Q E (S3 s h k) := by
  refine min_two_ints (s := S3 s h k) hh fun h' tk hk => ?_
  by_cases c : b < a
  · rw [if_pos c]; have := q h' u tk hk; rw [show min a b = b by walk_at "o"] at this; exact this
  · rw [if_neg c]; have := q h' t tk hk; rw [show min a b = a by walk_at "o"] at this; exact this
theorem r_max {Q : Value → Shared → Prop} {a b : Int} {t u : Tok} (hh : A.handled = none) (q : ∀ h' tk k', h.StaysIn h' → Q (.int (max a b) tk) (S3 s h' k')) : wpAny (model PG w) A (call (.builtin "max") [.int a t, .int b u] []) Q E (S3 s h k) := by
  refine max_two_ints (s := S3 s h k) hh fun h' tk hk => ?_
  by_cases c : b > a
  · rw [if_pos c]; have := q h' u tk hk; rw [show max a b = b by walk_at "o"] at this; exact this
  · rw [if_neg c]; have := q h' t tk hk; rw [show max a b = a by walk_at "o"] at this; exact this
/-- a write in a list of writes -/
theorem r_in {Q : Value → Shared → Prop} {l x : Addr} {vs : List Value} {es : List En} {e : En} {t1 t2 t3 t4 : Tok} (hA : OkA A 1) (hl : h.IsList l vs.toArray) (hv : All2 (IsEnt h) vs es) (hx : IsTup h x #[.int e.u t1, .int e.m t2, .int e.k t3, .int e.sh t4])
    (q : Q (.bool (es.any (enEq e))) (S3 s h k)) : wpAny (model PG w) A (compareOp .In (.ref x) (.ref l)) Q E (S3 s h k) := by
  refine SeqAt.in_listAt (s := S3 s h k) (entP h (enEq e)) hl (fun y hy => ?_) ?_
  · have hy : y ∈ vs := by simpa using hy
    obtain ⟨f, hf, I⟩ := ent_mem hv hy
    rw [entP_eq I]
    obtain ⟨a, u1, u2, u3, u4, rfl, ha⟩ := I
    by_cases hax : a = x
    · subst hax
      have : e = f := IsEnt.uniq ⟨a, t1, t2, t3, t4, rfl, hx⟩ ⟨a, u1, u2, u3, u4, rfl, ha⟩
      subst this
      have e1 : enEq e e = true := by simp [enEq]
      rw [e1]
      exact SeqAt.EqAt.same _
    · exact tupEq (s := S3 s h k) (by have := hA.units; show A.units + 1 < _; walk_at "o") ha hx hax
  · have : (vs.toArray.any (entP h (enEq e))) = es.any (enEq e) := by
      rw [List.any_toArray]
      clear q hl
      induction hv with
      | nil => rfl
      | cons a _ ih => rw [List.any_cons, List.any_cons, entP_eq a, ih]
    rw [this]; exact q
theorem r_ne_same3 {Q : Value → Shared → Prop} {a b : Addr} {x : Bool} {y : Int} {z : Array UInt8} {t1 t2 u1 u2 : Tok} (hA : OkA A 1) (h1 : IsTup h a #[.bool x, .int y t1, .bytes z t2]) (h2 : IsTup h b #[.bool x, .int y u1, .bytes z u2]) (q : Q (.bool false) (S3 s h k)) :
    wpAny (model PG w) A (compareOp .NotEq (.ref a) (.ref b)) Q E (S3 s h k) := by
  show wpAny _ _ (richCompare .NotEq (.ref a) (.ref b)) _ _ _
  refine SeqAt.RcNeAt.tuples (s := S3 s h k) (e := fun _ => true) h1 h2 hA.cRoom (fun j j1 j2 => ?_) _ _ _ _ q
  match j, j1 with
  | 0, _ => exact SeqAt.EqAt.same _
  | 1, _ => have := eqAt_int (A := A.in1) (s := S3 s h k) y y t1 u1; rw [beq_self_eq_true] at this; exact this
  | 2, _ => exact eqAt_bytes _ _ _
  | n + 3, h => exact absurd h (by simp)
theorem r_isbool {Q : Value → Shared → Prop} {x : Bool} (q : Q (.bool true) (S3 s h k)) : wpAny (model PG w) A (call (.builtin "isinstance") [.bool x, .type "bool"] []) Q E (S3 s h k) :=
  call_isinstance_yes (s := S3 s h k) (Tx := "bool") rfl (by kernel_rfl) (by rw [isSubtype_type]; kernel_rfl) q
theorem r_addL {Q : Value → Shared → Prop} {a b : Addr} {xs ys : List Value} (O : Own g L h m mu) (ha : h.IsList a xs.toArray) (hb : h.IsList b ys.toArray) (hz : xs.length + ys.length ≤ 1000000)
    (q : ∀ D n h', h.get? D = none → (∀ b o, b ≠ L → h.get? b = some o → h'.get? b = some o) → Own g L h' m ((D, listOf (xs ++ ys).toArray n) :: mu) → Q (.ref D) (S3 s h' k)) : wpAny (model PG w) A (binaryOp .Add (.ref a) (.ref b)) Q E (S3 s h k) := by
  refine add_lists (s := S3 s h k) (vs := xs) (ws := ys) (h₀ := {}) (L := L) (m := m) (news := listing h [L]) O.fr (news_listing h L [L] (by simp)) ha hb (fun h' F N => ?_) (by rw [sizeLine_eq]; walk_at "o")
  have kp : ∀ b o, b ≠ L → h.get? b = some o → h'.get? b = some o := fun b o hb e => (N (b, o) (.tail _ (mem_listing.mpr ⟨by simp [hb], e⟩))).1
  have D0 := get_size h
  have hD := N (h.objs.size, _) (.head _)
  exact q h.objs.size 0 h' D0 kp ⟨F.ns, fun b o e => kp b o (O.ne e) (O.keep b o e), O.off, fun p hp => (by
      rcases List.mem_cons.mp hp with rfl | hp
      · exact ⟨hD.1, hD.2.1, O.fresh D0⟩
      · exact ⟨kp _ _ (O.mus p hp).2.1 (O.mus p hp).1, (O.mus p hp).2⟩), List.nodup_cons.mpr ⟨O.neMu D0, O.nd⟩⟩
end more
theorem slice_upto (items : Array Value) (b : Nat) : slicePick items none (some (b : Int)) none = (items.toList.take b).toArray := by
  by_cases h : b ≤ items.size
  · exact slicePick_upto items b h
  · have e : slicePick items none (some (b : Int)) none = slicePick items none (some (items.size : Int)) none := by
      unfold slicePick sliceBounds
      have h1 : ¬ (b : Int) < 0 := by walk_at "o"
      have h2 : ¬ (items.size : Int) < 0 := by walk_at "o"
      have h3 : min (b : Int) (items.size : Int) = min (items.size : Int) (items.size : Int) := by walk_at "o"
      simp only [Option.getD_none, h1, h2, if_false, h3, show ((1 : Int) > 0) = True from by simp, if_true]
    rw [e, slicePick_upto items items.size (Nat.le_refl _)]
    rw [List.take_of_length_le (i := items.size) (by simp), List.take_of_length_le (i := b) (by rw [Array.length_toList]; walk_at "o")]
section
variable {w : World} {A : Around} {E : Value → Shared → Prop} {s : Shared} {h g : Heap} {L : Addr} {m mg mb : Str → Option Value} {mu : List (Addr × Obj)} {k : Nat}
theorem r_slice_listTo {value slice : Expr} {l : Addr} {vs : List Value} {b : Nat} {t : Tok} {Q : Value → Shared → Prop} (O : Own g L h m mu) (hl : h.IsList l vs.toArray) (hz : vs.length ≤ 1000000)
    (q : ∀ D h', Own g L h' m mu → h'.IsList D (vs.take b).toArray → Q (.ref D) (S3 s h' k))
    (hs : subscripted slice false (.ref l) (.ref h.objs.size) = operate [.ref h.objs.size, .ref l] (getItem (.ref l) (.ref h.objs.size)) := by with_unfolding_all rfl)
    (ht : ∀ r, letTemporaryGo value (.ref l) r = pure () := by intro _; with_unfolding_all rfl) :
    wpAny (model PG w) A (subscriptTail value slice (.ref l) (.ref h.objs.size)) Q E (S3 s (h.push { cls := .type "slice", data := .fields #[.none, .int (b : Int) t, .none] }) k) := by
  refine slice_list (s := S3 s h k) O.fr (news_listing h L [L] (by simp)) hl .none (.int _ _) (fun h' F N => ?_) hs ht (by rw [sizeLine_eq]; simp; walk_at "o")
  have kp : ∀ b o, b ≠ L → h.get? b = some o → h'.get? b = some o := fun b o hb e => (N (b, o) (.tail _ (mem_listing.mpr ⟨by simp [hb], e⟩))).1
  have hD := N (h.objs.size + 1, _) (.head _)
  refine q _ h' ⟨F.ns, fun b o e => kp b o (O.ne e) (O.keep b o e), O.off, fun p hp => ⟨kp _ _ (O.mus p hp).2.1 (O.mus p hp).1, (O.mus p hp).2⟩, O.nd⟩ ⟨_, hD.1, rfl, 0, ?_⟩
  show Data.seq (slicePick vs.toArray none (some (b : Int)) none) = _
  rw [slice_upto]
end
section srt
variable {w : World} {A : Around} {E : Value → Shared → Prop} {s : Shared} {h g : Heap} {L : Addr} {m mg mb : Str → Option Value} {mu : List (Addr × Obj)} {k : Nat}
theorem r_sortedM2 {Q : Value → Shared → Prop} {l : Addr} {vs : List Value} {es : List En} (O : Own g L h m mu) (hl : h.IsList l vs.toArray) (he : All2 (IsEnt h) vs es) (h2 : 2 ≤ vs.length) (h64 : vs.length < 64) (nd : es.Nodup)
    (q : ∀ D n h' vs' os, h.get? D = none → (∀ b o, b ≠ L → h.get? b = some o → h'.get? b = some o) → os.Perm es → os.Pairwise (fun a b => lexLt a b = true) → (∀ v ∈ vs', v ∈ vs) → All2 (IsEnt h) vs' os → Own g L h' m ((D, listOf vs'.toArray n) :: mu) → Q (.ref D) (S3 s h' k)) :
    wpAny (model PG w) A (call (.builtin "sorted") [.ref l] []) Q E (S3 s h k) := by
  have hlen := he.length
  refine kat_sorted (s := S3 s h k) O.fr (news_listing h L [L] (by simp)) hl h2 h64 fun D e1 h1 F1 N1 hlt => ?_
  have kp : ∀ b o, b ≠ L → h.get? b = some o → h1.get? b = some o := fun b o hb e => (N1 (b, o) (.tail _ (mem_listing.mpr ⟨by simpa using hb, e⟩))).1
  have tupk : ∀ {a its}, IsTup h a its → IsTup h1 a its := fun {a its} ht => by
    have hn := tup_neL O ht
    obtain ⟨o, ho, r⟩ := ht
    exact ⟨o, kp _ _ hn ho, r⟩
  have he1 : All2 (IsEnt h1) vs es := he.imp fun v e ⟨a, t1, t2, t3, t4, b, c⟩ => ⟨a, t1, t2, t3, t4, b, tupk c⟩
  have DL : D ≠ L := (N1 _ (.head _)).2.1
  have fD : h.get? D = none := by
    cases e : h.get? D with
    | none => rfl
    | some o => exact absurd (hlt (D, o) (mem_listing.mpr ⟨by simpa using DL, e⟩)) (Nat.lt_irrefl _)
  have kt : ∃ fs, KatTups h1 vs fs ∧ fs.length = vs.length ∧ ∀ v ∈ fs, ∃ i t, v = .int i t := by
    clear hl h2 h64 nd hlen he q
    induction he1 with
    | nil => exact ⟨[], trivial, rfl, fun _ h => nomatch h⟩
    | cons r _ ih =>
      obtain ⟨a, t1, t2, t3, t4, rfl, o, ho, hc, n, hd⟩ := r
      obtain ⟨fs, k1, k2, k3⟩ := ih
      refine ⟨_ :: fs, KatTups.cons ho hc hd rfl k1, by simp [k2], fun v hv => ?_⟩
      rcases List.mem_cons.mp hv with rfl | hv
      · exact ⟨_, _, rfl⟩
      · exact k3 v hv
  obtain ⟨fs, k1, k2, k3⟩ := kt
  refine kat_kind (T := .type "int") k1 (by walk_at "o") (fun v hv => ?_) (by decide) ?_
  · obtain ⟨i, t, rfl⟩ := k3 v hv
    exact Looks.of_pure rfl
  have S : StrictO (fun i j => lexLt (es.getD i e0) (es.getD j e0)) vs.length := ⟨fun a b c => lex_tr _ _ _, fun a b => lex_as _ _, fun a b ha hb hab h1 => lex_tot _ _ (fun e => hab ?_) h1⟩
  · refine KW.wp (fun i j C hi hj hC => ?_) (fun p hp => ?_) (kw_sort S (by walk_at "o"))
    · show wpAny _ _ (keyLt' (tuples' true) _ _) _ _ _
      obtain ⟨a, t1, t2, t3, t4, e1, c1⟩ := he1.getD .none e0 (i := i) (by walk_at "o")
      obtain ⟨b, u1, u2, u3, u4, e2, c2⟩ := he1.getD .none e0 (i := j) (by walk_at "o")
      rw [e1, e2]
      exact ent_lt (s := { S3 s h k with heap := h1 }) c1 c2 hC
    · obtain ⟨P, As⟩ := hp
      refine KasFin.intro (g := fun o => (D, o) :: listing h [L]) F1 N1 (.head fun p hp e => ?_) fun h' c F' N' => ?_
      · exact absurd (hlt p hp) (by rw [e]; exact Nat.lt_irrefl _)
      · have kp' : ∀ b o, b ≠ L → h.get? b = some o → h'.get? b = some o := fun b o hb e => (N' (b, o) (.tail _ (mem_listing.mpr ⟨by simpa using hb, e⟩))).1
        have Ob : Own g L h' m mu := ⟨F'.ns, fun b o e => kp' b o (O.ne e) (O.keep b o e), O.off, fun p hp => ⟨kp' _ _ (O.mus p hp).2.1 (O.mus p hp).1, (O.mus p hp).2⟩, O.nd⟩
        have hD' := (N' (D, _) (.head _)).1
        have inj : ∀ i ∈ p.toList, i < es.length := fun i hi => by rw [← hlen]; exact List.mem_range.mp (P.mem_iff.mp hi)
        refine q D c h' (p.toList.map fun i => vs.getD i .none) (p.toList.map fun i => es.getD i e0) fD kp' ?_ ?_ (fun v hv => by
            obtain ⟨i, hi, rfl⟩ := List.mem_map.mp hv
            have hz := inj i hi
            rw [List.getD_eq_getElem?_getD, List.getElem?_eq_getElem (by walk_at "o" : i < vs.length)]
            exact List.getElem_mem _) (All2.maps fun i hi => he.getD .none e0 (inj i hi)) ⟨Ob.ns, Ob.keep, Ob.off, fun r hr => ?_, List.nodup_cons.mpr ⟨O.neMu fD, O.nd⟩⟩
        · have := P.map (fun i => es.getD i e0)
          rw [hlen, range_getD] at this
          exact this
        · rw [List.pairwise_map]
          refine List.pairwise_iff_getElem.mpr fun i j hi hj hij => ?_
          have a1 := As i j hij (by have := P.size; simp at hj; walk_at "o")
          have z := P.size
          simp only [Array.length_toList] at hi hj
          simpa [Array.getD, hi, hj] using a1
        · rcases List.mem_cons.mp hr with rfl | hr
          · exact ⟨hD', DL, O.fresh fD⟩
          · exact Ob.mus r hr
  · have pw := List.pairwise_iff_getElem.mp nd
    have l1 : a < es.length := by walk_at "o"
    have l2 : b < es.length := by walk_at "o"
    rw [List.getD_eq_getElem?_getD, List.getD_eq_getElem?_getD, List.getElem?_eq_getElem l1, List.getElem?_eq_getElem l2] at e
    rcases Nat.lt_trichotomy a b with c | c | c
    · exact (pw a b l1 l2 c e).elim
    · exact c
    · exact (pw b a l2 l1 c e.symm).elim
theorem r_sortedM {Q : Value → Shared → Prop} {l : Addr} {vs : List Value} {es : List En} (O : Own g L h m mu) (hl : h.IsList l vs.toArray) (he : All2 (IsEnt h) vs es) (h64 : vs.length < 64) (nd : es.Nodup)
    (q : ∀ D n h' vs' os, h.get? D = none → (∀ b o, b ≠ L → h.get? b = some o → h'.get? b = some o) → os.Perm es → os.Pairwise (fun a b => lexLt a b = true) → (∀ v ∈ vs', v ∈ vs) → All2 (IsEnt h) vs' os → Own g L h' m ((D, listOf vs'.toArray n) :: mu) → Q (.ref D) (S3 s h' k)) :
    wpAny (model PG w) A (call (.builtin "sorted") [.ref l] []) Q E (S3 s h k) := by
  by_cases h2 : 2 ≤ vs.length
  · exact r_sortedM2 O hl he h2 h64 nd q
  · have hlen := he.length
    obtain ⟨fD, st, n, O'⟩ := O.sorted (vs := vs) (out := vs.toArray)
    refine sorted_short (s := S3 s h k) hl (by walk_at "o") (q _ n _ vs es fD (fun b o _ e => st b o e) (.refl _) ?_ (fun _ h => h) he O')
    match es, hlen with
    | [], _ => exact .nil
    | [_], _ => exact List.pairwise_singleton _ _
    | _ :: _ :: _, hlen => simp at hlen; walk_at "o"
end srt
section chk
variable {w : World} {A : Around} {s : Shared} {hp : Heap} {k : Nat} {mg mb : Str → Option Value} {Q : Value → Shared → Prop} {E : Value → Shared → Prop}
theorem numbers_spec (G : GK w mg mb hp) (hA : OkA A 1) {y x : Addr} {fss : List (List FM)} (V : IsVer hp y x fss) (hz : fss.flatten.length < 64)
    (hQ : ∀ h' tk D vs ns, hp.StaysIn h' → h'.IsList D vs → IntsAre vs.toList ns → ns.Perm (fss.flatten.map (·.num)) → ns.Pairwise (· ≤ ·) → Q (.ref D) (S3 s h' tk)) :
    wpAny (model PG w) A (call (.ref 522) [.ref y] []) Q E (S3 s hp k) := by
  refine wpAny_call (enter_ret [("self", .ref y)] G hA (by k_is) (by k_is) (fun _ => BindsTo.of_eq rfl) (locs rfl) ?_)
  intro A' E' h₁ L k₁ hA hL O
  obtain ⟨es, F, ls, I, ve, hF, hls, IO⟩ := V
  have ef := ve.files
  have hlen := hls.length
  repeat (walk_at "ms")
  rename_i D _ _ _ _ _ _ O
  with_reducible refine r_iter_list hA.handled O hF (fun i g' m' mu' => m' "found" = some (.ref D) ∧ ∃ (vs : List Value) (n : Nat), mu' = [(D, listOf vs.toArray n)] ∧ IntsAre vs ((fss.take i).flatten.map (·.num))) ?_ ?_ ?_ ?_
  · exact ⟨rfl, [], 0, rfl, .nil⟩
  · rintro E2 i v g' h7 m7 mu7 p k7 hi hv hg ⟨e1, vs, n, rfl, hI⟩ O
    have hi' : i < ls.length := by simpa using hi
    obtain ⟨fs, hfs⟩ : ∃ fs, fss[i]? = some fs := ⟨fss[i]'(by walk_at "o"), List.getElem?_eq_getElem (by walk_at "o")⟩
    obtain ⟨l, hl1, vl, hl, hvl⟩ := hls.get hfs
    have e : v = .ref l := by
      have : (ls.map Value.ref)[i]? = some v := by simpa using hv
      rw [List.getElem?_map, hl1] at this
      exact (Option.some.inj this).symm
    subst e
    have hl := stays_list hg hl
    have G := G.keeps hg
    have hvl := hvl.imp fun _ _ q => IsMeta.mono hg q
    have hvlen := hvl.length
    have htk : fss.take (i + 1) = fss.take i ++ [fs] := by rw [List.take_add_one, hfs]; rfl
    rw [htk]
    repeat (walk_at "ms")
    rename_i O
    with_reducible refine r_iter_list hA.handled O hl (fun j g2 m' mu' => g'.StaysIn g2 ∧ m' "found" = some (.ref D) ∧ ∃ (vs : List Value) (n : Nat), mu' = [p, (D, listOf vs.toArray n)] ∧ IntsAre vs (((fss.take i).flatten ++ fs.take j).map (·.num))) ?_ ?_ ?_ ?_
    · exact ⟨fun _ _ e => e, e1, vs, n, rfl, by simpa using hI⟩
    · rintro E3 j v2 g2 h8 m8 mu8 p2 k8 hj hv2 hg2 ⟨_, e1, vs2, n2, rfl, hI2⟩ O
      have hj' : j < vl.length := by simpa using hj
      obtain ⟨f, hf⟩ : ∃ f, fs[j]? = some f := ⟨fs[j]'(by walk_at "o"), List.getElem?_eq_getElem (by walk_at "o")⟩
      obtain ⟨v3, hv3, xm, em, rfl, Im, ⟨tn, enum⟩, -, -⟩ := hvl.get hf
      have e : v2 = .ref xm := by
        have : vl[j]? = some v2 := by simpa using hv2
        rw [hv3] at this
        exact (Option.some.inj this).symm
      subst e
      have Im := Im.mono hg2
      have G := G.keeps hg2
      have htk2 : fs.take (j + 1) = fs.take j ++ [f] := by rw [List.take_add_one, hf]; rfl
      have hsz : vs2.length < 64 := by
        have h1 := hI2.length
        rw [h1, List.length_map]
        have h3 : fss.flatten = (fss.take i).flatten ++ (fs ++ (fss.drop (i + 1)).flatten) := by
          have : fss = fss.take i ++ fs :: fss.drop (i + 1) := by
            have hlt : i < fss.length := by walk_at "o"
            have := (List.take_append_drop i fss).symm
            rw [List.drop_eq_getElem_cons hlt] at this
            have e2 : fss[i] = fs := by rw [List.getElem?_eq_getElem hlt] at hfs; exact Option.some.inj hfs
            rw [e2] at this
            exact this
          conv => lhs; rw [this]
          rw [List.flatten_append, List.flatten_cons]
        rw [h3] at hz
        simp only [List.length_append, List.length_take] at hz ⊢
        walk_at "o"
      repeat (walk_at "ms")
      rename_i O
      have O := (O.swap.perm (.cons _ (.swap _ _ _))).swap
      with_reducible refine r_mAppend O.head ?_
      repeat (walk_at "ms")
      with_reducible refine r_append O (by simp; walk_at "o") fun h9 n9 O => ?_
      repeat (walk_at "ms")
      have e9 : vs2.toArray.push (Value.int f.num tn) = (vs2 ++ [Value.int f.num tn]).toArray := by simp
      rw [e9] at O
      have O := (O.swap.perm (.cons _ (.swap _ _ _))).swap
      refine ⟨g2, h9, _, [p, (D, listOf (vs2 ++ [Value.int f.num tn]).toArray n9)], _, rfl, fun _ _ e => e, O, hg2, e1, vs2 ++ [Value.int f.num tn], n9, rfl, ?_⟩
      · rw [htk2, ← List.append_assoc, List.map_append]
        exact hI2.append (.cons _ _ .nil)
    · rintro g2 h8 m8 mu8 k8 hg2 ⟨_, e1, vs2, n2, rfl, hI2⟩ O
      repeat (walk_at "ms")
      refine ⟨g2, _, _, [(D, listOf vs2.toArray n2)], _, rfl, hg2, O, e1, vs2, n2, rfl, ?_⟩
      rw [List.flatten_append, List.flatten_singleton]
      rw [show vl.toArray.size = fs.length by simp [hvlen], List.take_length] at hI2
      exact hI2
    · intro _ _; rfl
  · rintro g' h7 m7 mu7 k7 hg ⟨e1, vs, n, rfl, hI⟩ O
    have G := G.keeps hg
    rw [show (ls.map Value.ref).toArray.size = fss.length by simp [hlen], List.take_length] at hI
    have hl := hI.length
    rw [List.length_map] at hl
    repeat (walk_at "ms")
    rename_i O
    refine r_sorted_ints O O.headList hI (by walk_at "o") fun D2 n2 h8 vs2 ns st hI2 hp hs O => ?_
    repeat (walk_at "ms")
    exact hQ _ _ D2 vs2.toArray ns (fun b o e => O.keep b o (hg b o e)) O.headList hI2 hp hs
  · intro _ _; rfl
end chk
structure FilesOk (fss : List (List FM)) : Prop where
  ok : ∀ fs ∈ fss, ∀ f ∈ fs, f.Ok
  nd : (fss.flatten.map (·.num)).Nodup
  lo : ∀ fs ∈ fss, ∀ f ∈ fs, icmp f.lu f.lm f.lk f.hu f.hm f.hk ≤ 0
  l0 : ∀ fs, fss[0]? = some fs → ∀ i f f', fs[i]? = some f → fs[i + 1]? = some f' → f.num < f'.num
  deep : ∀ l fs, 0 < l → fss[l]? = some fs → ∀ i f f', fs[i]? = some f → fs[i + 1]? = some f' → f.hu < f'.lu
  z : fss.flatten.length < 64
  l100 : fss.length ≤ 100
theorem FilesOk.len {fss : List (List FM)} (K : FilesOk fss) {fs : List FM} (h : fs ∈ fss) : fs.length < 64 := by
  have := K.z
  have h2 := (List.sublist_flatten_of_mem h).length_le
  walk_at "o"
theorem ge_user {u v : Int} (u0 : 0 ≤ u) (u1 : u < 5) (v0 : 0 ≤ v) (v1 : v < 5) : (ord (userB u) (userB v) != .lt) = decide (v ≤ u) := by
  rcases seqIdx u0 u1 with rfl | rfl | rfl | rfl | rfl <;> rcases seqIdx v0 v1 with rfl | rfl | rfl | rfl | rfl <;> decide +kernel
section chk
variable {w : World} {A : Around} {s : Shared} {hp : Heap} {k : Nat} {mg mb : Str → Option Value} {Q : Value → Shared → Prop} {E : Value → Shared → Prop}
theorem check_spec (G : GK w mg mb hp) (hA : OkA A 6) {y x : Addr} {fss : List (List FM)} (V : IsVer hp y x fss) (K : FilesOk fss)
    (hQ : ∀ h' tk, hp.StaysIn h' → Q .none (S3 s h' tk)) :
    wpAny (model PG w) A (call (.ref 536) [.ref y] []) Q E (S3 s hp k) := by
  refine wpAny_call (enter_ret [("self", .ref y)] G hA (by k_is) (by k_is) (fun _ => BindsTo.of_eq rfl) (locs rfl) ?_)
  intro A' E' h₁ L k₁ hA hL O
  have V' := V
  obtain ⟨es, F, ls, I, ve, hF, hls, IO⟩ := V'
  have ef := ve.files
  obtain ⟨tn, en⟩ := ve.levels
  have eo := ve.order
  have ec := ve.other "numbers" (by decide) (by decide) (by decide) (by decide) (by decide) (by decide)
  have hlen := hls.length
  have hl100 := K.l100
  repeat (walk_at "ms")
  refine numbers_spec (O.gk G) (hA.le (by decide)) (V.mono O.keep) K.z fun h2 k2 D vs ns st2 hD hI hperm hsort => ?_
  have O := O.grow st2
  obtain ⟨g3, sg3, O, kg3, klist, ktup⟩ := O.all
  have hD := klist _ _ hD
  have G := G.keeps sg3
  have hnl := hI.length
  have hpl := hperm.length_eq
  rw [List.length_map] at hpl
  have hz := K.z
  have hvz : vs.size = ns.length := by simpa using hnl
  have hnd : ns.Nodup := hperm.nodup_iff.mpr K.nd
  repeat (walk_at "ms")
  rename_i O
  with_reducible refine r_range2 fun r h6 k6 t1 t2 t3 st6 hr => ?_
  have O := O.grow st6
  repeat (walk_at "ms")
  with_reducible refine r_iter_range (n := ns.length - 1) hA.handled O hr (small_one (by decide) (by decide) (by walk_at "o") (by walk_at "o")) ((rangeSize_nat _ _).trans (by walk_at "o")) (fun i g' m' mu' => m' "self" = some (.ref y) ∧ m' "numbers" = some (.ref D) ∧ mu' = []) ?_ ?_ ?_ ?_
  · exact ⟨rfl, rfl, rfl⟩
  · rintro E2 i tk g' h7 m7 mu7 p k7 hi hg ⟨e1, e2, rfl⟩ O
    have hD := stays_list hg hD
    have G := G.keeps hg
    obtain ⟨t4, hx4⟩ := hI.get i _ (List.getElem?_eq_getElem (by walk_at "o" : i < ns.length))
    obtain ⟨t5, hx5⟩ := hI.get (i + 1) _ (List.getElem?_eq_getElem (by walk_at "o" : i + 1 < ns.length))
    have hne : ns[i] ≠ ns[i + 1] := fun q => by
      have := List.pairwise_iff_getElem.mp hnd i (i + 1) (by walk_at "o") (by walk_at "o") (by walk_at "o")
      exact this q
    repeat (walk_at "ms")
    rename_i O
    with_reducible refine r_item_list (O.list hD) (by walk_at "o") (by walk_at "o") (by rw [show ((1 : Int) + (i : Int) * 1 - 1).toNat = i by walk_at "o"]; simpa using hx4) ?_ (by with_unfolding_all rfl)
    repeat (walk_at "ms")
    with_reducible refine r_item_list (O.list hD) (by walk_at "o") (by walk_at "o") (by rw [show ((1 : Int) + (i : Int) * 1).toNat = i + 1 by walk_at "o"]; simpa using hx5) ?_ (by with_unfolding_all rfl)
    repeat (walk_at "ms")
    exact ⟨g', _, _, [], _, rfl, fun _ _ e => e, O, e1, e2, rfl⟩
  · rintro g' h7 m7 mu7 k7 hg ⟨e1, e2, rfl⟩ O
    have sg := fun b o e => hg b o (sg3 b o e)
    have G := G.keeps hg
    have I := I.mono sg
    have hF := stays_list sg hF
    have IO := IO.mono sg
    have hls2 := hls.imp fun _ _ q => IsFiles.mono sg q
    clear V hD e2
    repeat (walk_at "ms")
    with_reducible refine r_range1 fun r h8 k8 t6 t7 t8 st8 hr => ?_
    have O := O.grow st8
    repeat (walk_at "ms")
    with_reducible refine r_iter_range (n := fss.length) hA.handled O hr (small_one (by decide) (by decide) (by walk_at "o") (by walk_at "o")) ((rangeSize_nat _ _).trans (by walk_at "o")) (fun i g' m' mu' => m' "self" = some (.ref y) ∧ mu' = []) ?_ ?_ ?_ ?_
    · exact ⟨e1, rfl⟩
    · rintro E2 i tk g2 h9 m9 mu9 p k9 hi hg2 ⟨e1, rfl⟩ O
      have G := G.keeps hg2
      have I := I.mono hg2
      have hF := stays_list hg2 hF
      have IO := IO.mono hg2
      obtain ⟨fs, hfs⟩ : ∃ fs, fss[i]? = some fs := ⟨fss[i], List.getElem?_eq_getElem hi⟩
      obtain ⟨l, hl1, fi0⟩ := hls2.get hfs
      obtain ⟨v, lv, av0⟩ := fi0
      have lv := stays_list hg2 lv
      have av := av0.imp fun _ _ q => IsMeta.mono hg2 q
      have hlv := av.length
      have hmf := List.mem_of_getElem? hfs
      have zf := K.len hmf
      have okf := K.ok fs hmf
      have lof := K.lo fs hmf
      have eidx : ((0 : Int) + (i : Int) * 1).toNat = i := by walk_at "o"
      repeat (walk_at "ms")
      rename_i O
      with_reducible refine r_item_list (x := .ref l) (O.list hF) (by walk_at "o") (by simp [hlen]; walk_at "o") (by rw [eidx]; simpa using hl1) ?_ (by with_unfolding_all rfl)
      repeat (walk_at "ms")
      rename_i O
      with_reducible refine r_len_list (O.list lv) (by simp; walk_at "o") ?_
      repeat (walk_at "ms")
      with_reducible refine r_range1 fun r h10 k10 t6 t7 t8 st10 hr => ?_
      have O := O.grow st10
      rw [show (v.toArray.size : Int) = ((fs.length : Nat) : Int) by simp [hlv]] at hr
      repeat (walk_at "ms")
      with_reducible refine r_iter_range (n := fs.length) hA.handled O hr (small_one (by decide) (by decide) (by walk_at "o") (by walk_at "o")) ((rangeSize_nat _ _).trans (by walk_at "o")) (fun j g' m' mu' => m' "self" = some (.ref y) ∧ m' "files" = some (.ref l) ∧ (∃ t, m' "level" = some (.int ((0 : Int) + (i : Int) * 1) t)) ∧ mu' = [p]) ?_ ?_ ?_ ?_
      · exact ⟨e1, rfl, ⟨_, rfl⟩, rfl⟩
      · rintro E3 j tk3 g3 h11 m11 mu11 p3 k11 hj hg3 ⟨e1, e2, ⟨tl, e3⟩, rfl⟩ O
        have G := G.keeps hg3
        have I := I.mono hg3
        have IO := IO.mono hg3
        have lv := stays_list hg3 lv
        have av := av.imp fun _ _ q => IsMeta.mono hg3 q
        obtain ⟨f, hf⟩ : ∃ f, fs[j]? = some f := ⟨fs[j], List.getElem?_eq_getElem hj⟩
        obtain ⟨mv, hmv, xm, em, rfl, Im, ⟨tn, enum⟩, ⟨tsm, esm⟩, ⟨tla, ela⟩⟩ := av.get hf
        have okf1 := okf f (List.mem_of_getElem? hf)
        have lof1 := lof f (List.mem_of_getElem? hf)
        have IO' := IO
        obtain ⟨eso, yo, Ix, hr0, hu0, hcm, Iy⟩ := IO'
        repeat (walk_at "ms")
        rename_i O
        with_reducible refine r_item_list (x := .ref xm) (O.list lv) (by walk_at "o") (by simp; walk_at "o") (by rw [show ((0 : Int) + (j : Int) * 1).toNat = j by walk_at "o"]; simpa using hmv) ?_ (by with_unfolding_all rfl)
        repeat (walk_at "ms")
        rename_i O
        refine icompare_spec (O.gk G) (hA.le (by decide)) (IO.mono O.keep) okf1.lo okf1.hi fun h12 k12 t12 st12 => ?_
        have O := O.grow st12
        by_cases hj0 : j = 0
        · repeat (walk_at "ms")
          with_reducible refine r_cont ?_
          repeat (walk_at "ms")
          exact ⟨g3, _, _, [p], _, rfl, fun _ _ e => e, O, e1, e2, ⟨_, e3⟩, rfl⟩
        · obtain ⟨f0, hf0⟩ : ∃ f0, fs[j - 1]? = some f0 := ⟨fs[j - 1], List.getElem?_eq_getElem (by walk_at "o")⟩
          obtain ⟨mv0, hmv0, xm0, em0, rfl, Im0, ⟨tn0, enum0⟩, ⟨tsm0, esm0⟩, ⟨tla0, ela0⟩⟩ := av.get hf0
          have okf0 := okf f0 (List.mem_of_getElem? hf0)
          have hf' : fs[j - 1 + 1]? = some f := by rw [show j - 1 + 1 = j by walk_at "o"]; exact hf
          repeat (walk_at "ms")
          with_reducible refine r_item_list (x := .ref xm0) (O.list lv) (by walk_at "o") (by simp; walk_at "o") (by rw [show ((0 : Int) + (j : Int) * 1 - 1).toNat = j - 1 by walk_at "o"]; simpa using hmv0) ?_ (by with_unfolding_all rfl)
          repeat (walk_at "ms")
          rename_i O
          by_cases hi0 : i = 0
          · have hlt := K.l0 fs (by rw [← hi0]; exact hfs) (j - 1) f0 f hf0 hf'
            repeat (walk_at "ms")
            exact ⟨g3, _, _, [p], _, rfl, fun _ _ e => e, O, e1, e2, ⟨_, e3⟩, rfl⟩
          · have hlt := K.deep i fs (by walk_at "o") hfs (j - 1) f0 f hf0 hf'
            repeat (walk_at "ms")
            refine kuser_spec (O.gk G) (hA.le (by decide)) okf0.hi fun h13 k13 t13 st13 => ?_
            have O := O.grow st13
            repeat (walk_at "ms")
            refine kuser_spec (O.gk G) (hA.le (by decide)) okf1.lo fun h14 k14 t14 st14 => ?_
            have O := O.grow st14
            repeat (walk_at "ms")
            rw [ge_user okf0.hi.u0 okf0.hi.u1 okf1.lo.u0 okf1.lo.u1]
            refine if_dec_f (by walk_at "o") ?_
            repeat (walk_at "ms")
            exact ⟨g3, _, _, [p], _, rfl, fun _ _ e => e, O, e1, e2, ⟨_, e3⟩, rfl⟩
      · rintro g3 h11 m11 mu11 k11 hg3 ⟨e1, e2, ⟨tl, e3⟩, rfl⟩ O
        repeat (walk_at "ms")
        exact ⟨g3, _, _, [], _, rfl, hg3, O, e1, rfl⟩
      · intro _ _; rfl
    · rintro g2 h9 m9 mu9 k9 hg2 ⟨e1, rfl⟩ O
      repeat (walk_at "ms")
      exact hQ _ _ fun b o e => O.keep b o (hg2 b o (sg b o e))
    · intro _ _; rfl
  · intro _ _; rfl
end chk
noncomputable def IsPart (h : Heap) (l : Addr) (p : List En) : Prop := ∃ vs : List Value, h.IsList l vs.toArray ∧ All2 (IsEnt h) vs p
theorem IsPart.mono {h h' : Heap} {l : Addr} {p : List En} (k : h.StaysIn h') (I : IsPart h l p) : IsPart h' l p := let ⟨vs, a, b⟩ := I; ⟨vs, stays_list k a, b.imp fun _ _ q => IsEnt.mono k q⟩
noncomputable def UserLt (p q : List En) : Prop := ∀ a ∈ p, ∀ b ∈ q, a.u < b.u
/-- parts of a row, cut between users -/
structure PartsOk (es : List En) (ps : List (List En)) : Prop where
  flat : ps.flatten = es
  ne : ∀ p ∈ ps, p ≠ []
  pw : ps.Pairwise UserLt
theorem rot3 {α : Type} (a b c : α) : [a, b, c].Perm [c, a, b] := by
  refine (List.Perm.cons _ (.swap _ _ _)).trans (.swap _ _ _)
theorem r_seq {w : World} {A : Around} {E : Value → Shared → Prop} {env : Env} {st : Stmt} {rest : List Stmt} {Q : Flow → Shared → Prop} {s : Shared} (M : Shared → Prop) (h1 : wpAny (model PG w) A (exec st env) (fun f s₂ => f = .next ∧ M s₂) E s)
    (h2 : ∀ s₂, M s₂ → wpAny (model PG w) A (execs rest env) Q E s₂) : wpAny (model PG w) A (execs (st :: rest) env) Q E s := by
  refine r_cons (wpAny_mono h1 (fun f s₂ hf => ?_) fun _ _ x => x)
  obtain ⟨rfl, m⟩ := hf
  exact t_next (h2 s₂ m)
theorem Own.rev {g h : Heap} {L : Addr} {m : Str → Option Value} {mu : List (Addr × Obj)} (O : Own g L h m mu) : Own g L h m mu.reverse := O.perm (List.reverse_perm _).symm
theorem len_flat {α : Type} : ∀ {ps : List (List α)}, (∀ p ∈ ps, p ≠ []) → ps.length ≤ ps.flatten.length
  | [], _ => Nat.le_refl _
  | p :: ps, h => by
    have := len_flat (ps := ps) fun q hq => h q (.tail _ hq)
    have h1 : 0 < p.length := List.length_pos_iff.mpr (h p (.head _))
    simp only [List.length_cons, List.flatten_cons, List.length_append]
    walk_at "o"
noncomputable def IsTables (w : World) (h : Heap) (d : Addr) (tabs : List TB) : Prop :=
  (d == sysModules) = false ∧ ∃ kvs, h.DictOf (intKind PG w) d kvs ∧ All2 (fun (p : Int × Value) (t : TB) => p.1 = t.num ∧ ∃ l, p.2 = .ref l ∧ IsPart h l t.rows) kvs tabs
theorem IsTables.mono {w : World} {h h' : Heap} {d : Addr} {tabs : List TB} (k : h.StaysIn h') (I : IsTables w h d tabs) : IsTables w h' d tabs :=
  let ⟨a, kvs, b, c⟩ := I; ⟨a, kvs, dictK k b, c.imp fun _ _ ⟨x, l, y, z⟩ => ⟨x, l, y, z.mono k⟩⟩
theorem valueAt_at {kvs : List (Int × Value)} {i : Nat} {p : Int × Value} (hn : (kvs.map (·.1)).Nodup) (h : kvs[i]? = some p) : valueAt kvs p.1 = some p.2 := by
  unfold valueAt
  induction kvs generalizing i with
  | nil => simp at h
  | cons a r ih =>
    rw [List.map_cons, List.nodup_cons] at hn
    cases i with
    | zero =>
      simp at h; subst h
      simp [List.find?_cons]
    | succ i =>
      simp at h
      have : ¬ a.1 = p.1 := fun q => hn.1 (q ▸ List.mem_map.mpr ⟨p, List.mem_of_getElem? h, rfl⟩)
      rw [List.find?_cons, decide_eq_false this]
      exact ih hn.2 h
structure TabE (t : TB) : Prop where
  ok : ∀ e ∈ t.rows, EnOk e
  z : t.rows.length ≤ 64
  n0 : 0 ≤ t.num
  n1 : t.num < 128
theorem keys_nodup {kvs : List (Int × Value)} {tabs : List TB} {R : Value → TB → Prop} (I : All2 (fun (p : Int × Value) (t : TB) => p.1 = t.num ∧ R p.2 t) kvs tabs) (hn : (tabs.map TB.num).Nodup) : (kvs.map (·.1)).Nodup := by
  have : kvs.map (·.1) = tabs.map TB.num := by
    clear hn
    induction I with
    | nil => rfl
    | cons a _ ih => rw [List.map_cons, List.map_cons, a.1, ih]
  rw [this]; exact hn
theorem find_head {f : En → Bool} {es : List En} : es.find? f = (es.filter f).head? := by
  induction es with
  | nil => rfl
  | cons a r ih =>
    rw [List.find?_cons, List.filter_cons]
    cases f a with
    | true => rfl
    | false => exact ih
section cch
variable {w : World} {A : Around} {s : Shared} {hp : Heap} {k : Nat} {mg mb : Str → Option Value} {Q : Value → Shared → Prop} {E : Value → Shared → Prop}
theorem cache_spec (G : GK w mg mb hp) (hA : OkA A 4) {d : Addr} {tabs : List TB} {u m sp : Int} {den : Bool} {tu tm ts : Tok} (T : IsTables w hp d tabs) (hn : (tabs.map TB.num).Nodup) (hE : ∀ t ∈ tabs, TabE t) (hz : tabs.length ≤ 100) (u0 : 0 ≤ u) (u1 : u < 5)
    (hQ : ∀ h' tk D, hp.StaysIn h' → IsCache w h' D (cacheOf u m sp den tabs) → Q (.ref D) (S3 s h' tk)) :
    wpAny (model PG w) A (call (.ref 576) [.ref d, .int u tu, .int m tm, .int sp ts, .bool den] []) Q E (S3 s hp k) := by
  refine wpAny_call (enter_c2 (n1 := "u") (n2 := "minus") (v1 := .int u tu) (v2 := .int m tm) [("tables", .ref d), ("u", .int u tu), ("minus", .int m tm), ("spoiled", .int sp ts), ("denies", .bool den)] (fun y => if y = "denies" then some (.bool den) else if y = "spoiled" then some (.int sp ts) else if y = "tables" then some (.ref d) else none) G hA (by k_is) (by k_is) rfl (fun _ => rfl) ?_ (fun _ => rfl) (fun _ => rfl) (by decide) (fun _ => rfl) ?_)
  · intro x hx
    simp only [List.mem_cons, List.not_mem_nil, or_false] at hx
    rcases hx with rfl | rfl | rfl | rfl | rfl
    · exact .inl rfl
    · exact .inr ⟨rfl, .inl rfl⟩
    · exact .inr ⟨rfl, .inr rfl⟩
    · exact .inl rfl
    · exact .inl rfl
  intro A' E' g h₁ L k₁ hA sg O cu cm
  have G := G.keeps sg
  have T := T.mono sg
  repeat (walk_at "ms")
  obtain ⟨lo, kvs, hD, hAll⟩ := T
  have hkn := keys_nodup (R := fun x t => ∃ l, x = Value.ref l ∧ IsPart g l t.rows) hAll hn
  have hkl := hAll.length
  with_reducible refine r_dict1 G O fun D o2 h3 nD fD st3 hd3 O => ?_
  repeat (walk_at "ms")
  rename_i O
  with_reducible refine r_iter_dict hA.handled O hD lo (fun i g' m' mu' => m' "cache" = some (.ref D) ∧ m' "tables" = some (.ref d) ∧ (∃ t, m' "spoiled" = some (.int sp t)) ∧ m' "denies" = some (.bool den) ∧ ∃ o2 kvs2, mu' = [(D, o2)] ∧ o2.IsDictOf (intKind PG w) kvs2 ∧ All2 (fun (p : Int × Value) q => p.1 = q.1 ∧ IsCe g' p.2 q.2) kvs2 (cacheOf u m sp den (tabs.take i))) ?_ ?_ ?_ ?_
  · exact ⟨rfl, rfl, ⟨_, rfl⟩, rfl, o2, [], rfl, hd3, .nil⟩
  · rintro E2 i key x tk g' h7 m7 mu7 it k7 hi hkv hg ⟨e1, e2, ⟨ts', e3⟩, e4, o4, kvs4, rfl, hd4, hce⟩ O
    have G := G.keeps hg
    have hD := dictK hg hD
    have cu := IsCell.mono hg cu
    have cm := IsCell.mono hg cm
    obtain ⟨t, ht, ek, l, el, hp⟩ := hAll.get' hkv
    have ek : key = t.num := ek
    have el : x = .ref l := el
    subst ek el
    have hp := hp.mono hg
    obtain ⟨vs, hl, hv⟩ := hp
    have hmt := List.mem_of_getElem? ht
    have TE := hE t hmt
    have hvl := hv.length
    have hva := valueAt_at hkn hkv
    have hk4 : kvs4.length ≤ 100 := by have h1 := hce.length; unfold cacheOf at h1; rw [List.length_map, List.length_take] at h1; walk_at "o"
    have htk : cacheOf u m sp den (tabs.take (i + 1)) = cacheOf u m sp den (tabs.take i) ++ [(t.num, ceOf u m sp den t)] := by
      unfold cacheOf
      rw [List.take_add_one, ht, List.map_append]; rfl
    have hfresh : ∀ p ∈ kvs4, p.1 ≠ t.num := by
      intro p hp q
      obtain ⟨j, hj⟩ := List.getElem?_of_mem hp
      obtain ⟨c, hc, r1, _⟩ := hce.get' hj
      unfold cacheOf at hc
      rw [List.getElem?_map] at hc
      obtain ⟨t2, ht2, rfl⟩ := Option.map_eq_some_iff.mp hc
      have hj2 : j < i := by
        rcases Nat.lt_or_ge j i with z | z
        · exact z
        · rw [List.getElem?_eq_none (by rw [List.length_take]; walk_at "o")] at ht2; cases ht2
      rw [List.getElem?_take_of_lt hj2] at ht2
      have e1 : (tabs.map TB.num)[j]? = some t2.num := by rw [List.getElem?_map, ht2]; rfl
      have e2 : (tabs.map TB.num)[i]? = some t.num := by rw [List.getElem?_map, ht]; rfl
      have lj : j < (tabs.map TB.num).length := by rcases Nat.lt_or_ge j (tabs.map TB.num).length with z | z; exact z; rw [List.getElem?_eq_none z] at e1; cases e1
      have li : i < (tabs.map TB.num).length := by rcases Nat.lt_or_ge i (tabs.map TB.num).length with z | z; exact z; rw [List.getElem?_eq_none z] at e2; cases e2
      have := List.pairwise_iff_getElem.mp hn j i lj li hj2
      rw [List.getElem?_eq_getElem lj] at e1
      rw [List.getElem?_eq_getElem li] at e2
      exact this ((Option.some.inj e1).trans (r1.symm.trans (q.trans (Option.some.inj e2).symm)))
    repeat (walk_at "ms")
    rename_i O
    have O := O.swap
    with_reducible refine r_dset O hd4 (by walk_at "o") fun h8 o5 hd5 O => ?_
    rw [stored_new hfresh] at hd5
    repeat (walk_at "ms")
    refine r_lcompA (entP g' (atOrBehind u m)) (fun v y => y = v) hA.handled (by rfl) (by rfl) (by decide) rfl (by decide) rfl (fun _ => rfl) rfl rfl rfl ?_
    repeat (walk_at "ms")
    have hD8 := dictK O.keep hD
    with_reducible refine r_dget hD8 hva ?_ (by with_unfolding_all rfl)
    have cu1 := IsCell.mono O.keep cu
    have cm1 := IsCell.mono O.keep cm
    refine ⟨l, vs.toArray, g', _, _, _, _, rfl, rfl, O, O.list hl, by simp; have := TE.z; walk_at "o", ?_, ?_, ?_⟩
    · rintro s' v C h9 k9 m9 E' hv9 O9 e9
      refine one_test ?_
      obtain ⟨e, he, I⟩ := ent_mem hv (by simpa using hv9)
      rw [entP_eq I]
      obtain ⟨ae, te1, te2, te3, te4, rfl, hte⟩ := I
      have hte := O9.tup (O.tup hte)
      repeat (walk_at "ms")
      with_reducible refine r_item_tup hte (by decide) (by simp) (by simp) rfl ?_ (by with_unfolding_all rfl)
      repeat (walk_at "ms")
      with_reducible refine r_item_tup hte (by decide) (by simp) (by simp) rfl ?_ (by with_unfolding_all rfl)
      repeat (walk_at "ms")
      with_reducible refine r_newTuple (by simp) fun T1 h10 fT1 sT1 eT1 => ?_
      have O9 := O9.grow sT1
      repeat (walk_at "ms")
      with_reducible refine r_newTuple (by simp) fun T2 h11 fT2 sT2 eT2 => ?_
      repeat (walk_at "ms")
      refine r_ge_pair hA.cRoom (stays_tup sT2 eT1) eT2 ?_
      repeat (walk_at "ms")
      exact ⟨rfl, _, _, rfl, fun b o e => sT2 b o (sT1 b o e)⟩
    · rintro s' v C h9 k9 m9 E' hv9 hp9 O9 e9
      repeat (walk_at "ms")
      exact ⟨rfl, _, _, rfl, fun _ _ e => e⟩
    · intro D2 ys n2 h9 k9 fD2 kb O hF
      have ey := paired_same (fun _ _ q => q) hF
      obtain ⟨ysl⟩ := ys
      have ey : ysl = vs.filter (entP g' (atOrBehind u m)) := by simpa using ey
      have hye : All2 (IsEnt g') ysl (t.rows.filter (atOrBehind u m)) := by rw [ey]; exact ent_filter hv
      have hce1 : ceOf u m sp den t = match (t.rows.filter (atOrBehind u m)).head? with | some e => if e.u = u ∨ den = false then some ⟨e.u, e.m, if t.num = sp then 7 else e.k, valB e⟩ else none | none => none := by
        unfold ceOf; rw [find_head] <;> rfl
      have hmem : ∀ e ∈ t.rows.filter (atOrBehind u m), e ∈ t.rows := fun e he => (List.mem_filter.mp he).1
      have hflen : (t.rows.filter (atOrBehind u m)).length ≤ 64 := Nat.le_trans (List.length_filter_le _ _) TE.z
      generalize t.rows.filter (atOrBehind u m) = es at hye hce1 hmem hflen
      have hlD2 := isList_of O.head
      have D2L := (O.mus _ (.head _)).2.1
      have hylen := hye.length
      obtain ⟨g2, st2, O2, k3⟩ := O.drop.freeze
      have hl2 := isList_of (k3 D2 _ D2L (List.nodup_cons.mp O.nd).1 O.head)
      clear hlD2 O
      have O := O2
      have G := G.keeps st2
      have cu := IsCell.mono st2 cu
      have cm := IsCell.mono st2 cm
      cases hye with
      | nil =>
        repeat (walk_at "ms")
        with_reducible refine r_len_list (O.list hl2) (by simp) ?_
        repeat (walk_at "ms")
        refine ⟨_, h9, _, [(D, o5)], _, rfl, st2, O.swap, e1, e2, ⟨_, e3⟩, e4, o5, kvs4 ++ [(t.num, .none)], rfl, hd5, ?_⟩
        rw [htk, hce1]
        exact (hce.imp fun _ _ q => ⟨q.1, q.2.mono st2⟩).append (.cons ⟨rfl, rfl⟩ .nil)
      | @cons v e vs' es' I rest =>
        have hmt2 := hmem e (.head _)
        have EK := TE.ok e hmt2
        obtain ⟨ae, te1, te2, te3, te4, rfl, hte⟩ := I
        have hte := stays_tup st2 hte
        have hsz : (Value.ref ae :: vs').toArray.size = vs'.length + 1 := by simp
        have hvs : vs'.length ≤ 64 := by have := rest.length; simp at hflen; walk_at "o"
        have y1 := EK.u0; have y2 := EK.u1; have y3 := EK.m0; have y4 := EK.m1; have y5 := EK.k
        have hce2 : ceOf u m sp den t = if e.u = u ∨ den = false then some ⟨e.u, e.m, if t.num = sp then 7 else e.k, valB e⟩ else none := hce1
        obtain ⟨M, hM⟩ : ∃ M, M = (fun z => if z = Str.ofString "ahead" then some (Value.ref D2) else if z = Str.ofString "number" then some (Value.int t.num tk) else m7 z) := ⟨_, rfl⟩
        have O : Own g2 L h9 M [(D, o5), it] := hM ▸ O
        with_reducible refine t_next ?_
        with_reducible refine r_cons ?_
        with_reducible refine wpAny_If ?_
        have f1 : M "ahead" = some (.ref D2) := by rw [hM]; rfl
        have f2 : M "denies" = some (.bool den) := by rw [hM]; exact e4
        have f3 : M "number" = some (.int t.num tk) := by rw [hM]; rfl
        have f4 : M "spoiled" = some (.int sp ts') := by rw [hM]; exact e3
        have f5 : M "cache" = some (.ref D) := by rw [hM]; exact e1
        have f6 : M "tables" = some (.ref d) := by rw [hM]; exact e2
        clear hM
        refine wpAny_mono (Q := fun b s₂ => b = decide (e.u = u ∨ den = false) ∧ ∃ h k, s₂ = S3 s h k ∧ Own g2 L h M [(D, o5), it]) ?_ (fun b s₂ hb => ?_) (fun _ _ x => x)
        · repeat (walk_at "ms")
          try with_reducible refine r_len_list (O.list hl2) (by rw [hsz]; walk_at "o") ?_
          try rw [hsz]
          repeat (walk_at "ms")
          with_reducible refine r_item_list (x := .ref ae) (O.list hl2) (by decide) (by decide) (by simp) ?_ (by with_unfolding_all rfl)
          repeat (walk_at "ms")
          with_reducible refine r_item_tup (O.tup hte) (by decide) (by simp) (by simp) rfl ?_ (by with_unfolding_all rfl)
          repeat (walk_at "ms")
          by_cases hu : e.u = u
          · refine if_T (by simpa using hu) ?_
            repeat (walk_at "ms")
            exact ⟨by simp [hu], _, _, rfl, O⟩
          · refine if_F (by simpa using hu) ?_
            repeat (walk_at "ms")
            refine if_bool (fun hb => ?_) fun hb => ?_
            · repeat (walk_at "ms")
              exact ⟨by have hd : den = false := by simpa using hb
                        simp [hd], _, _, rfl, O⟩
            · repeat (walk_at "ms")
              exact ⟨by simpa [hu] using hb, _, _, rfl, O⟩
        · obtain ⟨rfl, h10, k10, rfl, O⟩ := hb
          refine if_dec (fun hC => ?_) fun hC => ?_
          · rw [if_pos hC] at hce2
            with_reducible refine r_seq (fun s₂ => ∃ h k, s₂ = S3 s h k ∧ Own g2 L h (fun z => if z = Str.ofString "e" then some (.ref ae) else M z) [(D, o5), it]) ?_ ?_
            · repeat (walk_at "ms")
              with_reducible refine r_item_list (x := .ref ae) (O.list hl2) (by decide) (by decide) (by simp) ?_ (by with_unfolding_all rfl)
              repeat (walk_at "ms")
              rename_i O
              exact ⟨rfl, _, _, rfl, O⟩
            rintro s₂ ⟨h11, k11, rfl, O⟩
            with_reducible refine r_seq (fun s₂ => ∃ h k, s₂ = S3 s h k ∧ Own g2 L h (fun z => if z = Str.ofString "kind" then some (.int e.k te3) else if z = Str.ofString "e" then some (.ref ae) else M z) [(D, o5), it]) ?_ ?_
            · repeat (walk_at "ms")
              with_reducible refine r_item_tup (O.tup hte) (by decide) (by simp) (by simp) rfl ?_ (by with_unfolding_all rfl)
              repeat (walk_at "ms")
              rename_i O
              exact ⟨rfl, _, _, rfl, O⟩
            rintro s₂ ⟨h12, k12, rfl, O⟩
            with_reducible refine r_seq (fun s₂ => ∃ h k m' tk', s₂ = S3 s h k ∧ Own g2 L h m' [(D, o5), it] ∧ m' "kind" = some (.int (if t.num = sp then 7 else e.k) tk') ∧ m' "e" = some (.ref ae) ∧ m' "cache" = some (.ref D) ∧ m' "number" = some (.int t.num tk) ∧ m' "denies" = some (.bool den) ∧ m' "spoiled" = some (.int sp ts') ∧ m' "tables" = some (.ref d)) ?_ ?_
            · by_cases hs : t.num = sp
              · repeat (walk_at "ms")
                rename_i O
                exact ⟨rfl, _, _, _, _, rfl, O, (by first | (rw [if_pos hs]; rfl) | (rw [if_neg hs]; rfl)), rfl, f5, f3, f2, f4, f6⟩
              · repeat (walk_at "ms")
                exact ⟨rfl, _, _, _, _, rfl, O, (by first | (rw [if_pos hs]; rfl) | (rw [if_neg hs]; rfl)), rfl, f5, f3, f2, f4, f6⟩
            rintro s₂ ⟨h13, k13, m13, tk13, rfl, O, c1, c2, c3, c4, c5, c6, c7⟩
            have hkd : 0 ≤ (if t.num = sp then (7 : Int) else e.k) ∧ (if t.num = sp then (7 : Int) else e.k) < 256 := by split <;> walk_at "o"
            generalize (if t.num = sp then (7 : Int) else e.k) = kd at c1 hkd hce2
            repeat (walk_at "ms")
            with_reducible refine r_item_tup (O.tup hte) (by decide) (by simp) (by simp) rfl ?_ (by with_unfolding_all rfl)
            repeat (walk_at "ms")
            with_reducible refine r_item_tup (O.tup hte) (by decide) (by simp) (by simp) rfl ?_ (by with_unfolding_all rfl)
            repeat (walk_at "ms")
            refine ikey_spec (O.gk G) (hA.le (by decide)) y1 y2 (by walk_at "o") (by walk_at "o") hkd.1 hkd.2 fun h14 k14 t14 st14 => ?_
            have O := O.grow st14
            repeat (walk_at "ms")
            with_reducible refine r_item_tup (O.tup hte) (by decide) (by simp) (by simp) rfl ?_ (by with_unfolding_all rfl)
            repeat (walk_at "ms")
            with_reducible refine r_item_tup (O.tup hte) (by decide) (by simp) (by simp) rfl ?_ (by with_unfolding_all rfl)
            repeat (walk_at "ms")
            rename_i O
            with_reducible refine r_bytes_ints hA.handled O.headList (ns := [65 + e.u, (0 - e.m) % 251]) (.cons _ _ (.cons _ _ .nil)) ?_ (by simp) fun h15 t15 k15 st15 => ?_
            · simp only [List.forall_mem_cons, List.not_mem_nil, false_implies, implies_true, and_true]
              walk_at "o"
            have O := (O.grow st15).drop
            repeat (walk_at "ms")
            with_reducible refine r_newTuple (by simp) fun T2 h16 fT2 sT2 eT2 => ?_
            obtain ⟨g3, st3, O, eT2⟩ := O.newTup fT2 sT2 eT2
            repeat (walk_at "ms")
            with_reducible refine r_dset O hd5 (by simp; walk_at "o") fun h17 o6 hd6 O => ?_
            rw [stored_last hfresh] at hd6
            repeat (walk_at "ms")
            refine ⟨g3, h17, _, [(D, o6)], _, rfl, fun b o e => st3 b o (st2 b o e), O.swap, c3, c7, ⟨_, c6⟩, c5, o6, kvs4 ++ [(t.num, .ref T2)], rfl, hd6, ?_⟩
            rw [htk, hce2]
            exact (hce.imp fun _ _ q => ⟨q.1, q.2.mono fun b o e => st3 b o (st2 b o e)⟩).append (.cons ⟨rfl, T2, _, _, rfl, eT2⟩ .nil)
          · rw [if_neg hC] at hce2
            repeat (walk_at "ms")
            refine ⟨g2, _, _, [(D, o5)], _, rfl, st2, O.swap, f5, f6, ⟨_, f4⟩, f2, o5, kvs4 ++ [(t.num, .none)], rfl, hd5, ?_⟩
            rw [htk, hce2]
            exact (hce.imp fun _ _ q => ⟨q.1, q.2.mono st2⟩).append (.cons ⟨rfl, rfl⟩ .nil)
  · rintro g' h7 m7 mu7 k7 hg ⟨e1, e2, ⟨ts', e3⟩, e4, o4, kvs4, rfl, hd4, hce⟩ O
    have G := G.keeps hg
    rw [hkl, List.take_length] at hce
    repeat (walk_at "ms")
    refine hQ _ _ D (fun b o e => O.keep b o (hg b o (sg b o e))) ⟨nD, kvs4, Heap.dictOf_iff.mpr ⟨o4, O.head, hd4⟩, hce.imp fun _ _ q => ⟨q.1, q.2.mono O.keep⟩⟩
  · intro _ _; rfl
end cch
noncomputable def ltKey (u m : Int) (e : En) : Bool := decide (e.u < u ∨ (e.u = u ∧ e.m < m))
section wlk
variable {w : World} {A : Around} {s : Shared} {hp base : Heap} {k : Nat} {mg mb : Str → Option Value} {Q : Value → Shared → Prop} {E : Value → Shared → Prop} {outer : List Env}
theorem walk_spec (G : GK w mg mb base) (hA : OkA A 8) (K : Below A base outer hp) {a x ea : Addr} {fs : List FM} {es : List En} {u m : Int} {tu tm : Tok} (Fi : IsFiles base a fs) (I : IsOrd base x) (Ev : IsPart base ea es) (Ky : KeyOk u m 1)
    (ok : ∀ f ∈ fs, f.Ok) (hz : fs.length ≤ 100) (hez : es.length ≤ 100) (hcut : CutOk fs u m 1) (hat : (es.filter (ltKey u m)).length = cutIdx fs u m 1)
    (hQ : ∀ h' tk, base.StaysIn h' → hp.UpToSlots h' → Q (.bool true) (S3 s h' tk)) :
    wpAny (model PG w) A (call (.ref 588) [.ref a, .ref x, .ref ea, .int u tu, .int m tm] []) Q E (S3 s hp k) := by
  refine wpAny_call (enter_c2t (n1 := "u") (n2 := "minus") (v1 := .int u tu) (v2 := .int m tm) [("files", .ref a), ("order", .ref x), ("ends", .ref ea), ("u", .int u tu), ("minus", .int m tm)] (fun y => if y = "ends" then some (.ref ea) else if y = "order" then some (.ref x) else if y = "files" then some (.ref a) else none) G hA K (by k_is) (by k_is) rfl (fun _ => rfl) ?_ (fun _ => rfl) (fun _ => rfl) (by decide) (fun _ => rfl) ?_)
  · intro x hx
    simp only [List.mem_cons, List.not_mem_nil, or_false] at hx
    rcases hx with rfl | rfl | rfl | rfl | rfl
    · exact .inl rfl
    · exact .inl rfl
    · exact .inl rfl
    · exact .inr ⟨rfl, .inl rfl⟩
    · exact .inr ⟨rfl, .inr rfl⟩
  intro A' E' g h₁ L k₁ hA sp hpL O cu cm hfr Bel
  have sg : base.StaysIn g := fun b o e => sp b o (K.stays b o e)
  have G0 := G
  have G := G.keeps sg
  have y1 := Ky.u0; have y2 := Ky.u1; have y3 := Ky.m0; have y4 := Ky.m1
  obtain ⟨vs, hl0, hvs0⟩ := id Fi
  have Fi := Fi.mono sg
  have I := I.mono sg
  obtain ⟨evs, evl, evv⟩ := Ev.mono sg
  have evlen := evv.length
  have hl := stays_list sg hl0
  have hvs := hvs0.imp fun _ _ q => IsMeta.mono sg q
  have hvl := hvs.length
  have hcl := cutIdx_le fs u m 1
  repeat (walk_at "ms")
  refine ikey_spec (O.gk G) (hA.le (by decide)) y1 y2 y3 y4 (by decide) (by decide) fun h2 k2 t2 st2 => ?_
  have O := O.grow st2
  repeat (walk_at "ms")
  rename_i O
  refine r_lcomp (L := L) (entP g (ltKey u m)) (fun v y => y = v) hA.handled (by rfl) (by decide) rfl (by decide) rfl (fun _ => rfl) ?_
  repeat (walk_at "ms")
  have cu1 := IsCell.mono O.keep cu
  have cm1 := IsCell.mono O.keep cm
  refine ⟨ea, evs.toArray, g, _, _, _, _, rfl, rfl, O, O.list evl, by simp; walk_at "o", ?_, ?_, ?_⟩
  · rintro s' v C h9 k9 m9 E' hv9 O9 e9
    refine one_test ?_
    obtain ⟨e, he, Ie⟩ := ent_mem evv (by simpa using hv9)
    rw [entP_eq Ie]
    obtain ⟨ae, te1, te2, te3, te4, rfl, hte⟩ := Ie
    have hte := O9.tup (O.tup hte)
    repeat (walk_at "ms")
    with_reducible refine r_item_tup hte (by decide) (by simp) (by simp) rfl ?_ (by with_unfolding_all rfl)
    repeat (walk_at "ms")
    with_reducible refine r_item_tup hte (by decide) (by simp) (by simp) rfl ?_ (by with_unfolding_all rfl)
    repeat (walk_at "ms")
    with_reducible refine r_newTuple (by simp) fun T1 h10 fT1 sT1 eT1 => ?_
    have O9 := O9.grow sT1
    repeat (walk_at "ms")
    with_reducible refine r_newTuple (by simp) fun T2 h11 fT2 sT2 eT2 => ?_
    repeat (walk_at "ms")
    refine r_lt_pair hA.cRoom (stays_tup sT2 eT1) eT2 ?_
    repeat (walk_at "ms")
    exact ⟨rfl, _, _, rfl, fun b o e => sT2 b o (sT1 b o e)⟩
  · rintro s' v C h9 k9 m9 E' hv9 hp9 O9 e9
    repeat (walk_at "ms")
    exact ⟨rfl, _, _, rfl, fun _ _ e => e⟩
  · intro D2 ys n2 h9 k9 fD2 st9 O hF
    have ey := paired_same (fun _ _ q => q) hF
    have hye : All2 (IsEnt g) ys.toList (es.filter (ltKey u m)) := by rw [ey]; exact ent_filter evv
    have hysz : ys.size = cutIdx fs u m 1 := by rw [← hat, ← hye.length]; simp
    have hlD := isList_of O.head
    repeat (walk_at "ms")
    rename_i O
    rw [hysz] at O
    have O := O.drop
    clear hlD
    refine find_spec (O.gk G) (hA.le (by decide)) (Fi.mono O.keep) (I.mono O.keep) Ky ok (by walk_at "o") hcl hcut fun h10 k10 t10 st10 => ?_
    have O := O.grow st10
    repeat (walk_at "ms")
    refine if_F (by simp) ?_
    repeat (walk_at "ms")
    have OX := O
    refine walker_new G O (hA.le (by decide)) fun g2 h11 y dx wes n11 k11 fy sg2 O hy W => ?_
    have G := G.keeps sg2
    have Fi := Fi.mono sg2
    have I := I.mono sg2
    have cu := IsCell.mono sg2 cu
    have cm := IsCell.mono sg2 cm
    have hl := stays_list sg2 hl
    have fyp : hp.get? y = none := fresh_of_stays (fun b o e => OX.keep b o (sp b o e)) fy
    have fdp : hp.get? dx = none := fresh_of_stays (fun b o e => sg2 b o (sp b o e)) (O.mus _ (.head _)).2.2
    have off : ∀ (h9 : Heap) (k9 : Nat) (m9 : Str → Option Value) (es9 : List DictEntry) (n9 : Nat) (p9 : Int), Own g2 L h9 m9 [(dx, dictOf es9 n9)] → WalkEs es9 a x p9 → ¬ (0 ≤ p9 ∧ p9 < vs.toArray.size) → wpAny (model PG w) A' (call (.ref 583) [.ref y] []) Q E' (S3 s h9 k9) := by
      intro h9 k9 m9 es9 n9 p9 O9 W9 hv9
      have Ob := O9.weak (fun b o e => sg2 b o (sg b o e))
      have Uc : hp.UpToSlots h9 := .of_keeps fun b o e => O9.keep b o (sg2 b o (sp b o e))
      obtain ⟨B, sB, OB, KB, kB⟩ := Mine.Below.own (Bel Ob Uc) Ob rfl
      have nf : ∀ (env : Env), env.frame = some L → ∀ b, hp.get? b = none → b ≠ L → b ∉ (env :: outer).filterMap (·.frame) := by
        intro env henv b hb hbL hm
        rw [List.filterMap_cons, henv] at hm
        rcases List.mem_cons.mp hm with e | hm
        · exact hbL e
        · obtain ⟨o, ho, _⟩ := (K.frames.mem hm).2
          rw [hb] at ho; cases ho
      have yB := kB y _ (O9.get hy) (nf _ rfl y fyp (O9.ne hy))
      have dB := kB dx _ O9.head (nf _ rfl dx fdp (O9.mus _ (.head _)).2.1)
      refine off_spec (G0.keeps sB) (hA.le (by decide)) KB ⟨dx, n9, yB, dB⟩ W9 (stays_list sB hl0) (by simp; walk_at "o") hv9 fun h' tk st U => ?_
      exact hQ h' tk (fun b o e => st b o (sB b o e)) (Uc.trans U)
    have hne : y ≠ dx := fun e => by have := (O.mus _ (.head _)).2.2; rw [← e, hy] at this; cases this
    have ev := W.other "valid" (by decide) (by decide) (by decide)
    repeat (walk_at "ms")
    rename_i O
    refine valid_spec (O.gk G) (hA.le (by decide)) ⟨dx, _, O.get hy, O.head⟩ W (O.list hl) (by simp; walk_at "o") fun h12 k12 st12 => ?_
    rw [show decide ((0 : Int) ≤ -1 ∧ (-1 : Int) < vs.toArray.size) = false by simp]
    have O := O.grow st12
    have es := W.other "seek" (by decide) (by decide) (by decide)
    repeat (walk_at "ms")
    rename_i O
    refine seek_spec G O.keep (O.mus _ (.head _)).2.2 (O.get hy) hne O.head (hA.le (by decide)) W Fi I Ky ok (by walk_at "o") hcl hcut fun h13 wes2 n13 k13 kb13 e13 W2 => ?_
    have O := O.updK kb13 e13
    have ev := W2.other "valid" (by decide) (by decide) (by decide)
    have ek := W2.other "key" (by decide) (by decide) (by decide)
    have evl2 := W2.other "value" (by decide) (by decide) (by decide)
    have eb := W2.other "back" (by decide) (by decide) (by decide)
    clear W es
    repeat (walk_at "ms")
    refine valid_spec (O.gk G) (hA.le (by decide)) ⟨dx, _, O.get hy, O.head⟩ W2 (O.list hl) (by simp; walk_at "o") fun h14 k14 st14 => ?_
    have O := O.grow st14
    have hsz : vs.toArray.size = fs.length := by simp [hvl]
    have hzz : vs.toArray.size < 2 ^ 62 := by walk_at "o"
    rw [hsz]
    have hbeq : (decide ((0 : Int) ≤ (cutIdx fs u m 1 : Nat) ∧ ((cutIdx fs u m 1 : Nat) : Int) < (fs.length : Nat)) != decide (((cutIdx fs u m 1 : Nat) : Int) < (fs.length : Nat))) = false := by
      rw [bne_eq_false_iff_eq, decide_eq_decide]
      walk_at "o"
    repeat (walk_at "ms")
    rw [hsz]
    repeat (walk_at "ms")
    by_cases hc : cutIdx fs u m 1 < fs.length
    · obtain ⟨f, hf⟩ : ∃ f, fs[cutIdx fs u m 1]? = some f := ⟨_, List.getElem?_eq_getElem hc⟩
      obtain ⟨mv, hmv, im⟩ := hvs.get hf
      have im := im.mono sg2
      obtain ⟨xm, em, rfl, Im, ⟨tn, enum⟩, ⟨tsm, esm⟩, ⟨tla, ela⟩⟩ := im
      have okf := ok f (List.mem_of_getElem? hf)
      have yn0 := okf.n0; have yn1 := okf.n1
      repeat (walk_at "ms")
      refine key_spec (O.gk G) (hA.le (by decide)) ⟨dx, _, O.get hy, O.head⟩ W2 (Fi.mono O.keep) (by walk_at "o") (by walk_at "o") (f := f) (by simpa using hf) fun h15 k15 t15 st15 => ?_
      have O := O.grow st15
      repeat (walk_at "ms")
      with_reducible refine r_item_list (x := .ref xm) (O.list hl) (by walk_at "o") (by walk_at "o") (by simpa using hmv) ?_ (by with_unfolding_all rfl)
      repeat (walk_at "ms")
      refine if_F (by simp) ?_
      repeat (walk_at "ms")
      refine value_spec (O.gk G) (hA.le (by decide)) ⟨dx, _, O.get hy, O.head⟩ W2 (Fi.mono O.keep) (by walk_at "o") (by walk_at "o") (f := f) (by simpa using hf) okf fun h16 k16 t16 st16 => ?_
      have O := O.grow st16
      repeat (walk_at "ms")
      with_reducible refine r_item_list (x := .ref xm) (O.list hl) (by walk_at "o") (by walk_at "o") (by simpa using hmv) ?_ (by with_unfolding_all rfl)
      repeat (walk_at "ms")
      rename_i O
      with_reducible refine r_bytes_ints hA.handled O.headList (ns := [f.num]) (.cons _ _ .nil) ?_ (by simp) fun h17 t17 k17 st17 => ?_
      · simp only [List.forall_mem_cons, List.not_mem_nil, false_implies, implies_true, and_true]
        walk_at "o"
      have O := (O.grow st17).drop
      repeat (walk_at "ms")
      refine if_F (by simp) ?_
      repeat (walk_at "ms")
      refine back_spec G O.keep (O.mus _ (.head _)).2.2 (O.get hy) hne O.head (hA.le (by decide)) W2 hl (by walk_at "o") (by walk_at "o") fun h18 wes3 n18 k18 kb18 e18 W3 => ?_
      have O := O.updK kb18 e18
      have ev := W3.other "valid" (by decide) (by decide) (by decide)
      have ek := W3.other "key" (by decide) (by decide) (by decide)
      clear W2 evl2 eb
      repeat (walk_at "ms")
      refine valid_spec (O.gk G) (hA.le (by decide)) ⟨dx, _, O.get hy, O.head⟩ W3 (O.list hl) (by walk_at "o") fun h19 k19 st19 => ?_
      have O := O.grow st19
      rw [hsz]
      have hbeq2 : (decide ((0 : Int) ≤ ((cutIdx fs u m 1 : Nat) : Int) - 1 ∧ ((cutIdx fs u m 1 : Nat) : Int) - 1 < (fs.length : Nat)) != decide (((cutIdx fs u m 1 : Nat) : Int) > 0)) = false := by
        rw [bne_eq_false_iff_eq, decide_eq_decide]
        walk_at "o"
      repeat (walk_at "ms")
      by_cases h0 : cutIdx fs u m 1 = 0
      · repeat (walk_at "ms")
        exact off _ _ _ _ _ _ O W3 (by walk_at "o")
      · obtain ⟨f0, hf0⟩ : ∃ f0, fs[cutIdx fs u m 1 - 1]? = some f0 := ⟨_, List.getElem?_eq_getElem (by walk_at "o")⟩
        obtain ⟨mv0, hmv0, im0⟩ := hvs.get hf0
        have im0 := im0.mono sg2
        obtain ⟨xm0, em0, rfl, Im0, -, -, ⟨tla0, ela0⟩⟩ := im0
        have ei : (((cutIdx fs u m 1 : Nat) : Int) - 1).toNat = cutIdx fs u m 1 - 1 := by walk_at "o"
        repeat (walk_at "ms")
        refine key_spec (O.gk G) (hA.le (by decide)) ⟨dx, _, O.get hy, O.head⟩ W3 (Fi.mono O.keep) (by walk_at "o") (by walk_at "o") (f := f0) (by rw [ei]; exact hf0) fun h20 k20 t20 st20 => ?_
        have O := O.grow st20
        repeat (walk_at "ms")
        with_reducible refine r_item_list (x := .ref xm0) (O.list hl) (by walk_at "o") (by walk_at "o") (by rw [ei]; simpa using hmv0) ?_ (by with_unfolding_all rfl)
        repeat (walk_at "ms")
        rw [beq_self_eq_true]
        exact hQ _ _ (fun b o e => O.keep b o (sg2 b o (sg b o e))) (.of_keeps fun b o e => O.keep b o (sg2 b o (sp b o e)))
    · repeat (walk_at "ms")
      exact off _ _ _ _ _ _ O W2 (by walk_at "o")
end wlk
section gb
variable {w : World} {A : Around} {s : Shared} {hp base : Heap} {k : Nat} {mg mb : Str → Option Value} {Q : Value → Shared → Prop} {E : Value → Shared → Prop} {outer : List Env}
theorem get_raises (G : GK w mg mb hp) (hA : OkA A 4) (K : Below A base outer hp) {y d : Addr} {b : Array UInt8} {tb tn : Tok} (hE : ∀ v s', Rz s hp base outer 80 v s' → E v s') :
    wpAny (model PG w) A (call (.ref 494) [.ref y, .ref d, .bytes b tb, .int (-1) tn] []) Q E (S3 s hp k) := by
  refine wpAny_call (enter_x (C := 80) [("self", .ref y), ("cache", .ref d), ("user", .bytes b tb), ("seq", .int (-1) tn)] G hA K hE (by k_is) (by k_is) (fun _ => BindsTo.of_eq rfl) (locs rfl) ?_)
  intro A' E' h₁ L k₁ hA hL O X
  repeat (walk_at "ms")
  exact mkikey_raises (O.gk G) hA (X.below O) fun v s' R => X.on v s' (R.weak O.keep)
end gb
noncomputable def lawB : List Stmt := gl (fBody (stT 46)) (by (conv => lhs; whnf))
noncomputable def lawS : Scope := gl (fScope (stT 46)) (by (conv => lhs; whnf))
noncomputable abbrev lawEnv (L fa : Addr) (cd : Value) : Env := envOfC "law" lawS L fa cd
noncomputable def forB : Stmt → List Stmt
  | .For _ _ b _ _ => b
  | _ => []
noncomputable def histB : List Stmt := gl (forB (lawB.getD 8 (.Pass default))) (by (conv => lhs; whnf))
noncomputable def rest9 : List Stmt := lawB.drop 9
/-- the names that the law keeps -/
structure LV (m : Str → Option Value) (an H : Addr) (a : Int) (cnt size : Nat) : Prop where
  nums : m "nums" = some (.ref an)
  a : ∃ t, m "a" = some (.int a t)
  count : ∃ t, m "count" = some (.int (cnt : Int) t)
  shelves : ∃ t, m "shelves" = some (.int ((cnt : Int) + 2) t)
  size : ∃ t, m "size" = some (.int (size : Int) t)
  hist : m "history" = some (.ref H)
/-- what stands between the writes -/
structure HInv (cnt i : Nat) (es : List En) (sh : List Int) : Prop where
  len : es.length = i
  slen : sh.length = 5
  sb : ∀ v ∈ sh, 0 ≤ v ∧ v ≤ (cnt : Int) + 1
  hist : HistOk es
  eb : ∀ e ∈ es, 0 ≤ e.sh ∧ e.sh ≤ sh.getD e.u.toNat 0 ∧ -45 * (i : Int) ≤ e.m
theorem hinv_step {cnt i : Nat} {es : List En} {sh : List Int} (I : HInv cnt i es sh) (hi : i < 8) {y : Int} (hy : 0 ≤ y) :
    HInv cnt (i + 1) (es ++ [⟨y % 5, 0 - 1 - 45 * (i : Int) - y / 40 % 40, y / 5 % 2, min ((cnt : Int) + 2 - 1) (sh.getD (y % 5).toNat 0 + y / 10 % 4)⟩]) (sh.set (y % 5).toNat (min ((cnt : Int) + 2 - 1) (sh.getD (y % 5).toNat 0 + y / 10 % 4))) := by
  have hu : (y % 5).toNat < 5 := by walk_at "o"
  have hs0 : 0 ≤ sh.getD (y % 5).toNat 0 ∧ sh.getD (y % 5).toNat 0 ≤ (cnt : Int) + 1 := by
    rw [List.getD_eq_getElem?_getD, List.getElem?_eq_getElem (by rw [I.slen]; exact hu)]
    exact I.sb _ (List.getElem_mem _)
  have hnew : sh.getD (y % 5).toNat 0 ≤ min ((cnt : Int) + 2 - 1) (sh.getD (y % 5).toNat 0 + y / 10 % 4) := by walk_at "o"
  refine ⟨by simp [I.len], by simp [I.slen], ?_, ⟨?_, ?_⟩, ?_⟩
  · intro v hv
    rcases List.mem_or_eq_of_mem_set hv with h | h
    · exact I.sb v h
    · subst h; walk_at "o"
  · intro e he
    rcases List.mem_append.mp he with h | h
    · exact I.hist.ok e h
    · rw [List.mem_singleton.mp h]
      exact ⟨by show 0 ≤ y % 5; walk_at "o", by show y % 5 < 5; walk_at "o", by show 0 - 1 - 45 * (i : Int) - y / 40 % 40 ≤ -1; walk_at "o", by show -1000 < 0 - 1 - 45 * (i : Int) - y / 40 % 40; walk_at "o", by show y / 5 % 2 = 0 ∨ y / 5 % 2 = 1; walk_at "o"⟩
  · refine List.pairwise_append.mpr ⟨I.hist.pw, List.pairwise_singleton _ _, fun x hx z hz => ?_⟩
    rw [List.mem_singleton.mp hz]
    have e := I.eb x hx
    refine ⟨by show 0 - 1 - 45 * (i : Int) - y / 40 % 40 < x.m; walk_at "o", fun hxu => ?_⟩
    have hxu : x.u = y % 5 := hxu
    rw [hxu] at e
    show x.sh ≤ min ((cnt : Int) + 2 - 1) (sh.getD (y % 5).toNat 0 + y / 10 % 4)
    walk_at "o"
  · intro e he
    have gset : ∀ j : Nat, (sh.set (y % 5).toNat (min ((cnt : Int) + 2 - 1) (sh.getD (y % 5).toNat 0 + y / 10 % 4))).getD j 0 = if j = (y % 5).toNat then min ((cnt : Int) + 2 - 1) (sh.getD (y % 5).toNat 0 + y / 10 % 4) else sh.getD j 0 := by
      intro j
      rw [List.getD_eq_getElem?_getD, List.getElem?_set]
      by_cases hj : (y % 5).toNat = j
      · subst hj; rw [if_pos rfl, if_pos (by rw [I.slen]; exact hu), if_pos rfl]; rfl
      · rw [if_neg hj, if_neg (Ne.symm hj), List.getD_eq_getElem?_getD]
    rw [gset]
    rcases List.mem_append.mp he with h | h
    · have q := I.eb e h
      refine ⟨q.1, ?_, by push_cast; walk_at "o"⟩
      split
      · rename_i hj; rw [hj] at q; walk_at "o"
      · exact q.2.1
    · rw [List.mem_singleton.mp h]
      refine ⟨?_, ?_, ?_⟩
      · show 0 ≤ min ((cnt : Int) + 2 - 1) (sh.getD (y % 5).toNat 0 + y / 10 % 4); walk_at "o"
      · show min ((cnt : Int) + 2 - 1) (sh.getD (y % 5).toNat 0 + y / 10 % 4) ≤ if (y % 5).toNat = (y % 5).toNat then _ else _
        rw [if_pos rfl]; exact Int.le_refl _
      · show -45 * ((i + 1 : Nat) : Int) ≤ 0 - 1 - 45 * (i : Int) - y / 40 % 40; push_cast; walk_at "o"
theorem ints_set {vs : List Value} {ns : List Int} (I : IntsAre vs ns) (j : Nat) (x : Int) (t : Tok) : IntsAre (vs.set j (.int x t)) (ns.set j x) := by
  induction I generalizing j with
  | nil => exact .nil
  | cons n t' r ih =>
    cases j with
    | zero => exact .cons _ _ r
    | succ j => exact .cons _ _ (ih j)
/-- a draw is no negative number -/
noncomputable def drawV (ns : List Int) (i : Int) : Int := ns.getD (i % ns.length).toNat 0 + 31 * (i / ns.length)
theorem drawV_nonneg {ns : List Int} {i : Int} (hn : 0 < ns.length) (hx : ∀ x ∈ ns, 0 ≤ x) (hi : 0 ≤ i) : 0 ≤ drawV ns i := by
  unfold drawV
  have h1 : 0 ≤ ns.getD (i % ns.length).toNat 0 := by
    rw [List.getD_eq_getElem?_getD]
    cases q : ns[(i % ns.length).toNat]? with
    | none => exact Int.le_refl _
    | some x => exact hx x (List.mem_of_getElem? q)
  have h2 : 0 ≤ i / (ns.length : Int) := Int.ediv_nonneg hi (by walk_at "o")
  walk_at "o"
section law1
variable {w : World} {A : Around} {s : Shared} {g h : Heap} {k : Nat} {mg mb : Str → Option Value} {E : Value → Shared → Prop} {L fa : Addr} {cd : Value} {m : Str → Option Value} {mu0 : List (Addr × Obj)}
theorem hist_turn {Q : Flow → Shared → Prop} {an S H : Addr} {it : Addr × Obj} {a : Int} {cnt size i : Nat} {sv hv nv : List Value} {n1 n2 : Nat} {sh ns : List Int} {es : List En} {tk : Tok}
    (G : GK w mg mb g) (hA : OkA A 2) (O : Own g L h m (it :: (S, listOf sv.toArray n1) :: (H, listOf hv.toArray n2) :: mu0)) (V : LV m an H a cnt size) (fS : m "at_shelf" = some (.ref S)) (fi : m "i" = some (.int ((0 : Int) + (i : Int) * 1) tk))
    (hl : g.IsList an nv.toArray) (hI : IntsAre nv ns) (hn : 0 < ns.length) (hn2 : ns.length ≤ 13) (hx : ∀ x ∈ ns, 0 ≤ x) (hsv : IntsAre sv sh) (he : All2 (IsEnt g) hv es) (I : HInv cnt i es sh) (hi : i < 8)
    (hQ : ∀ g' h' m' sv' n1' hv' n2' sh' es' k', g.StaysIn g' → Own g' L h' m' (it :: (S, listOf sv'.toArray n1') :: (H, listOf hv'.toArray n2') :: mu0) → LV m' an H a cnt size → m' "at_shelf" = some (.ref S) → IntsAre sv' sh' → All2 (IsEnt g') hv' es' → HInv cnt (i + 1) es' sh' → Q .next (S3 s h' k')) :
    wpAny (model PG w) A (execs histB (lawEnv L fa cd)) Q E (S3 s h k) := by
  unfold histB
  obtain ⟨f1, ⟨ta, f2⟩, ⟨tc, f3⟩, ⟨tsh, f4⟩, ⟨tz, f5⟩, f6⟩ := V
  have hsl := hsv.length
  have hel := he.length
  have il := I.len
  have isl := I.slen
  repeat (walk_at "ms")
  rw [show (1 : Int) + ((0 : Int) + (i : Int) * 1) = ((i + 1 : Nat) : Int) by push_cast; walk_at "o"]
  refine draw_spec (O.gk G) (hA.le (by decide)) (O.list hl) hI hn (by walk_at "o") fun h2 k2 t2 st2 => ?_
  have O := O.grow st2
  have hy := drawV_nonneg (i := ((i + 1 : Nat) : Int)) hn hx (by walk_at "o")
  unfold drawV at hy
  generalize ns.getD (((i + 1 : Nat) : Int) % ns.length).toNat 0 + 31 * (((i + 1 : Nat) : Int) / ns.length) = y at hy ⊢
  have hstep := hinv_step I hi hy
  have hu0 : 0 ≤ y % 5 := by walk_at "o"
  have hu1 : (y % 5).toNat < sv.length := by walk_at "o"
  obtain ⟨t3, hx3⟩ := hsv.get (y % 5).toNat _ (by rw [List.getElem?_eq_getElem (by walk_at "o" : (y % 5).toNat < sh.length)])
  have hgd : sh[(y % 5).toNat]'(by walk_at "o") = sh.getD (y % 5).toNat 0 := by rw [List.getD_eq_getElem?_getD, List.getElem?_eq_getElem (by walk_at "o" : (y % 5).toNat < sh.length)]; rfl
  rw [hgd] at hx3
  repeat (walk_at "ms")
  rename_i O
  have hlS := isList_of O.second
  with_reducible refine r_item_list (x := .int (sh.getD (y % 5).toNat 0) t3) hlS (by walk_at "o") (by walk_at "o") (by rw [List.getElem?_toArray]; exact hx3) ?_ (by with_unfolding_all rfl)
  repeat (walk_at "ms")
  refine r_min hA.handled fun h5 t5 k5 st5 => ?_
  have O := O.grow st5
  repeat (walk_at "ms")
  generalize hv9 : min ((cnt : Int) + 2 - 1) (sh.getD (y % 5).toNat 0 + y / 10 % 4) = v at hstep ⊢
  have O := O.swap
  with_reducible refine r_setL O hu0 (by simp; walk_at "o") (by simp; walk_at "o") fun h6 O => ?_
  have es6 : sv.toArray.setIfInBounds (y % 5).toNat (Value.int v t5) = (sv.set (y % 5).toNat (Value.int v t5)).toArray := by simp
  rw [es6] at O
  have hsv6 := ints_set hsv (y % 5).toNat v t5
  have hg6 : (sv.set (y % 5).toNat (Value.int v t5))[(y % 5).toNat]? = some (Value.int v t5) := by rw [List.getElem?_set_self (by walk_at "o")]
  have hl6 : (sv.set (y % 5).toNat (Value.int v t5)).length = 5 := by rw [List.length_set]; walk_at "o"
  clear hlS
  generalize sv.set (y % 5).toNat (Value.int v t5) = sv6 at O hsv6 hg6 hl6
  have O := (O.swap.perm (.cons _ (.swap _ _ _))).swap
  repeat (walk_at "ms")
  with_reducible refine r_mAppend O.head ?_
  have hlS := isList_of (O.mus _ (.tail _ (.tail _ (.head _)))).1
  repeat (walk_at "ms")
  with_reducible refine r_item_list (x := .int v t5) hlS hu0 (by walk_at "o") (by rw [List.getElem?_toArray]; exact hg6) ?_ (by with_unfolding_all rfl)
  repeat (walk_at "ms")
  with_reducible refine r_newTuple (by simp) fun T h7 fT sT eT => ?_
  obtain ⟨g7, st7, O, eT⟩ := O.newTup fT sT eT
  repeat (walk_at "ms")
  with_reducible refine r_append O (by simp; walk_at "o") fun h8 n8 O => ?_
  have e8 : hv.toArray.push (Value.ref T) = (hv ++ [Value.ref T]).toArray := by simp
  rw [e8] at O
  repeat (walk_at "ms")
  have O := (O.swap.perm (.cons _ (.swap _ _ _)))
  refine hQ g7 _ _ _ _ _ _ _ _ _ st7 O ⟨f1, ⟨_, f2⟩, ⟨_, f3⟩, ⟨_, f4⟩, ⟨_, f5⟩, f6⟩ fS hsv6 ((he.imp fun _ _ q => IsEnt.mono st7 q).append (.cons ?_ .nil)) hstep
  rw [show (0 : Int) + (i : Int) * 1 = (i : Int) by walk_at "o"] at eT
  exact ⟨T, _, _, _, _, rfl, eT⟩
end law1
/-- what stands when the history is written -/
structure Hist1 (g : Heap) (m : Str → Option Value) (an H : Addr) (a : Int) (cnt size : Nat) (nv hv : List Value) (ns : List Int) (es : List En) : Prop where
  lv : LV m an H a cnt size
  nl : g.IsList an nv.toArray
  ni : IntsAre nv ns
  n0 : 0 < ns.length
  n1 : ns.length ≤ 13
  nn : ∀ x ∈ ns, 0 ≤ x
  hl : g.IsList H hv.toArray
  he : All2 (IsEnt g) hv es
  len : es.length = size
  hist : HistOk es
  sb : ∀ e ∈ es, 0 ≤ e.sh ∧ e.sh ≤ (cnt : Int) + 1
  c0 : 2 ≤ cnt
  c1 : cnt ≤ 4
  s0 : 4 ≤ size
  s1 : size ≤ 8
section law2
variable {w : World} {A : Around} {s : Shared} {g h : Heap} {k : Nat} {mg mb : Str → Option Value} {E : Value → Shared → Prop} {L fa : Addr} {cd : Value} {m : Str → Option Value} {mu0 : List (Addr × Obj)}
theorem ints_map_mod {vs ys : List Value} (P : Paired (fun v y => ∃ i t t', v = Value.int i t ∧ y = Value.int (i % 999983) t') vs ys) : ∀ {ns : List Int}, IntsAre vs ns → IntsAre ys (ns.map (· % 999983)) := by
  induction P with
  | nil => intro ns h; cases h; exact .nil
  | cons a _ ih =>
    intro ns h
    obtain ⟨i, t, t', rfl, rfl⟩ := a
    cases h with
    | cons _ _ r => exact .cons _ _ (ih r)
theorem ints_mem {vs : List Value} {ns : List Int} (I : IntsAre vs ns) {v : Value} (hv : v ∈ vs) : ∃ i t, v = .int i t := by
  induction I with
  | nil => cases hv
  | cons n t _ ih =>
    rcases List.mem_cons.mp hv with rfl | hv
    · exact ⟨_, _, rfl⟩
    · exact ih hv
theorem law_head {Q : Flow → Shared → Prop} {sa : Addr} {vs : List Value} {ns0 : List Int} (G : GK w mg mb g) (hA : OkA A 2) (O : Own g L h m mu0) (fs : m "script" = some (.ref sa)) (hl : g.IsList sa vs.toArray) (hI : IntsAre vs ns0) (hz : ns0.length ≤ 63)
    (hQ : ∀ g' h' m' k' an H a cnt size nv hv ns es, g.StaysIn g' → Own g' L h' m' mu0 → Hist1 g' m' an H a cnt size nv hv ns es → wpAny (model PG w) A (execs rest9 (lawEnv L fa cd)) Q E (S3 s h' k')) :
    wpAny (model PG w) A (execs lawB (lawEnv L fa cd)) Q E (S3 s h k) := by
  unfold lawB
  have hvl := hI.length
  -- nums
  with_reducible refine r_seq (fun s₂ => ∃ g2 h2 k2 m2 an nv ns, s₂ = S3 s h2 k2 ∧ g.StaysIn g2 ∧ Own g2 L h2 m2 mu0 ∧ m2 "nums" = some (.ref an) ∧ g2.IsList an nv.toArray ∧ IntsAre nv ns ∧ ns.length ≤ 13 ∧ ∀ x ∈ ns, 0 ≤ x) ?_ ?_
  · refine r_lcompA (L := L) (fun _ => true) (fun v y => ∃ i t t', v = .int i t ∧ y = .int (i % 999983) t') hA.handled (by rfl) (by rfl) (by decide) rfl (by decide) rfl (fun _ => rfl) rfl rfl rfl ?_
    repeat (walk_at "ms")
    refine r_slice_listTo (b := 13) O (O.list hl) (by walk_at "o") (fun D h2 O hD => ?_) (by with_unfolding_all rfl) (by intro _; with_unfolding_all rfl)
    refine ⟨D, (vs.take 13).toArray, g, _, _, _, _, rfl, rfl, O, hD, by simp; walk_at "o", ?_, ?_, ?_⟩
    · rintro s' v C h9 k9 m9 E' hv9 O9 e9
      exact no_tests
    · rintro s' v C h9 k9 m9 E' hv9 hp9 O9 e9
      obtain ⟨i, t, rfl⟩ : ∃ i t, v = .int i t := by
        have hm : v ∈ vs.take 13 := by simpa using hv9
        exact ints_mem (hI.take 13) hm
      repeat (walk_at "ms")
      exact ⟨⟨i, t, _, rfl, rfl⟩, _, _, rfl, fun _ _ e => e⟩
    · intro D2 ys n2 h9 k9 fD2 kb O hF
      have hF' : Paired (fun v y => ∃ i t t', v = Value.int i t ∧ y = Value.int (i % 999983) t') (vs.take 13) ys.toList := by
        have e : ((vs.take 13).toArray.toList.filter fun _ => true) = vs.take 13 := List.filter_eq_self.mpr fun _ _ => rfl
        rw [e] at hF
        exact hF
      have hi2 := ints_map_mod hF' (hI.take 13)
      obtain ⟨g2, st2, O2, k3⟩ := O.drop.freeze
      have hl2 := isList_of (k3 D2 _ (O.mus _ (.head _)).2.1 (List.nodup_cons.mp O.nd).1 O.head)
      refine ⟨rfl, g2, h9, k9, _, D2, ys.toList, _, rfl, st2, O2, rfl, by simpa using hl2, hi2, ?_, ?_⟩
      · rw [List.length_map, List.length_take]; walk_at "o"
      · intro x hx
        obtain ⟨y, _, rfl⟩ := List.mem_map.mp hx
        walk_at "o"
  rintro s₂ ⟨g2, h2, k2, m2, an, nv, ns, rfl, st2, O, f1, hl2, hi2, hn2, hx2⟩
  have hnl2 := hi2.length
  have hsz2 : nv.toArray.size = ns.length := by simp [hnl2]
  have G := G.keeps st2
  with_reducible refine r_seq (fun s₂ => ∃ g3 h3 k3 m3 an nv ns, s₂ = S3 s h3 k3 ∧ g2.StaysIn g3 ∧ Own g3 L h3 m3 mu0 ∧ m3 "nums" = some (.ref an) ∧ g3.IsList an nv.toArray ∧ IntsAre nv ns ∧ 0 < ns.length ∧ ns.length ≤ 13 ∧ ∀ x ∈ ns, 0 ≤ x) ?_ ?_
  · by_cases hc : ns.length = 0
    · repeat (walk_at "ms")
      rename_i a6 _ _ _ _ _ _ O
      obtain ⟨g3, st3, O3, k3⟩ := O.drop.freeze
      have hl3 := isList_of (k3 a6 _ (O.mus _ (.head _)).2.1 (List.nodup_cons.mp O.nd).1 O.head)
      exact ⟨rfl, g3, _, _, _, a6, [.int 5 _], [5], rfl, st3, O3, rfl, hl3, .cons _ _ .nil, by decide, by decide, by simp⟩
    · repeat (walk_at "ms")
      exact ⟨rfl, g2, _, _, _, an, nv, ns, rfl, fun _ _ e => e, O, f1, hl2, hi2, by walk_at "o", hn2, hx2⟩
  clear hnl2 hsz2 hl2 hi2 hn2 hx2
  rintro s₂ ⟨g3, h3, k3, m3, an, nv, ns, rfl, st3, O, f1, hl2, hi2, hn1, hn2, hx2⟩
  have G := G.keeps st3
  repeat (walk_at "ms")
  refine draw_spec (O.gk G) (hA.le (by decide)) (O.list hl2) hi2 hn1 (by walk_at "o") fun h4 k4 t4 st4 => ?_
  have O := O.grow st4
  have hy := drawV_nonneg (i := (0 : Int)) hn1 hx2 (by walk_at "o")
  unfold drawV at hy
  generalize ns.getD ((0 : Int) % ns.length).toNat 0 + 31 * ((0 : Int) / ns.length) = a at hy ⊢
  obtain ⟨cnt, hcnt⟩ : ∃ c : Nat, 2 + a % 3 = (c : Int) := ⟨(2 + a % 3).toNat, by walk_at "o"⟩
  obtain ⟨size, hsize⟩ : ∃ c : Nat, 4 + a / 3 % 5 = (c : Int) := ⟨(4 + a / 3 % 5).toNat, by walk_at "o"⟩
  repeat (walk_at "ms")
  rename_i aS _ _ _ _ _ _ _ aH _ _ _ _ _ _ O
  have O := O.swap
  rw [hcnt, hsize] at O
  rw [hsize]
  with_reducible refine r_range1 fun r h6 k6 t1 t2 t3 st6 hr => ?_
  have O := O.grow st6
  repeat (walk_at "ms")
  with_reducible refine r_iter_range (n := size) hA.handled O hr (small_one (by decide) (by decide) (by walk_at "o") (by walk_at "o")) ((rangeSize_nat _ _).trans (by walk_at "o")) (fun i g' m' mu' => ∃ sv n1 hv n2 sh es, mu' = (aS, listOf (List.toArray sv) n1) :: (aH, listOf (List.toArray hv) n2) :: mu0 ∧ LV m' an aH a cnt size ∧ m' "at_shelf" = some (.ref aS) ∧ IntsAre sv sh ∧ All2 (IsEnt g') hv es ∧ HInv cnt i es sh) ?_ ?_ ?_ ?_
  · refine ⟨[.int 0 _, .int 0 _, .int 0 _, .int 0 _, .int 0 _], 0, [], 0, [0, 0, 0, 0, 0], [], rfl, ⟨f1, ⟨_, rfl⟩, ⟨_, rfl⟩, ⟨_, rfl⟩, ⟨_, rfl⟩, rfl⟩, rfl, .cons _ _ (.cons _ _ (.cons _ _ (.cons _ _ (.cons _ _ .nil)))), .nil, rfl, rfl, ?_, ⟨(fun _ h => nomatch h), .nil⟩, fun _ h => nomatch h⟩
    simp
    walk_at "o"
  · rintro E2 i tk g' h7 m7 mu7 it k7 hi hg ⟨sv, n1, hv, n2, sh, es, rfl, V, fS, hsv, he, I⟩ O
    walk_at "ms"
    rename_i O
    refine hist_turn (it := it) (G.keeps hg) (hA.le (by decide)) O ⟨V.nums, V.a, V.count, V.shelves, V.size, V.hist⟩ fS rfl (stays_list hg hl2) hi2 hn1 hn2 hx2 hsv he I (by walk_at "o") fun g8 h8 m8 sv8 n8 hv8 n8' sh8 es8 k8 st8 O V8 fS8 hsv8 he8 I8 => ?_
    exact ⟨g8, h8, m8, _, k8, rfl, st8, O, sv8, n8, hv8, n8', sh8, es8, rfl, V8, fS8, hsv8, he8, I8⟩
  · rintro g' h7 m7 mu7 k7 hg ⟨sv, n1, hv, n2, sh, es, rfl, V, fS, hsv, he, I⟩ O
    have O := O.drop
    obtain ⟨g8, st8, O8, k8⟩ := O.drop.freeze
    have hlH := isList_of (k8 aH _ (O.mus _ (.head _)).2.1 (List.nodup_cons.mp O.nd).1 O.head)
    have hgg : g.StaysIn g8 := fun b o e => st8 b o (hg b o (st3 b o (st2 b o e)))
    refine hQ g8 h7 m7 k7 an aH a cnt size nv hv ns es hgg O8 ⟨V, stays_list (fun b o e => st8 b o (hg b o e)) hl2, hi2, hn1, hn2, hx2, hlH, he.imp fun _ _ q => IsEnt.mono st8 q, I.len, I.hist, ?_, by walk_at "o", by walk_at "o", by walk_at "o", by walk_at "o"⟩
    intro e hm
    have q := I.eb e hm
    have ou := I.hist.ok e hm
    have hu : e.u.toNat < sh.length := by have := I.slen; have := ou.u0; have := ou.u1; walk_at "o"
    have q2 := I.sb (sh.getD e.u.toNat 0) (by rw [List.getD_eq_getElem?_getD, List.getElem?_eq_getElem hu]; exact List.getElem_mem _)
    exact ⟨q.1, by walk_at "o"⟩
  · intro _ _; rfl
end law2
noncomputable def mkT (n : Int) (lev : Nat) : List (List En) → List TB
  | [] => []
  | p :: r => match p with
    | [] => mkT n lev r
    | _ :: _ => ⟨n, lev, p⟩ :: mkT (n + 1) lev r
theorem mkT_app (n : Int) (lev : Nat) : ∀ (ps qs : List (List En)), mkT n lev (ps ++ qs) = mkT n lev ps ++ mkT (n + (mkT n lev ps).length) lev qs
  | [], qs => by simp [mkT]
  | [] :: r, qs => by
    show mkT n lev (r ++ qs) = mkT n lev r ++ mkT (n + (mkT n lev r).length) lev qs
    exact mkT_app n lev r qs
  | (a :: b) :: r, qs => by
    show ⟨n, lev, a :: b⟩ :: mkT (n + 1) lev (r ++ qs) = _
    rw [mkT_app (n + 1) lev r qs]
    show _ = ⟨n, lev, a :: b⟩ :: (mkT (n + 1) lev r ++ _)
    congr 3
    show n + 1 + _ = n + ((mkT (n + 1) lev r).length + 1 : Nat)
    push_cast; walk_at "o"
theorem mkT_len (n : Int) (lev : Nat) : ∀ (ps : List (List En)), (mkT n lev ps).length ≤ ps.length
  | [] => Nat.le_refl _
  | [] :: r => Nat.le_succ_of_le (mkT_len n lev r)
  | (_ :: _) :: r => Nat.succ_le_succ (mkT_len (n + 1) lev r)
theorem mkT_mem {n : Int} {lev : Nat} : ∀ {ps : List (List En)} {t : TB}, t ∈ mkT n lev ps → t.lev = lev ∧ t.rows ∈ ps ∧ t.rows ≠ [] ∧ n ≤ t.num ∧ t.num < n + (mkT n lev ps).length
  | [] :: r, t, h => by
    have := mkT_mem (ps := r) h
    exact ⟨this.1, .tail _ this.2.1, this.2.2⟩
  | (a :: b) :: r, t, h => by
    have e : mkT n lev ((a :: b) :: r) = ⟨n, lev, a :: b⟩ :: mkT (n + 1) lev r := rfl
    rw [e] at h ⊢
    rcases List.mem_cons.mp h with rfl | h
    · refine ⟨rfl, .head _, by simp, Int.le_refl _, ?_⟩
      simp only [List.length_cons]; push_cast; walk_at "o"
    · have := mkT_mem (ps := r) h
      refine ⟨this.1, .tail _ this.2.1, this.2.2.1, by walk_at "o", ?_⟩
      simp only [List.length_cons]; push_cast; walk_at "o"
theorem mkT_pw {n : Int} {lev : Nat} : ∀ {ps : List (List En)}, ps.Pairwise UserLt → (mkT n lev ps).Pairwise fun t t' => t.num < t'.num ∧ UserLt t.rows t'.rows
  | [], _ => .nil
  | [] :: r, h => mkT_pw (ps := r) (List.pairwise_cons.mp h).2
  | (a :: b) :: r, h => by
    have h' := List.pairwise_cons.mp h
    refine List.pairwise_cons.mpr ⟨fun t ht => ?_, mkT_pw (ps := r) h'.2⟩
    have m := mkT_mem ht
    exact ⟨by show n < t.num; walk_at "o", h'.1 _ m.2.1⟩
theorem mkT_all {n : Int} {lev : Nat} : ∀ {ps : List (List En)} {e : En}, e ∈ ps.flatten → ∃ t ∈ mkT n lev ps, e ∈ t.rows
  | [] :: r, e, h => mkT_all (ps := r) (by simpa using h)
  | (a :: b) :: r, e, h => by
    rw [List.flatten_cons] at h
    rcases List.mem_append.mp h with h | h
    · exact ⟨⟨n, lev, a :: b⟩, .head _, h⟩
    · obtain ⟨t, ht, he⟩ := mkT_all (n := n + 1) (lev := lev) (ps := r) h
      exact ⟨t, .tail _ ht, he⟩
/-- what stands when i shelves are laid -/
structure ShInv (cnt : Nat) (hist : List En) (i : Nat) (tabs : List TB) : Prop where
  T : TabsOk cnt hist tabs
  all : ∀ e ∈ hist, e.sh < i → ∃ t ∈ tabs, e ∈ t.rows
  shb : ∀ t ∈ tabs, ∀ e ∈ t.rows, e.sh < i
  len : tabs.length ≤ 8 * i
  rl : ∀ t ∈ tabs, t.rows.length ≤ 8
  nd : ∀ t ∈ tabs, cnt - i ≤ t.lev ∧ (0 < t.lev → 10 * (t.lev : Int) ≤ t.num ∧ t.num < 10 * (t.lev : Int) + 10) ∧ (t.lev = 0 → 60 ≤ t.num ∧ t.num < 60 + (i : Int))
noncomputable def num0 (cnt i : Nat) : Int := if cnt - 1 - i = 0 then 60 + (i : Int) else 10 * ((cnt - 1 - i : Nat) : Int)
/-- parts of a shelf's rows -/
structure ShParts (cnt i : Nat) (hist : List En) (ps : List (List En)) : Prop where
  perm : ps.flatten.Perm (hist.filter fun e => decide (e.sh = (i : Int)))
  sorted : ps.flatten.Pairwise fun a b => lexLt a b = true
  pw : ps.Pairwise UserLt
  one : cnt - 1 - i = 0 → ps.length = 1
  len : ps.length ≤ 8
theorem ShInv.fresh {cnt i : Nat} {hist : List En} {tabs : List TB} (I : ShInv cnt hist i tabs) {ps : List (List En)} (hps : ps.length ≤ 8) : ∀ t ∈ tabs ++ mkT (num0 cnt i) (cnt - 1 - i) ps, t.num ≠ num0 cnt i + (mkT (num0 cnt i) (cnt - 1 - i) ps).length := by
  intro t ht q
  rcases List.mem_append.mp ht with h | h
  · have n := I.nd t h
    have hl := mkT_len (num0 cnt i) (cnt - 1 - i) ps
    have hu : num0 cnt i = if cnt - 1 - i = 0 then 60 + (i : Int) else 10 * ((cnt - 1 - i : Nat) : Int) := rfl
    by_cases c : cnt - 1 - i = 0
    · rw [if_pos c] at hu
      by_cases c2 : t.lev = 0
      · have := n.2.2 c2; walk_at "o"
      · have := n.2.1 (by walk_at "o")
        have := (I.T.ok t h).l0
        walk_at "o"
    · rw [if_neg c] at hu
      have := n.2.1 (by walk_at "o")
      walk_at "o"
  · have m := mkT_mem h
    walk_at "o"
theorem ShInv.step {cnt i : Nat} {hist : List En} {tabs : List TB} (I : ShInv cnt hist i tabs) (H : HistOk hist) (hc0 : 0 < cnt) (hc : cnt ≤ 4) (hi : i < cnt + 2) (hz : hist.length ≤ 8) {ps : List (List En)} (P : ShParts cnt i hist ps) :
    ShInv cnt hist (i + 1) (tabs ++ mkT (num0 cnt i) (cnt - 1 - i) ps) := by
  have hl := mkT_len (num0 cnt i) (cnt - 1 - i) ps
  have hpl := P.len
  have memH : ∀ p ∈ ps, ∀ e ∈ p, e ∈ hist ∧ e.sh = (i : Int) := by
    intro p hp e he
    have h1 : e ∈ ps.flatten := List.mem_flatten.mpr ⟨p, hp, he⟩
    have h2 := List.mem_filter.mp (P.perm.mem_iff.mp h1)
    exact ⟨h2.1, by simpa using h2.2⟩
  have rlen : ∀ p ∈ ps, p.length ≤ 8 := by
    intro p hp
    have h1 := (List.sublist_flatten_of_mem hp).length_le
    have h2 := P.perm.length_eq
    have h3 := List.length_filter_le (fun e : En => decide (e.sh = (i : Int))) hist
    walk_at "o"
  have psort : ∀ p ∈ ps, p.Pairwise fun a b => lexLt a b = true := fun p hp => (List.pairwise_flatten.mp P.sorted).1 p hp
  have nb : ∀ t ∈ mkT (num0 cnt i) (cnt - 1 - i) ps, (0 < t.lev → 10 * (t.lev : Int) ≤ t.num ∧ t.num < 10 * (t.lev : Int) + 10) ∧ (t.lev = 0 → 60 ≤ t.num ∧ t.num < 60 + ((i + 1 : Nat) : Int)) := by
    intro t ht
    have m := mkT_mem ht
    have hu : num0 cnt i = if cnt - 1 - i = 0 then 60 + (i : Int) else 10 * ((cnt - 1 - i : Nat) : Int) := rfl
    constructor
    · intro h0
      rw [if_neg (by walk_at "o")] at hu
      have : t.lev = cnt - 1 - i := m.1
      walk_at "o"
    · intro h0
      have c : cnt - 1 - i = 0 := by rw [← m.1]; exact h0
      rw [if_pos c] at hu
      have := P.one c
      push_cast
      walk_at "o"
  refine ⟨⟨?_, ?_⟩, ?_, ?_, ?_, ?_, ?_⟩
  · intro t ht
    rcases List.mem_append.mp ht with h | h
    · exact I.T.ok t h
    · have m := mkT_mem h
      have n := nb t h
      have hlv : t.lev < cnt ∨ cnt = 0 := by walk_at "o"
      refine ⟨m.2.2.1, psort _ m.2.1, fun e he => (memH _ m.2.1 e he).1, by walk_at "o", ?_, ?_, ?_⟩
      · by_cases c : t.lev = 0
        · have := n.2 c; walk_at "o"
        · have := n.1 (by walk_at "o"); walk_at "o"
      · by_cases c : t.lev = 0
        · have := n.2 c; walk_at "o"
        · have := n.1 (by walk_at "o"); walk_at "o"
      · constructor
        · intro h60
          by_cases c : t.lev = 0
          · exact c
          · have := n.1 (by walk_at "o"); walk_at "o"
        · intro c; exact (n.2 c).1
  · refine List.pairwise_append.mpr ⟨I.T.pw, ?_, ?_⟩
    · refine List.Pairwise.imp_of_mem (fun {a b} ha hb hr => ?_) (mkT_pw P.pw)
      have ma := mkT_mem ha
      have mb := mkT_mem hb
      refine ⟨by walk_at "o", by walk_at "o", fun _ => hr.1, fun _ _ => hr.2, fun x hx y hy q => ?_⟩
      have := hr.2 x hx y hy
      walk_at "o"
    · intro a ha b hb
      have mb := mkT_mem hb
      have na := I.nd a ha
      have nbb := nb b hb
      have oa := I.T.ok a ha
      have shx : ∀ x ∈ a.rows, ∀ y ∈ b.rows, x.sh < y.sh := by
        intro x hx y hy
        have h1 := I.shb a ha x hx
        have h2 := (memH _ mb.2.1 y hy).2
        walk_at "o"
      have hle : b.lev ≤ a.lev := by walk_at "o"
      refine ⟨hle, ?_, ?_, ?_, fun x hx y hy _ => shx x hx y hy⟩
      · have f := I.fresh hpl a (List.mem_append_left _ ha)
        by_cases c : b.lev = 0
        · have := nbb.2 c
          by_cases c2 : a.lev = 0
          · have := na.2.2 c2
            have c3 : cnt - 1 - i = 0 := by walk_at "o"
            have hu : num0 cnt i = 60 + (i : Int) := if_pos c3
            walk_at "o"
          · have := oa.l0; walk_at "o"
        · have := nbb.1 (by walk_at "o")
          have := na.2.1 (by walk_at "o")
          walk_at "o"
      · intro e
        by_cases c : b.lev = 0
        · have := na.2.2 (by walk_at "o")
          have c3 : cnt - 1 - i = 0 := by walk_at "o"
          have hu : num0 cnt i = 60 + (i : Int) := if_pos c3
          walk_at "o"
        · walk_at "o"
      · intro e h0
        walk_at "o"
  · intro e he hsh
    by_cases c : e.sh < (i : Int)
    · obtain ⟨t, ht, h⟩ := I.all e he c
      exact ⟨t, List.mem_append_left _ ht, h⟩
    · have : e.sh = (i : Int) := by push_cast at hsh; walk_at "o"
      have h1 : e ∈ ps.flatten := P.perm.mem_iff.mpr (List.mem_filter.mpr ⟨he, by simpa using this⟩)
      obtain ⟨t, ht, h⟩ := mkT_all (n := num0 cnt i) (lev := cnt - 1 - i) h1
      exact ⟨t, List.mem_append_right _ ht, h⟩
  · intro t ht e he
    rcases List.mem_append.mp ht with h | h
    · have := I.shb t h e he; push_cast; walk_at "o"
    · have := (memH _ (mkT_mem h).2.1 e he).2; push_cast; walk_at "o"
  · rw [List.length_append]
    have := I.len
    walk_at "o"
  · intro t ht
    rcases List.mem_append.mp ht with h | h
    · exact I.rl t h
    · exact rlen _ (mkT_mem h).2.1
  · intro t ht
    rcases List.mem_append.mp ht with h | h
    · have n := I.nd t h
      refine ⟨by walk_at "o", n.2.1, fun c => ?_⟩
      have := n.2.2 c
      push_cast
      walk_at "o"
    · exact ⟨by have := (mkT_mem h).1; walk_at "o", nb t h⟩
noncomputable def shelfB : List Stmt := gl (forB (lawB.getD 13 (.Pass default))) (by (conv => lhs; whnf))
noncomputable def partB : List Stmt := gl (forB (shelfB.getD 5 (.Pass default))) (by (conv => lhs; whnf))
theorem inner_split {lv : List (Addr × List Value × Nat)} {j : Nat} {x : Addr × List Value × Nat} (h : lv[j]? = some x) : inner lv = inner (lv.take j) ++ (x.1, listOf x.2.1.toArray x.2.2) :: inner (lv.drop (j + 1)) := by
  have hj : j < lv.length := by
    rcases Nat.lt_or_ge j lv.length with q | q
    · exact q
    · rw [List.getElem?_eq_none q] at h; cases h
  have e : lv = lv.take j ++ x :: lv.drop (j + 1) := by
    have := (List.take_append_drop j lv).symm
    rw [List.drop_eq_getElem_cons hj] at this
    rw [List.getElem?_eq_getElem hj] at h
    rw [Option.some.inj h] at this
    exact this
  conv => lhs; rw [e]
  unfold inner
  rw [List.map_append, List.map_cons]
theorem inner_set {lv : List (Addr × List Value × Nat)} {j : Nat} (y : Addr × List Value × Nat) (hj : j < lv.length) : inner (lv.set j y) = inner (lv.take j) ++ (y.1, listOf y.2.1.toArray y.2.2) :: inner (lv.drop (j + 1)) := by
  rw [List.set_eq_take_append_cons_drop, if_pos hj]
  unfold inner
  rw [List.map_append, List.map_cons]
noncomputable def LvOk (g : Heap) (lv : List (Addr × List Value × Nat)) (tabs : List TB) : Prop := ∀ (j : Nat) x, lv[j]? = some x → All2 (IsMeta g) x.2.1 ((tabs.filter fun t => decide (t.lev = j)).map TB.fm)
theorem LvOk.mono {g g' : Heap} {lv : List (Addr × List Value × Nat)} {tabs : List TB} (k : g.StaysIn g') (H : LvOk g lv tabs) : LvOk g' lv tabs := fun j x h => (H j x h).imp fun _ _ q => IsMeta.mono k q
noncomputable def KvOk (g : Heap) (kvs : List (Int × Value)) (tabs : List TB) : Prop := All2 (fun (p : Int × Value) (t : TB) => p.1 = t.num ∧ ∃ l, p.2 = .ref l ∧ IsPart g l t.rows) kvs tabs
theorem KvOk.mono {g g' : Heap} {kvs : List (Int × Value)} {tabs : List TB} (k : g.StaysIn g') (H : KvOk g kvs tabs) : KvOk g' kvs tabs := H.imp fun _ _ ⟨x, l, y, z⟩ => ⟨x, l, y, z.mono k⟩
theorem LvOk.add {g : Heap} {lv : List (Addr × List Value × Nat)} {tabs : List TB} (H : LvOk g lv tabs) {t : TB} {x : Addr × List Value × Nat} (hx : lv[t.lev]? = some x) {v : Value} (hv : IsMeta g v t.fm) (n : Nat) : LvOk g (lv.set t.lev (x.1, x.2.1 ++ [v], n)) (tabs ++ [t]) := by
  intro j z hz
  rw [List.getElem?_set] at hz
  rw [List.filter_append, List.map_append]
  by_cases hj : t.lev = j
  · subst hj
    rw [if_pos rfl] at hz
    split at hz
    · cases hz
      have := H _ x hx
      simp only [List.filter_cons, decide_true, if_true, List.filter_nil, List.map_cons, List.map_nil]
      exact this.append (.cons hv .nil)
    · cases hz
  · rw [if_neg hj] at hz
    have := H j z hz
    simpa [List.filter_cons, hj] using this
theorem part_hi {p : List En} (hp : p ≠ []) : p[p.length - 1]? = some (p.getLastD e0) := by
  rw [List.getLastD_eq_getLast?, ← List.getLast?_eq_getElem?, List.getLast?_eq_some_getLast hp]; rfl
section part
variable {w : World} {A : Around} {s : Shared} {g h : Heap} {k : Nat} {mg mb : Str → Option Value} {E : Value → Shared → Prop} {L fa : Addr} {cd : Value} {m : Str → Option Value}
theorem part_turn {Q : Flow → Shared → Prop} {dT y F rk pl x : Addr} {oD : Obj} {R : List (Addr × Obj)} {lv : List (Addr × List Value × Nat)} {es : List DictEntry} {vn : Int} {kvs : List (Int × Value)} {tabs : List TB} {rv : List Value} {lev : Nat} {num : Int} {p : List En} {tn tl : Tok}
    (G : GK w mg mb g) (hA : OkA A 3) (O : Own g L h m ((dT, oD) :: (R ++ inner lv)))
    (fp : m "part" = some (.ref pl)) (fn : m "number" = some (.int num tn)) (fl : m "level" = some (.int (lev : Int) tl)) (fv : m "version" = some (.ref y)) (fr : m "ranks" = some (.ref rk))
    (hp : IsPart g pl p) (hok : ∀ e ∈ p, EnOk e) (hz : p.length ≤ 8) (hc : g.IsCell (L + 1) (some (.ref dT))) (hD : oD.IsDictOf (intKind PG w) kvs) (hkv : KvOk g kvs tabs) (hfr : ∀ t ∈ tabs, t.num ≠ num)
    (hrk : g.IsList rk rv.toArray) (hrv : IntsAre rv (tabs.map TB.num).reverse) (hI : IsInst g y 539 es) (hV : VerEs es vn x F) (hF : g.IsList F (lv.map fun z => Value.ref z.1).toArray) (hlv : LvOk g lv tabs) (hl : lev < lv.length) (hl4 : lv.length ≤ 4) (htz : tabs.length ≤ 100)
    (hQ : ∀ g' h' m' k' oD' kvs' lv' rk' rv' t', g.StaysIn g' → Own g' L h' m' ((dT, oD') :: (R ++ inner lv')) →
      (∀ z : Str, z ≠ "ranks" → z ≠ "last" → z ≠ "low" → z ≠ "high" → z ≠ "number" → m' z = m z) → m' "number" = some (.int (num + (mkT num lev [p]).length) t') → m' "ranks" = some (.ref rk') →
      oD'.IsDictOf (intKind PG w) kvs' → KvOk g' kvs' (tabs ++ mkT num lev [p]) → g'.IsList rk' rv'.toArray → IntsAre rv' ((tabs ++ mkT num lev [p]).map TB.num).reverse → LvOk g' lv' (tabs ++ mkT num lev [p]) → lv'.map (·.1) = lv.map (·.1) → Q .next (S3 s h' k')) :
    wpAny (model PG w) A (execs partB (lawEnv L fa cd)) Q E (S3 s h k) := by
  unfold partB
  obtain ⟨vs, hpl, hpv⟩ := hp
  have hpn := hpv.length
  have hrn := hrv.length
  cases p with
  | nil =>
    have hp0 : vs.toArray.size = 0 := by simpa using hpn
    repeat (walk_at "ms")
    exact hQ g h m _ oD kvs lv rk rv _ (fun _ _ e => e) O (fun _ _ _ _ _ _ => rfl) (by rw [fn]; show _ = some (Value.int (num + ((0 : Nat) : Int)) _); rw [show num + ((0 : Nat) : Int) = num by walk_at "o"]) fr hD (by simpa [mkT] using hkv) hrk (by simpa [mkT] using hrv) (by simpa [mkT] using hlv) rfl
  | cons p0 pr =>
    have hp0 : vs.toArray.size = pr.length + 1 := by simpa using hpn
    have hp8 : pr.length ≤ 7 := by simpa using hz
    obtain ⟨v0, hv0, a0, s1, s2, s3, s4, rfl, ht0⟩ := hpv.get (i := 0) rfl
    obtain ⟨v9, hv9, a9, q1, q2, q3, q4, rfl, ht9⟩ := hpv.get (part_hi (p := p0 :: pr) (by simp))
    repeat (walk_at "ms")
    have hm0 : p0 ∈ p0 :: pr := .head _
    have hm9 : (p0 :: pr).getLastD e0 ∈ p0 :: pr := List.mem_of_getElem? (part_hi (p := p0 :: pr) (by simp))
    have k0 := hok _ hm0
    have k9 := hok _ hm9
    generalize e9 : (p0 :: pr).getLastD e0 = p9 at *
    have hkv' : All2 _ kvs tabs := hkv
    have hkn : kvs.length = tabs.length := hkv'.length
    with_reducible refine r_dset O hD (by walk_at "o") fun h2 o2 hD2 O => ?_
    rw [stored_new (fun q hq => by
      obtain ⟨i, hi, rfl⟩ := List.getElem_of_mem hq
      obtain ⟨t, ht, e, _⟩ := hkv'.get' (List.getElem?_eq_getElem hi)
      rw [e]; exact hfr t (List.mem_of_getElem? ht))] at hD2
    repeat (walk_at "ms")
    rename_i D1 h3 _ _ _ O
    with_reducible refine r_addL (xs := [.int num tn]) (ys := rv) O (isList_of O.head) (O.list hrk) (by simp at hrn ⊢; walk_at "o") fun D nD h4 D0 kp O => ?_
    repeat (walk_at "ms")
    rename_i O
    obtain ⟨g2, st2, O2, k2⟩ := O.drop.drop.freeze
    have hlD := isList_of (k2 D _ (O.mus _ (.head _)).2.1 (fun q => (List.nodup_cons.mp O.nd).1 (.tail _ q)) O.head)
    clear O
    have O := O2
    have G := G.keeps st2
    have hpl := stays_list st2 hpl
    have ht0 := stays_tup st2 ht0
    have ht9 := stays_tup st2 ht9
    have hI := hI.mono st2
    have hF := stays_list st2 hF
    have hc := IsCell.mono st2 hc
    have eidx : (((vs.toArray.size : Nat) : Int) - 1).toNat = (p0 :: pr).length - 1 := by simp at hp0 ⊢; walk_at "o"
    with_reducible refine r_item_list (x := .ref a9) (O.list hpl) (by walk_at "o") (by walk_at "o") (by rw [eidx]; simpa using hv9) ?_ (by with_unfolding_all rfl)
    repeat (walk_at "ms")
    rename_i O
    with_reducible refine r_item_list (x := .ref a0) (O.list hpl) (by decide) (by decide) (by simpa using hv0) ?_ (by with_unfolding_all rfl)
    repeat (walk_at "ms")
    with_reducible refine r_item_tup (O.tup ht0) (by decide) (by simp) (by simp) rfl ?_ (by with_unfolding_all rfl)
    repeat (walk_at "ms")
    with_reducible refine r_item_list (x := .ref a0) (O.list hpl) (by decide) (by decide) (by simpa using hv0) ?_ (by with_unfolding_all rfl)
    repeat (walk_at "ms")
    with_reducible refine r_item_tup (O.tup ht0) (by decide) (by simp) (by simp) rfl ?_ (by with_unfolding_all rfl)
    repeat (walk_at "ms")
    with_reducible refine r_item_list (x := .ref a0) (O.list hpl) (by decide) (by decide) (by simpa using hv0) ?_ (by with_unfolding_all rfl)
    repeat (walk_at "ms")
    with_reducible refine r_item_tup (O.tup ht0) (by decide) (by simp) (by simp) rfl ?_ (by with_unfolding_all rfl)
    repeat (walk_at "ms")
    have kk0 : 0 ≤ p0.k ∧ p0.k < 256 := by have := k0.k; walk_at "o"
    have kk9 : 0 ≤ p9.k ∧ p9.k < 256 := by have := k9.k; walk_at "o"
    have um0 := k0.m0
    have um9 := k9.m0
    have um1 := k0.m1
    have um8 := k9.m1
    refine ikey_spec (O.gk G) (hA.le (by decide)) k0.u0 k0.u1 (by walk_at "o") (by walk_at "o") kk0.1 kk0.2 fun h6 k6 t6 st6 => ?_
    have O := O.grow st6
    repeat (walk_at "ms")
    rename_i O
    with_reducible refine r_item_tup (O.tup ht9) (by decide) (by simp) (by simp) rfl ?_ (by with_unfolding_all rfl)
    repeat (walk_at "ms")
    with_reducible refine r_item_tup (O.tup ht9) (by decide) (by simp) (by simp) rfl ?_ (by with_unfolding_all rfl)
    repeat (walk_at "ms")
    with_reducible refine r_item_tup (O.tup ht9) (by decide) (by simp) (by simp) rfl ?_ (by with_unfolding_all rfl)
    repeat (walk_at "ms")
    refine ikey_spec (O.gk G) (hA.le (by decide)) k9.u0 k9.u1 (by walk_at "o") (by walk_at "o") kk9.1 kk9.2 fun h7 k7 t7 st7 => ?_
    have O := O.grow st7
    have ef := hV.files
    repeat (walk_at "ms")
    rename_i O
    obtain ⟨xl, hxl⟩ : ∃ xl, lv[lev]? = some xl := ⟨_, List.getElem?_eq_getElem hl⟩
    have hFx : (lv.map fun z => Value.ref z.1)[lev]? = some (.ref xl.1) := by rw [List.getElem?_map, hxl]; rfl
    with_reducible refine r_item_list (x := .ref xl.1) (O.list hF) (by walk_at "o") (by walk_at "o") (by rw [Int.toNat_natCast, List.getElem?_toArray]; exact hFx) ?_ (by with_unfolding_all rfl)
    have O0 := O
    rw [inner_split hxl] at O
    have O := O.perm ((((List.Perm.append_left R List.perm_middle).trans List.perm_middle).cons _).trans (.swap _ _ _))
    with_reducible refine r_mAppend O.head ?_
    repeat (walk_at "ms")
    refine meta_new (f := ⟨num, (vs.toArray.size : Nat), p0.u, p0.m, p0.k, p9.u, p9.m, p9.k⟩) G O (hA.le (by decide)) fun g8 h8 ym k8 st8 O hM => ?_
    have G := G.keeps st8
    have hlx := All2.length (hlv lev xl hxl)
    have hlx2 : ((tabs.filter fun t => decide (t.lev = lev)).map TB.fm).length ≤ tabs.length := by rw [List.length_map]; exact List.length_filter_le _ _
    repeat (walk_at "ms")
    with_reducible refine r_append O (by simp; walk_at "o") fun h9 n9 O => ?_
    repeat (walk_at "ms")
    rename_i O
    have eT : TB.fm ⟨num, lev, p0 :: pr⟩ = ⟨num, (vs.toArray.size : Nat), p0.u, p0.m, p0.k, p9.u, p9.m, p9.k⟩ := by
      subst e9; rw [hp0]; rfl
    have e8 : xl.2.1.toArray.push (Value.ref ym) = (xl.2.1 ++ [Value.ref ym]).toArray := by simp
    have eM : mkT num lev [p0 :: pr] = [⟨num, lev, p0 :: pr⟩] := rfl
    have O := O.perm ((List.Perm.swap _ _ _).trans ((((List.Perm.append_left R List.perm_middle).trans List.perm_middle).cons _).symm))
    rw [e8, ← inner_set (xl.1, xl.2.1 ++ [Value.ref ym], n9) hl] at O
    have sg : g.StaysIn g8 := fun b o e => st8 b o (st2 b o e)
    refine hQ g8 _ _ _ o2 _ _ D _ (k8 + 1) sg O ?_ ?_ rfl hD2 ?_ (stays_list st8 hlD) ?_ ?_ ?_
    · intro z z1 z2 z3 z4 z5
      simp only [z1, z2, z3, z4, z5, if_false]
    · rw [eM]; rfl
    · rw [eM]
      exact All2.append (KvOk.mono sg hkv) (.cons ⟨rfl, pl, rfl, vs, stays_list st8 hpl, hpv.imp fun _ _ q => IsEnt.mono sg q⟩ .nil)
    · rw [eM, List.map_append, List.reverse_append]
      exact .cons _ _ hrv
    · rw [eM]
      refine LvOk.add (t := ⟨num, lev, p0 :: pr⟩) (hlv.mono sg) hxl ?_ n9
      rw [eT]; exact hM
    · rw [List.map_set]
      refine List.ext_getElem? fun j => ?_
      rw [List.getElem?_set]
      by_cases hj : lev = j
      · subst hj; rw [if_pos rfl, if_pos (by rw [List.length_map]; exact hl), List.getElem?_map, hxl]; rfl
      · rw [if_neg hj]
end part
theorem none_back {g g' : Heap} {a : Addr} (k : g.StaysIn g') (e : g'.get? a = none) : g.get? a = none := by
  cases q : g.get? a with
  | none => rfl
  | some o => rw [k _ _ q] at e; cases e
noncomputable def IsPart2 (b hp h : Heap) (l : Addr) (p : List En) : Prop := hp.get? l = none ∧ ∃ vs : List Value, h.IsList l vs.toArray ∧ All2 (IsEnt b) vs p
theorem IsPart2.mono {b hp h h' : Heap} {l : Addr} {p : List En} (k : h.StaysIn h') (I : IsPart2 b hp h l p) : IsPart2 b hp h' l p := let ⟨z, vs, a, c⟩ := I; ⟨z, vs, stays_list k a, c⟩
noncomputable def PartsSt2 (b hp g : Heap) (mu : List (Addr × Obj)) (D : Addr) (es : List En) (i : Nat) : Prop :=
  (i = 0 ∧ ∃ n, mu = [(D, listOf #[] n)]) ∨
  (0 < i ∧ ∃ (ls0 : List Addr) (ps0 : List (List En)) (l : Addr) (vl : List Value) (p : List En) (n n' : Nat), mu = [(D, listOf ((ls0 ++ [l]).map Value.ref).toArray n), (l, listOf vl.toArray n')] ∧ All2 (IsPart2 b hp g) ls0 ps0 ∧ hp.get? l = none ∧ All2 (IsEnt b) vl p ∧ PartsOk (es.take i) (ps0 ++ [p]))
section parts2
variable {w : World} {A : Around} {s : Shared} {hp : Heap} {k : Nat} {mg mb : Str → Option Value} {Q : Value → Shared → Prop} {E : Value → Shared → Prop}
theorem parts_spec2 {b : Heap} (kb : b.StaysIn hp) (G : GK w mg mb hp) (hA : OkA A 1) {a : Addr} {es : List En} {bits : Int} {tb : Tok} (I : IsPart b a es) (hok : ∀ e ∈ es, 0 ≤ e.u ∧ e.u < 5) (hs : es.Pairwise fun a b => lexLt a b = true) (hz : es.length ≤ 100)
    (hQ : ∀ h' tk D ls ps, hp.StaysIn h' → hp.get? D = none → h'.IsList D (ls.map Value.ref).toArray → All2 (IsPart2 b hp h') ls ps → PartsOk es ps → Q (.ref D) (S3 s h' tk)) :
    wpAny (model PG w) A (call (.ref 571) [.ref a, .int bits tb] []) Q E (S3 s hp k) := by
  refine wpAny_call (enter_ret [("rows", .ref a), ("bits", .int bits tb)] G hA (by k_is) (by k_is) (fun _ => BindsTo.of_eq rfl) (locs rfl) ?_)
  intro A' E' h₁ L k₁ hA hL O
  have O0 := O
  obtain ⟨vs, hl, hv⟩ := I
  have hl := stays_list kb hl
  have hlen := hv.length
  repeat (walk_at "ms")
  rename_i D _ frD _ _ _ _ O
  have frD := O0.fresh frD
  with_reducible refine r_len_list (O.list hl) (by simp; walk_at "o") ?_
  repeat (walk_at "ms")
  with_reducible refine r_range1 fun r h6 k6 t1 t2 t3 st6 hr => ?_
  have O := O.grow st6
  rw [show (vs.toArray.size : Int) = ((es.length : Nat) : Int) by simp [hlen]] at hr
  repeat (walk_at "ms")
  with_reducible refine r_iter_range (n := es.length) hA.handled O hr (small_one (by decide) (by decide) (by walk_at "o") (by walk_at "o")) ((rangeSize_nat _ _).trans (by walk_at "o")) (fun i g' m' mu' => m' "rows" = some (.ref a) ∧ (∃ t, m' "bits" = some (.int bits t)) ∧ m' "parts" = some (.ref D) ∧ PartsSt2 b hp g' mu' D es i) ?_ ?_ ?_ ?_
  · exact ⟨rfl, ⟨_, rfl⟩, rfl, .inl ⟨rfl, 0, rfl⟩⟩
  · rintro E2 i tk g' h7 m7 mu7 it k7 hi hg ⟨e1, ⟨tb', e2⟩, e3, st⟩ O
    have G := G.keeps hg
    have hl := stays_list hg hl
    have kbg : b.StaysIn g' := fun z o e => hg z o (kb z o e)
    obtain ⟨e, he⟩ : ∃ e, es[i]? = some e := ⟨es[i], List.getElem?_eq_getElem hi⟩
    obtain ⟨ve, hve, ae, te1, te2, te3, te4, rfl, hte0⟩ := hv.get he
    have hem := List.mem_of_getElem? he
    obtain ⟨u0, u1⟩ := hok e hem
    have hIE : IsEnt b (.ref ae) e := ⟨ae, te1, te2, te3, te4, rfl, hte0⟩
    have hte := stays_tup kbg hte0
    have p0 : (0 : Int) < 2 ^ e.u.toNat := Int.pow_pos (by decide)
    have p1 : ((2 : Int) ^ e.u.toNat).natAbs < 1073741824 := by rcases seqIdx u0 u1 with q | q | q | q | q <;> rw [q] <;> decide
    have htk : es.take (i + 1) = es.take i ++ [e] := by rw [List.take_add_one, he]; rfl
    have eidx : ((0 : Int) + (i : Int) * 1).toNat = i := by walk_at "o"
    have hpw := List.pairwise_iff_getElem.mp hs
    have hei : es[i] = e := by rw [List.getElem?_eq_getElem hi] at he; exact Option.some.inj he
    have before : ∀ x ∈ es.take i, x.u ≤ e.u := by
      intro x hx
      obtain ⟨j, hj, rfl⟩ := List.getElem_of_mem hx
      rw [List.length_take] at hj
      rw [List.getElem_take]
      have := lex_lt (hpw j i (by walk_at "o") hi (by walk_at "o"))
      rw [hei] at this
      walk_at "o"
    refine wpAny_mono (Q := fun _ s₂ => ∃ h2 k2, s₂ = S3 s h2 k2 ∧ Own g' L h2 (fun y => if y = Str.ofString "at" then some (Value.int (0 + (i : Int) * 1) tk) else m7 y) (it :: mu7)) ?_ (fun _ s₂ h₂ => ?_) (fun _ _ x => x)
    · repeat (walk_at "ms")
      rename_i O
      exact ⟨_, _, rfl, O⟩
    obtain ⟨h2, k2, rfl, O⟩ := h₂
    with_reducible refine r_seq (fun s₂ => ∃ h2 k2, s₂ = S3 s h2 k2 ∧ Own g' L h2 (fun y => if y = Str.ofString "u" then some (Value.int e.u te1) else if y = Str.ofString "at" then some (Value.int (0 + (i : Int) * 1) tk) else m7 y) (it :: mu7)) ?_ ?_
    · repeat (walk_at "ms")
      with_reducible refine r_item_list (x := .ref ae) (O.list hl) (by walk_at "o") (by simp; walk_at "o") (by rw [eidx]; simpa using hve) ?_ (by with_unfolding_all rfl)
      repeat (walk_at "ms")
      with_reducible refine r_item_tup (O.tup hte) (by decide) (by simp) (by simp) rfl ?_ (by with_unfolding_all rfl)
      repeat (walk_at "ms")
      rename_i O
      exact ⟨rfl, _, _, rfl, O⟩
    rintro s₂ ⟨h3, k3, rfl, O⟩
    have Ob := O
    with_reducible refine r_seq (fun s₂ => ∃ h2 k2 g2 ls0 ps0 l vl p n n', s₂ = S3 s h2 k2 ∧ g'.StaysIn g2 ∧ Own g2 L h2 (fun y => if y = Str.ofString "u" then some (Value.int e.u te1) else if y = Str.ofString "at" then some (Value.int (0 + (i : Int) * 1) tk) else m7 y) [(l, listOf vl.toArray n'), (D, listOf ((ls0 ++ [l]).map Value.ref).toArray n), it] ∧ All2 (IsPart2 b hp g2) ls0 ps0 ∧ hp.get? l = none ∧ All2 (IsEnt b) vl p ∧
        (ps0 ++ [p]).flatten = es.take i ∧ (∀ q ∈ ps0, q ≠ []) ∧ (ps0 ++ [p]).Pairwise UserLt ∧ ∀ q ∈ ps0, ∀ x ∈ q, x.u < e.u) ?_ ?_
    · rcases st with ⟨rfl, n, rfl⟩ | ⟨ip, ls0, ps0, l, vl, p, n, n', rfl, hps, hlf, hp, PO⟩
      · repeat (walk_at "ms")
        have O := O.swap
        with_reducible refine r_mAppend O.head ?_
        repeat (walk_at "ms")
        rename_i l h4 fr _ _ O
        have fr := none_back (fun z o e => Ob.keep z o (hg z o e)) fr
        have O := O.swap
        with_reducible refine r_append O (by simp) fun h5 n5 O => ?_
        repeat (walk_at "ms")
        exact ⟨rfl, h5, _, g', [], [], l, [], [], n5, 0, rfl, fun _ _ e => e, O.swap, .nil, fr, .nil, rfl, (fun _ h => nomatch h), List.pairwise_singleton _ _, fun _ h => nomatch h⟩
      · have ilast : i - 1 < es.length := by walk_at "o"
        obtain ⟨vp, hvp, ap, tp1, tp2, tp3, tp4, rfl, htp0⟩ := hv.get (List.getElem?_eq_getElem ilast)
        have htp := stays_tup kbg htp0
        have epidx : ((0 : Int) + (i : Int) * 1 - 1).toNat = i - 1 := by walk_at "o"
        have pne : p ≠ [] := PO.ne p (by simp)
        have pne0 : ∀ q ∈ ps0, q ≠ [] := fun q hq => PO.ne q (by simp [hq])
        have pw0 := PO.pw
        have old : ∀ q ∈ ps0, ∀ x ∈ q, x.u < e.u := fun q hq x hx => by
          obtain ⟨b, hb⟩ := List.exists_mem_of_ne_nil p pne
          have h1 := (List.pairwise_append.mp pw0).2.2 q hq p (.head _) x hx b hb
          have h2 := before b (by rw [← PO.flat]; simp [hb])
          walk_at "o"
        repeat (walk_at "ms")
        rename_i O
        with_reducible refine r_item_list (x := .ref ap) (O.list hl) (by walk_at "o") (by simp; walk_at "o") (by rw [epidx]; simpa using hvp) ?_ (by with_unfolding_all rfl)
        repeat (walk_at "ms")
        with_reducible refine r_item_tup (O.tup htp) (by decide) (by simp) (by simp) rfl ?_ (by with_unfolding_all rfl)
        repeat (walk_at "ms")
        by_cases hu : es[i - 1].u = e.u
        · refine if_F (by simp [hu]) ?_
          repeat (walk_at "ms")
          exact ⟨rfl, _, _, g', ls0, ps0, l, vl, p, n, n', rfl, fun _ _ e => e, O.rev, hps, hlf, hp, PO.flat, pne0, pw0, old⟩
        · refine if_T (by simpa using hu) ?_
          repeat (walk_at "ms")
          refine if_bool (fun hb => ?_) fun hb => ?_
          · have O := (O.perm (rot3 _ _ _))
            have hlO := O.head
            have hlL := (O.mus _ (.head _)).2.1
            have hlmu := (List.nodup_cons.mp O.nd).1
            obtain ⟨O2, st2, k3⟩ := O.drop.rebase
            have hl2 := isList_of (k3 l _ hlL hlmu hlO)
            have G2 := G.keeps st2
            clear O
            have O := O2
            repeat (walk_at "ms")
            have O := O.swap
            with_reducible refine r_mAppend O.head ?_
            repeat (walk_at "ms")
            rename_i l2 h4 fr _ _ O
            have fr := none_back (fun z o e => Ob.keep z o (hg z o e)) fr
            have O := O.swap
            with_reducible refine r_append O (by have h1 := hps.length; have h2 := len_flat PO.ne; rw [PO.flat, List.length_take, List.length_append] at h2; simp at h2 ⊢; walk_at "o") fun h5 n5 O => ?_
            repeat (walk_at "ms")
            have e5 : (List.map Value.ref (ls0 ++ [l])).toArray.push (.ref l2) = (List.map Value.ref ((ls0 ++ [l]) ++ [l2])).toArray := by simp
            rw [e5] at O
            refine ⟨rfl, h5, _, _, ls0 ++ [l], ps0 ++ [p], l2, [], [], n5, 0, rfl, st2, O.swap, ?_, fr, .nil, ?_, PO.ne, ?_, ?_⟩
            · exact (hps.imp fun _ _ q => q.mono st2).append (.cons ⟨hlf, vl, hl2, hp⟩ .nil)
            · rw [List.flatten_append]; simpa using PO.flat
            · refine List.pairwise_append.mpr ⟨pw0, List.pairwise_singleton _ _, fun q _ r hr => ?_⟩
              rw [List.mem_singleton.mp hr]
              exact fun _ _ _ hb => nomatch hb
            · intro q hq x hx
              have hx' : x ∈ es.take i := by rw [← PO.flat]; exact List.mem_flatten.mpr ⟨q, hq, hx⟩
              have hxl : x.u ≤ es[i - 1].u := by
                obtain ⟨j, hj, rfl⟩ := List.getElem_of_mem hx'
                rw [List.length_take] at hj
                rw [List.getElem_take]
                by_cases hji : j = i - 1
                · subst hji; exact Int.le_refl _
                · have := lex_lt (hpw j (i - 1) (by walk_at "o") (by walk_at "o") (by walk_at "o"))
                  walk_at "o"
              have := lex_lt (hpw (i - 1) i ilast hi (by walk_at "o"))
              rw [hei] at this
              walk_at "o"
          · repeat (walk_at "ms")
            exact ⟨rfl, _, _, g', ls0, ps0, l, vl, p, n, n', rfl, fun _ _ e => e, O.rev, hps, hlf, hp, PO.flat, pne0, pw0, old⟩
    · rintro s₂ ⟨h4, k4, g2, ls0, ps0, l, vl, p, n, n', rfl, st2, O, hps, hlf, hp, hflat, hne, hpw2, hold⟩
      have G := G.keeps st2
      have hl := stays_list st2 hl
      have hlsz : ls0.length ≤ 100 := by
        have h1 := hps.length
        have h2 := len_flat hne
        have h3 := congrArg List.length hflat
        rw [List.flatten_append, List.length_append, List.length_take] at h3
        walk_at "o"
      have hvsz : vl.length ≤ 100 := by
        have h1 := hp.length
        have h3 := congrArg List.length hflat
        rw [List.flatten_append, List.length_append, List.length_take] at h3
        simp at h3
        walk_at "o"
      have hlD := isList_of O.second
      have hDz : (List.map Value.ref (ls0 ++ [l])).toArray.size = ls0.length + 1 := by simp
      repeat (walk_at "ms")
      rw [hDz]
      with_reducible refine r_item_list (x := .ref l) hlD (by walk_at "o") (by walk_at "o") (by rw [show (((ls0.length + 1 : Nat) : Int) - 1).toNat = ls0.length by walk_at "o"]; simp) ?_ (by with_unfolding_all rfl)
      repeat (walk_at "ms")
      with_reducible refine r_mAppend O.head ?_
      repeat (walk_at "ms")
      with_reducible refine r_item_list (x := .ref ae) (O.list hl) (by walk_at "o") (by simp; walk_at "o") (by rw [eidx]; simpa using hve) ?_ (by with_unfolding_all rfl)
      repeat (walk_at "ms")
      with_reducible refine r_append O (by simp; walk_at "o") fun h5 n5 O => ?_
      repeat (walk_at "ms")
      have e5 : vl.toArray.push (Value.ref ae) = (vl ++ [Value.ref ae]).toArray := by simp
      rw [e5] at O
      refine ⟨g2, h5, _, [(D, listOf ((ls0 ++ [l]).map Value.ref).toArray n), (l, listOf (vl ++ [Value.ref ae]).toArray n5)], _, rfl, st2, O.rev, e1, ⟨_, e2⟩, e3, .inr ⟨by walk_at "o", ls0, ps0, l, vl ++ [Value.ref ae], p ++ [e], n, n5, rfl, hps, hlf, hp.append (.cons hIE .nil), ?_, ?_, ?_⟩⟩
      · rw [htk, ← hflat, List.flatten_append, List.flatten_append]; simp
      · intro q hq
        rcases List.mem_append.mp hq with q1 | q1
        · exact hne q q1
        · rw [List.mem_singleton.mp q1]; simp
      · have pw := List.pairwise_append.mp hpw2
        refine List.pairwise_append.mpr ⟨pw.1, List.pairwise_singleton _ _, fun q hq r hr x hx b hb => ?_⟩
        rw [List.mem_singleton.mp hr] at hb
        rcases List.mem_append.mp hb with hb | hb
        · exact pw.2.2 q hq p (.head _) x hx b hb
        · rw [List.mem_singleton.mp hb]; exact hold q hq x hx
  · rintro g' h7 m7 mu7 k7 hg ⟨e1, ⟨tb', e2⟩, e3, st⟩ O
    have G := G.keeps hg
    repeat (walk_at "ms")
    rcases st with ⟨h0, n, rfl⟩ | ⟨ip, ls0, ps0, l, vl, p, n, n', rfl, hps, hlf, hp, PO⟩
    · have : es = [] := List.eq_nil_of_length_eq_zero h0
      subst this
      exact hQ _ _ D [] [] (fun b o e => O.keep b o (hg b o e)) frD O.headList .nil ⟨rfl, (fun _ h => nomatch h), .nil⟩
    · rw [List.take_length] at PO
      refine hQ _ _ D (ls0 ++ [l]) (ps0 ++ [p]) (fun b o e => O.keep b o (hg b o e)) frD O.headList ?_ PO
      exact (hps.imp fun _ _ q => q.mono O.keep).append (.cons ⟨hlf, vl, isList_of O.second, hp⟩ .nil)
  · intro _ _; rfl
end parts2
/-- what stands while the shelves are laid -/
structure ShS (w : World) (g : Heap) (m : Str → Option Value) (an H y x : Addr) (a : Int) (cnt size : Nat) (ls : List Addr) (tabs : List TB) (lv : List (Addr × List Value × Nat)) (oD : Obj) : Prop where
  nm : LV m an H a cnt size
  ver : m "version" = some (.ref y)
  ord : m "order" = some (.ref x)
  ranks : ∃ rk rv, m "ranks" = some (.ref rk) ∧ g.IsList rk (List.toArray rv) ∧ IntsAre rv (tabs.map TB.num).reverse
  dict : ∃ kvs, oD.IsDictOf (intKind PG w) kvs ∧ KvOk g kvs tabs
  lvok : LvOk g lv tabs
  lls : lv.map (·.1) = ls
theorem ShS.mono {w : World} {g g' : Heap} {m : Str → Option Value} {an H y x : Addr} {a : Int} {cnt size : Nat} {ls : List Addr} {tabs : List TB} {lv : List (Addr × List Value × Nat)} {oD : Obj} (k : g.StaysIn g') (S : ShS w g m an H y x a cnt size ls tabs lv oD) : ShS w g' m an H y x a cnt size ls tabs lv oD := by
  obtain ⟨a, b, c, ⟨rk, rv, d1, d2, d3⟩, ⟨kvs, e1, e2⟩, f, i⟩ := S
  exact ⟨a, b, c, ⟨rk, rv, d1, stays_list k d2, d3⟩, ⟨kvs, e1, e2.mono k⟩, f.mono k, i⟩
theorem LV.same {m m' : Str → Option Value} {an H : Addr} {a : Int} {cnt size : Nat} (V : LV m an H a cnt size) (e : ∀ z : Str, z = "nums" ∨ z = "a" ∨ z = "count" ∨ z = "shelves" ∨ z = "size" ∨ z = "history" → m' z = m z) : LV m' an H a cnt size := by
  obtain ⟨f1, f2, f3, f4, f5, f6⟩ := V
  exact ⟨by rw [e _ (by simp)]; exact f1, by rw [e _ (by simp)]; exact f2, by rw [e _ (by simp)]; exact f3, by rw [e _ (by simp)]; exact f4, by rw [e _ (by simp)]; exact f5, by rw [e _ (by simp)]; exact f6⟩
theorem ShParts.of_nil {cnt i : Nat} {hist rows : List En} (hp : rows.Perm (hist.filter fun e => decide (e.sh = (i : Int)))) (hs : rows.Pairwise fun a b => lexLt a b = true) : ShParts cnt i hist [rows] := by
  refine ⟨by simpa using hp, by simpa using hs, List.pairwise_singleton _ _, fun _ => rfl, by simp⟩
theorem ShParts.of_parts {cnt i : Nat} {hist rows : List En} {ps : List (List En)} (hp : rows.Perm (hist.filter fun e => decide (e.sh = (i : Int)))) (hs : rows.Pairwise fun a b => lexLt a b = true) (hl : cnt - 1 - i ≠ 0) (hz : hist.length ≤ 8) (P : PartsOk rows ps) : ShParts cnt i hist ps := by
  refine ⟨by rw [P.flat]; exact hp, by rw [P.flat]; exact hs, P.pw, fun h => (hl h).elim, ?_⟩
  have h1 := len_flat P.ne
  have h2 := hp.length_eq
  have h3 := List.length_filter_le (fun e : En => decide (e.sh = (i : Int))) hist
  rw [P.flat] at h1
  walk_at "o"
theorem perm3 {α : Type} {a b c : α} {l : List α} : (a :: b :: c :: l).Perm (c :: a :: b :: l) := (List.Perm.cons a (.swap c b l)).trans (.swap c a (b :: l))
theorem ent_sub {g h9 : Heap} (k : g.StaysIn h9) {hv vs : List Value} {hist os : List En} (hhv : All2 (IsEnt g) hv hist) (hsub : ∀ v ∈ vs, v ∈ hv) (H : All2 (IsEnt h9) vs os) : All2 (IsEnt g) vs os := by
  induction H with
  | nil => exact .nil
  | cons a _ ih =>
    refine .cons ?_ (ih fun v hv => hsub v (.tail _ hv))
    obtain ⟨e, he, J⟩ := ent_mem hhv (hsub _ (.head _))
    rw [a.uniq (IsEnt.mono k J)]; exact J
theorem perm4 {α : Type} {a b c d : α} {l : List α} : (a :: b :: c :: d :: l).Perm (d :: ([a, b, c] ++ l)) := (List.Perm.cons a perm3).trans (.swap d a (b :: c :: l))
section shelf
variable {w : World} {A : Around} {s : Shared} {g h : Heap} {k : Nat} {mg mb : Str → Option Value} {E : Value → Shared → Prop} {L fa : Addr} {cd : Value} {m : Str → Option Value}
theorem shelf_turn {Q : Flow → Shared → Prop} {an H y x dT F : Addr} {a : Int} {cnt size i : Nat} {ls : List Addr} {hist : List En} {hv : List Value} {es : List DictEntry} {itS : Addr × Obj} {oD oS : Obj} {lv : List (Addr × List Value × Nat)} {tabs : List TB} {tk : Tok}
    (G : GK w mg mb g) (hA : OkA A 3) (O : Own g L h m ((L + 1 + 1, oS) :: itS :: (dT, oD) :: inner lv)) (S : ShS w g m an H y x a cnt size ls tabs lv oD)
    (hs : oS.data = .cell (some (.int ((0 : Int) + (i : Int) * 1) tk))) (hc : g.IsCell (L + 1) (some (.ref dT))) (hH : g.IsList H hv.toArray) (hhv : All2 (IsEnt g) hv hist) (Ho : HistOk hist) (hz : hist.length ≤ 8)
    (hI : IsInst g y 539 es) (hV : VerEs es cnt x F) (hF : g.IsList F (ls.map Value.ref).toArray) (hls : ls.length = cnt) (hcnt : cnt ≤ 4) (hc0 : 0 < cnt) (hi : i < cnt + 2) (I : ShInv cnt hist i tabs)
    (hQ : ∀ g' h' m' k' oD' lv' tabs', g.StaysIn g' → Own g' L h' m' ((L + 1 + 1, oS) :: itS :: (dT, oD') :: inner lv') → ShS w g' m' an H y x a cnt size ls tabs' lv' oD' → ShInv cnt hist (i + 1) tabs' → Q .next (S3 s h' k')) :
    wpAny (model PG w) A (execs shelfB (lawEnv L fa cd)) Q E (S3 s h k) := by
  unfold shelfB
  obtain ⟨⟨f1, ⟨ta, f2⟩, ⟨tc, f3⟩, ⟨tsh, f4⟩, ⟨tz, f5⟩, f6⟩, f7, f8, f9, f10, f11, f12⟩ := S
  have hhn := hhv.length
  have hnd : (hist.filter fun e => decide (e.sh = (i : Int))).Nodup := (Ho.pw.imp fun {a b} hab q => by rw [q] at hab; walk_at "o").filter _
  repeat (walk_at "ms")
  refine r_lcomp (L := L) (entP g (fun e => decide (e.sh = (i : Int)))) (fun v y => y = v) hA.handled (by rfl) (by decide) rfl (by decide) rfl (fun _ => rfl) ?_
  repeat (walk_at "ms")
  have hcs := isCell_get O.head hs
  have hlH := O.list hH
  refine ⟨H, hv.toArray, g, _, _, _, _, rfl, rfl, O, hlH, by simp; walk_at "o", ?_, ?_, ?_⟩
  · rintro s' v C h9 k9 m9 E' hv9 O9 e9
    refine one_test ?_
    obtain ⟨e, he, J⟩ := ent_mem hhv (by simpa using hv9)
    rw [entP_eq J]
    obtain ⟨ae, te1, te2, te3, te4, rfl, hte⟩ := J
    have hte := O9.tup (O.tup hte)
    repeat (walk_at "ms")
    with_reducible refine r_item_tup hte (by decide) (by simp) (by simp) rfl ?_ (by with_unfolding_all rfl)
    repeat (walk_at "ms")
    refine ⟨?_, _, _, rfl, fun b o e => e⟩
    rw [show (0 : Int) + (i : Int) * 1 = (i : Int) by walk_at "o"]
    exact Bool.eq_iff_iff.mpr (by simp)
  · rintro s' v C h9 k9 m9 E' hv9 hp9 O9 e9
    repeat (walk_at "ms")
    exact ⟨rfl, _, _, rfl, fun _ _ e => e⟩
  intro D2 ys n2 h9 k9 fD2 kb O hF2
  have hys : ys.toList = hv.filter (entP g fun e => decide (e.sh = (i : Int))) := by
    rw [paired_same (fun _ _ e => e) hF2]
  have hFl := ent_filter (f := fun e => decide (e.sh = (i : Int))) hhv
  rw [← hys] at hFl
  have hfn := hFl.length
  have hfz := List.length_filter_le (fun e : En => decide (e.sh = (i : Int))) hist
  have O9k := O.keep
  have hFh : All2 (IsEnt h9) ys.toList _ := hFl.imp fun _ _ q => IsEnt.mono O.keep q
  repeat (walk_at "ms")
  refine r_sortedM (vs := ys.toList) O (by have := isList_of O.head; simpa using this) hFh (by walk_at "o") hnd fun D3 n3 h10 vs' os fD3 kp hperm hsort hsub hEs O => ?_
  repeat (walk_at "ms")
  rename_i O
  have hEg := ent_sub (fun b o e => O9k b o e) hhv (fun v hv => by have := hsub v hv; rw [hys] at this; exact (List.mem_filter.mp this).1) hEs
  obtain ⟨g2, st2, O2, k2⟩ := O.drop.drop.freeze
  have hl3 := isList_of (k2 D3 _ (O.mus _ (.head _)).2.1 (fun q => (List.nodup_cons.mp O.nd).1 (.tail _ q)) O.head)
  have hP3 : IsPart g2 D3 os := ⟨vs', hl3, hEg.imp fun _ _ q => IsEnt.mono st2 q⟩
  clear O
  have O := O2
  have G := G.keeps st2
  have hc := IsCell.mono st2 hc
  have hI := hI.mono st2
  have hF := stays_list st2 hF
  have hH := stays_list st2 hH
  have hcs := isCell_get O.head hs
  repeat (walk_at "ms")
  rw [show (cnt : Int) - 1 - (0 + (i : Int) * 1) = (cnt : Int) - 1 - i by walk_at "o"]
  refine r_max hA.handled fun h11 t11 k11 st11 => ?_
  have O := O.grow st11
  rw [show max (0 : Int) ((cnt : Int) - 1 - i) = ((cnt - 1 - i : Nat) : Int) by walk_at "o"]
  repeat (walk_at "ms")
  rename_i O
  have hcs := isCell_get O.second hs
  iterate 4 (walk_at "ms")
  rename_i aP _ _ _ _ _ _ _ O
  with_reducible refine r_seq (fun s₂ => ∃ g3 h3 k3 m3 pa ls3 ps tn tl, s₂ = S3 s h3 k3 ∧ g2.StaysIn g3 ∧ Own g3 L h3 m3 ((L + 1 + 1, oS) :: itS :: (dT, oD) :: inner lv) ∧ (∀ z : Str, z ≠ "rows" → z ≠ "level" → z ≠ "parts" → z ≠ "number" → m3 z = m z) ∧ m3 "level" = some (.int ((cnt - 1 - i : Nat) : Int) tl) ∧ m3 "number" = some (.int (num0 cnt i) tn) ∧ m3 "parts" = some (.ref pa) ∧ g3.IsList pa (List.map Value.ref ls3).toArray ∧ All2 (IsPart g3) ls3 ps ∧ ShParts cnt i hist ps) ?_ ?_
  · by_cases hl0 : cnt - 1 - i = 0
    · repeat (walk_at "ms")
      obtain ⟨g3, st3, O3, k3⟩ := O.drop.freeze
      have hl4 := isList_of (k3 aP _ (O.mus _ (.head _)).2.1 (List.nodup_cons.mp O.nd).1 O.head)
      refine ⟨rfl, g3, _, _, _, aP, [D3], [os], (k11 + 1 + 1 + 1), t11, rfl, st3, O3, ?_, rfl, ?_, rfl, hl4, .cons (hP3.mono st3) .nil, .of_nil hperm hsort⟩
      · intro z z1 z2 z3 z4
        simp only [z1, z2, z3, z4, if_false]
      · show some (Value.int (60 + (0 + (i : Int) * 1)) _) = _
        rw [show num0 cnt i = 60 + (0 + (i : Int) * 1) by unfold num0; rw [if_pos hl0]; walk_at "o"]
    · repeat (walk_at "ms")
      have Oh := O
      refine parts_spec2 (b := g2) O.keep (O.gk G) (hA.le (by decide)) hP3 (fun e he => ?_) hsort (by have := hperm.length_eq; walk_at "o") fun h12 k12 pa ls3 ps st12 fpa hpa hps PO => ?_
      · have he2 := (List.mem_filter.mp (hperm.mem_iff.mp he)).1
        exact ⟨(Ho.ok e he2).u0, (Ho.ok e he2).u1⟩
      obtain ⟨g3, st3, O3, k3⟩ := (O.grow st12).drop.freeze
      have hpa : g3.IsList pa (ls3.map Value.ref).toArray := by
        obtain ⟨o, ho, r⟩ := hpa
        exact ⟨o, k3 _ _ (Oh.neL fpa) (Oh.drop.neMu fpa) ho, r⟩
      have hps : All2 (IsPart g3) ls3 ps := hps.imp fun l p ⟨fl, vl, ⟨o, ho, r⟩, hE⟩ => ⟨vl, ⟨o, k3 _ _ (Oh.neL fl) (Oh.drop.neMu fl) ho, r⟩, hE.imp fun _ _ q => IsEnt.mono st3 q⟩
      clear O
      have O := O3
      clear O3
      repeat (walk_at "ms")
      rename_i O
      refine ⟨rfl, g3, _, _, _, pa, ls3, ps, (k12 + 1 + 1), t11, rfl, st3, O, ?_, rfl, ?_, rfl, hpa, hps, .of_parts hperm hsort hl0 hz PO⟩
      · intro z z1 z2 z3 z4
        simp only [z1, z2, z3, z4, if_false]
      · show some (Value.int (10 * ((cnt - 1 - i : Nat) : Int)) _) = _
        rw [show num0 cnt i = 10 * ((cnt - 1 - i : Nat) : Int) by unfold num0; rw [if_neg hl0]]
  clear hcs hP3 O2 hl3
  rintro s₂ ⟨g3, h3, k3, m3, pa, ls3, ps, tn, tl, rfl, st3, O, em, e1, e2, e3, hpa, hps, P⟩
  repeat (walk_at "ms")
  have G := G.keeps st3
  have hc3 := IsCell.mono st3 hc
  have hI3 := hI.mono st3
  have hF3 := stays_list st3 hF
  have sg3 : g.StaysIn g3 := fun b o e => st3 b o (st2 b o e)
  have hps_len := hps.length
  have V3 : LV m3 an H a cnt size := LV.same ⟨f1, ⟨ta, f2⟩, ⟨tc, f3⟩, ⟨tsh, f4⟩, ⟨tz, f5⟩, f6⟩ (by rintro z (rfl | rfl | rfl | rfl | rfl | rfl) <;> exact em _ (by decide) (by decide) (by decide) (by decide))
  have S3' : ShS w g3 m3 an H y x a cnt size ls tabs lv oD := by
    obtain ⟨rk, rv, r1, r2, r3⟩ := f9
    obtain ⟨kvs, d1, d2⟩ := f10
    exact ⟨V3, by rw [em _ (by decide) (by decide) (by decide) (by decide)]; exact f7, by rw [em _ (by decide) (by decide) (by decide) (by decide)]; exact f8, ⟨rk, rv, by rw [em _ (by decide) (by decide) (by decide) (by decide)]; exact r1, stays_list sg3 r2, r3⟩, ⟨kvs, d1, d2.mono sg3⟩, f11.mono sg3, f12⟩
  with_reducible refine r_iter_list hA.handled O hpa (fun j g' m' mu' => ∃ oD' lv' tn' tl', mu' = (L + 1 + 1, oS) :: itS :: (dT, oD') :: inner lv' ∧ m' "level" = some (.int ((cnt - 1 - i : Nat) : Int) tl') ∧ m' "number" = some (.int (num0 cnt i + (mkT (num0 cnt i) (cnt - 1 - i) (ps.take j)).length) tn') ∧ ShS w g' m' an H y x a cnt size ls (tabs ++ mkT (num0 cnt i) (cnt - 1 - i) (ps.take j)) lv' oD') ?_ ?_ ?_ ?_
  · refine ⟨oD, lv, tn, tl, rfl, e1, ?_, by simpa [mkT] using S3'⟩
    rw [e2]
    show _ = some (Value.int (num0 cnt i + ((0 : Nat) : Int)) tn)
    rw [show num0 cnt i + ((0 : Nat) : Int) = num0 cnt i by walk_at "o"]
  · rintro E2 j v g' h7 m7 mu7 itP k7 hj hvj hg ⟨oD', lv', tn', tl', rfl, e1, e2, S⟩ O
    have hj2 : j < ps.length := by have := hj; simp at this; walk_at "o"
    obtain ⟨p, hpj⟩ : ∃ p, ps[j]? = some p := ⟨_, List.getElem?_eq_getElem hj2⟩
    obtain ⟨l, hlj, hp⟩ := hps.get hpj
    have hv : v = .ref l := by
      rw [List.getElem?_toArray, List.getElem?_map, hlj] at hvj
      exact (Option.some.inj hvj).symm
    subst hv
    have htk : ps.take (j + 1) = ps.take j ++ [p] := by rw [List.take_add_one, hpj]; rfl
    have hpm : p ∈ ps := List.mem_of_getElem? hpj
    have hmem : ∀ e ∈ p, e ∈ hist := fun e he => (List.mem_filter.mp (P.perm.mem_iff.mp (List.mem_flatten.mpr ⟨p, hpm, he⟩))).1
    have hp8 : p.length ≤ 8 := by
      have h1 := (List.sublist_flatten_of_mem hpm).length_le
      have h2 := P.perm.length_eq
      walk_at "o"
    have htl : (ps.take j).length ≤ 8 := by have := P.len; rw [List.length_take]; walk_at "o"
    have hml := mkT_len (num0 cnt i) (cnt - 1 - i) (ps.take j)
    have sgg : g.StaysIn g' := fun b o e => hg b o (sg3 b o e)
    obtain ⟨f1, f7, f8, ⟨rk, rv, r1, r2, r3⟩, ⟨kvs, d1, d2⟩, f11, f12⟩ := S
    have hlvl : lv'.length = cnt := by rw [← hls, ← f12, List.length_map]
    have hFe : (lv'.map fun z => Value.ref z.1) = ls.map Value.ref := by rw [← f12, List.map_map]; rfl
    walk_at "ms"
    rename_i O
    have O := O.perm (perm4 (l := inner lv'))
    refine part_turn (R := [itP, (L + 1 + 1, oS), itS]) (G.keeps hg) hA O rfl e2 e1 f7 r1 (hp.mono hg) (fun e he => Ho.ok e (hmem e he)) hp8 (IsCell.mono hg hc3) d1 d2 (I.fresh htl) r2 r3 (hI3.mono hg) hV (by
      rw [hFe]; exact stays_list hg hF3) f11 (by walk_at "o") (by walk_at "o") (by
        have := I.len; rw [List.length_append]; walk_at "o") fun g9 h9 m9 k9 oD9 kvs9 lv9 rk9 rv9 t9 st9 O z1 z2 z3 z4 z5 z6 z7 z8 z9 => ?_
    have O := O.perm (perm4 (l := inner lv9)).symm
    have em9 : ∀ z : Str, z ≠ "ranks" → z ≠ "last" → z ≠ "low" → z ≠ "high" → z ≠ "number" → z ≠ "part" → m9 z = m7 z := fun z a1 a2 a3 a4 a5 a6 => by
      rw [z1 z a1 a2 a3 a4 a5]; exact if_neg a6
    have eMT : tabs ++ mkT (num0 cnt i) (cnt - 1 - i) (ps.take (j + 1)) = tabs ++ mkT (num0 cnt i) (cnt - 1 - i) (ps.take j) ++ mkT (num0 cnt i + (mkT (num0 cnt i) (cnt - 1 - i) (ps.take j)).length) (cnt - 1 - i) [p] := by
      rw [htk, mkT_app, List.append_assoc]
    refine ⟨g9, h9, m9, _, k9, rfl, st9, O, oD9, lv9, t9, tl', rfl, ?_, ?_, ?_⟩
    · rw [em9 _ (by decide) (by decide) (by decide) (by decide) (by decide) (by decide)]; exact e1
    · rw [z2, htk, mkT_app, List.length_append]
      push_cast
      rw [Int.add_assoc]
    · rw [eMT]
      refine ⟨LV.same f1 (by rintro z (rfl | rfl | rfl | rfl | rfl | rfl) <;> exact em9 _ (by decide) (by decide) (by decide) (by decide) (by decide) (by decide)), ?_, ?_, ⟨rk9, rv9, z3, z6, z7⟩, ⟨kvs9, z4, z5⟩, z8, z9.trans f12⟩
      · rw [em9 _ (by decide) (by decide) (by decide) (by decide) (by decide) (by decide)]; exact f7
      · rw [em9 _ (by decide) (by decide) (by decide) (by decide) (by decide) (by decide)]; exact f8
  · rintro g' h7 m7 mu7 k7 hg ⟨oD', lv', tn', tl', rfl, e1, e2, S⟩ O
    have hsz : (List.map Value.ref ls3).toArray.size = ps.length := by simp [hps_len]
    rw [hsz, List.take_length] at S
    repeat (walk_at "ms")
    exact hQ g' _ _ _ _ _ _ (fun b o e => hg b o (sg3 b o e)) O S (I.step Ho hc0 hcnt hi hz P)
  · intro _ _; rfl
end shelf
section lev
variable {cnt : Nat} {hist : List En} {tabs : List TB}
theorem levs_get {l : Nat} {fs : List FM} (h : (levs cnt tabs)[l]? = some fs) : l < cnt ∧ fs = (tabs.filter fun t => t.lev = l).map TB.fm := by
  unfold levs at h
  rw [List.getElem?_map] at h
  obtain ⟨a, ha, rfl⟩ := Option.map_eq_some_iff.mp h
  rcases Nat.lt_or_ge l cnt with q | q
  · rw [List.getElem?_range q] at ha; cases ha; exact ⟨q, rfl⟩
  · rw [List.getElem?_eq_none (by rw [List.length_range]; exact q)] at ha; cases ha
theorem levs_mem {fs : List FM} (h : fs ∈ levs cnt tabs) {f : FM} (hf : f ∈ fs) : ∃ t ∈ tabs, f = t.fm := by
  unfold levs at h
  obtain ⟨l, _, rfl⟩ := List.mem_map.mp h
  obtain ⟨t, ht, rfl⟩ := List.mem_map.mp hf
  exact ⟨t, (List.mem_filter.mp ht).1, rfl⟩
theorem levs_length : (levs cnt tabs).length = cnt := by unfold levs; rw [List.length_map, List.length_range]
theorem filt_len : ∀ (tabs : List TB) (n : Nat), (tabs.filter fun t => decide (t.lev < n + 1)).length = (tabs.filter fun t => decide (t.lev < n)).length + (tabs.filter fun t => decide (t.lev = n)).length
  | [], _ => rfl
  | t :: r, n => by
    have ih := filt_len r n
    simp only [List.filter_cons, decide_eq_true_eq]
    by_cases h1 : t.lev = n
    · rw [if_pos (by walk_at "o"), if_neg (by walk_at "o"), if_pos h1, List.length_cons, List.length_cons]; walk_at "o"
    · by_cases h2 : t.lev < n
      · rw [if_pos (by walk_at "o"), if_pos h2, if_neg h1, List.length_cons, List.length_cons]; walk_at "o"
      · rw [if_neg (by walk_at "o"), if_neg h2, if_neg h1]; exact ih
theorem levs_flat : ∀ n, (levs n tabs).flatten.length = (tabs.filter fun t => decide (t.lev < n)).length
  | 0 => by
    have : (tabs.filter fun t => decide (t.lev < 0)) = [] := List.filter_eq_nil_iff.mpr (by simp)
    rw [this]; rfl
  | n + 1 => by
    have ih := levs_flat n
    rw [filt_len, ← ih]
    unfold levs
    rw [List.range_succ, List.map_append, List.flatten_append, List.length_append]
    simp
theorem EnOk.key {e : En} (h : EnOk e) : KeyOk e.u e.m e.k := ⟨h.u0, h.u1, by have := h.m0; walk_at "o", by have := h.m1; walk_at "o", by have := h.k; walk_at "o", by have := h.k; walk_at "o"⟩
theorem fm_ok (H : HistOk hist) (T : TabsOk cnt hist tabs) {t : TB} (ht : t ∈ tabs) : t.fm.Ok := by
  have K := T.ok t ht
  exact ⟨(H.ok _ (K.mem _ K.lo_mem)).key, (H.ok _ (K.mem _ K.hi_mem)).key, Int.le_of_lt K.n0, K.n1⟩
theorem TabRel.symm_num {a b : TB} (h : TabRel a b) : b.fm.num ≠ a.fm.num := fun q => h.2.1 q.symm
theorem files_ok (H : HistOk hist) (T : TabsOk cnt hist tabs) (hz : tabs.length < 64) (hc : cnt ≤ 100) : FilesOk (levs cnt tabs) := by
  refine ⟨?_, ?_, ?_, ?_, ?_, ?_, ?_⟩
  · intro fs hfs f hf
    obtain ⟨t, ht, rfl⟩ := levs_mem hfs hf
    exact fm_ok H T ht
  · have base : ∀ {a b : TB}, a ∈ tabs → b ∈ tabs → a.lev ≠ b.lev → a.fm.num ≠ b.fm.num := by
      intro a b ha hb hne
      have := T.pw
      obtain ⟨i, hi, rfl⟩ := List.getElem_of_mem ha
      obtain ⟨j, hj, rfl⟩ := List.getElem_of_mem hb
      have pw := List.pairwise_iff_getElem.mp T.pw
      rcases Nat.lt_trichotomy i j with c | c | c
      · exact (pw i j hi hj c).2.1
      · subst c; exact (hne rfl).elim
      · exact (pw j i hj hi c).symm_num
    have main : (levs cnt tabs).flatten.Pairwise fun a b => a.num ≠ b.num := by
      refine List.pairwise_flatten.mpr ⟨fun fs hfs => ?_, ?_⟩
      · obtain ⟨l, _, rfl⟩ := List.mem_map.mp hfs
        rw [List.pairwise_map]
        exact (T.pw.filter _).imp fun h => h.2.1
      · unfold levs
        rw [List.pairwise_map]
        refine (List.pairwise_lt_range).imp fun {l l'} hll x hx y hy => ?_
        obtain ⟨t, ht, rfl⟩ := List.mem_map.mp hx
        obtain ⟨t', ht', rfl⟩ := List.mem_map.mp hy
        have h1 := List.mem_filter.mp ht
        have h2 := List.mem_filter.mp ht'
        exact base h1.1 h2.1 (by have a := of_decide_eq_true h1.2; have b := of_decide_eq_true h2.2; walk_at "o")
    exact List.pairwise_map.mpr main
  · intro fs hfs f hf
    obtain ⟨t, ht, rfl⟩ := levs_mem hfs hf
    have K := T.ok t ht
    have h1 := K.lo_le K.hi_mem
    have e0 := H.ok _ (K.mem _ K.lo_mem)
    have e9 := H.ok _ (K.mem _ K.hi_mem)
    have k0 := e0.k
    have k9 := e9.k
    show icmp t.lo.u t.lo.m t.lo.k t.hi.u t.hi.m t.hi.k ≤ 0
    rcases hist_rel H (K.mem _ K.lo_mem) (K.mem _ K.hi_mem) with q | q | q
    · rw [q]; unfold icmp; simp
    all_goals
      unfold icmp
      split
      · walk_at "o"
      · split
        · walk_at "o"
        · split
          · walk_at "o"
          · split <;> walk_at "o"
  · intro fs hfs i f f' h1 h2
    obtain ⟨_, rfl⟩ := levs_get hfs
    rw [List.getElem?_map] at h1 h2
    obtain ⟨t, ht, rfl⟩ := Option.map_eq_some_iff.mp h1
    obtain ⟨t', ht', rfl⟩ := Option.map_eq_some_iff.mp h2
    obtain ⟨i1, e1⟩ := List.getElem?_eq_some_iff.mp ht
    obtain ⟨i2, e2⟩ := List.getElem?_eq_some_iff.mp ht'
    have r := List.pairwise_iff_getElem.mp (T.pw.filter fun t => decide (t.lev = 0)) i (i + 1) i1 i2 (by walk_at "o")
    rw [e1, e2] at r
    have a := of_decide_eq_true (List.mem_filter.mp (List.mem_of_getElem? ht)).2
    have b := of_decide_eq_true (List.mem_filter.mp (List.mem_of_getElem? ht')).2
    exact r.2.2.1 (a.trans b.symm)
  · intro l fs hl hfs i f f' h1 h2
    obtain ⟨_, rfl⟩ := levs_get hfs
    rw [List.getElem?_map] at h1 h2
    obtain ⟨t, ht, rfl⟩ := Option.map_eq_some_iff.mp h1
    obtain ⟨t', ht', rfl⟩ := Option.map_eq_some_iff.mp h2
    obtain ⟨i1, e1⟩ := List.getElem?_eq_some_iff.mp ht
    obtain ⟨i2, e2⟩ := List.getElem?_eq_some_iff.mp ht'
    have r := List.pairwise_iff_getElem.mp (T.pw.filter fun t => decide (t.lev = l)) i (i + 1) i1 i2 (by walk_at "o")
    rw [e1, e2] at r
    have m1 := List.mem_filter.mp (List.mem_of_getElem? ht)
    have m2 := List.mem_filter.mp (List.mem_of_getElem? ht')
    have a := of_decide_eq_true m1.2
    have b := of_decide_eq_true m2.2
    exact r.2.2.2.1 (a.trans b.symm) (by walk_at "o") _ (T.ok _ m1.1).hi_mem _ (T.ok _ m2.1).lo_mem
  · rw [levs_flat]
    have := List.length_filter_le (fun t : TB => decide (t.lev < cnt)) tabs
    walk_at "o"
  · rw [levs_length]; exact hc
theorem cut_anti {α : Type} {P : α → Bool} : ∀ {l : List α}, l.Pairwise (fun a b => P b = true → P a = true) → ∀ {i : Nat} {x : α}, l[i]? = some x → (P x = true ↔ i < (l.takeWhile P).length)
  | [], _, i, x, h => by simp at h
  | a :: r, hp, i, x, h => by
    have hp' := List.pairwise_cons.mp hp
    rw [List.takeWhile_cons]
    cases i with
    | zero =>
      simp at h; subst h
      cases q : P a <;> simp
    | succ i =>
      simp at h
      cases q : P a with
      | true =>
        rw [cut_anti hp'.2 h]
        simp only [if_true, List.length_cons]; walk_at "o"
      | false =>
        have : P x = false := by
          cases z : P x with
          | false => rfl
          | true => have := hp'.1 x (List.mem_of_getElem? h) z; rw [q] at this; cases this
        simp [this]
theorem filter_anti {α : Type} {P : α → Bool} : ∀ {l : List α}, l.Pairwise (fun a b => P b = true → P a = true) → l.filter P = l.takeWhile P
  | [], _ => rfl
  | a :: r, hp => by
    have hp' := List.pairwise_cons.mp hp
    rw [List.takeWhile_cons, List.filter_cons]
    cases q : P a with
    | true => simp [filter_anti hp'.2]
    | false =>
      simp
      intro x hx
      cases z : P x with
      | false => rfl
      | true => have := hp'.1 x hx z; rw [q] at this; cases this
theorem lev_pw (H : HistOk hist) (T : TabsOk cnt hist tabs) {l : Nat} (hl : 0 < l) (u m : Int) : (tabs.filter fun t => decide (t.lev = l)).Pairwise fun a b => ltKey u m b.hi = true → ltKey u m a.hi = true := by
  refine List.Pairwise.imp_of_mem (fun {a b} ha hb r h => ?_) (T.pw.filter _)
  have m1 := List.mem_filter.mp ha
  have m2 := List.mem_filter.mp hb
  have q1 := of_decide_eq_true m1.2
  have q2 := of_decide_eq_true m2.2
  have := r.2.2.2.1 (q1.trans q2.symm) (by walk_at "o") _ (T.ok _ m1.1).hi_mem _ (T.ok _ m2.1).hi_mem
  have h := of_decide_eq_true h
  exact decide_eq_true (by walk_at "o")
theorem lt_fm (H : HistOk hist) (T : TabsOk cnt hist tabs) {t : TB} (ht : t ∈ tabs) (u m : Int) : (icmp t.fm.hu t.fm.hm t.fm.hk u m 1 < 0) ↔ ltKey u m t.hi = true := by
  have K := T.ok t ht
  have e9 := H.ok _ (K.mem _ K.hi_mem)
  show icmp t.hi.u t.hi.m t.hi.k u m 1 < 0 ↔ _
  rw [icmp_neg e9.k rfl]
  unfold ltKey
  exact decide_eq_true_iff.symm
theorem cut_idx (H : HistOk hist) (T : TabsOk cnt hist tabs) (l : Nat) (u m : Int) : cutIdx ((tabs.filter fun t => decide (t.lev = l)).map TB.fm) u m 1 = ((tabs.filter fun t => decide (t.lev = l)).takeWhile fun t => ltKey u m t.hi).length := by
  unfold cutIdx
  rw [List.takeWhile_map, List.length_map]
  have : ∀ L : List TB, (∀ t ∈ L, t ∈ tabs) → L.takeWhile ((fun f => decide (icmp f.hu f.hm f.hk u m 1 < 0)) ∘ TB.fm) = L.takeWhile fun t => ltKey u m t.hi := by
    intro L hL
    induction L with
    | nil => rfl
    | cons a r ih =>
      have e : ((fun f : FM => decide (icmp f.hu f.hm f.hk u m 1 < 0)) ∘ TB.fm) a = ltKey u m a.hi := by
        have := lt_fm H T (hL a (.head _)) u m
        exact Bool.eq_iff_iff.mpr (decide_eq_true_iff.trans this)
      rw [List.takeWhile_cons, List.takeWhile_cons, e, ih fun t ht => hL t (.tail _ ht)]
  rw [this _ fun t ht => (List.mem_filter.mp ht).1]
theorem cut_ok (H : HistOk hist) (T : TabsOk cnt hist tabs) {l : Nat} {fs : List FM} (hl : 0 < l) (h : (levs cnt tabs)[l]? = some fs) (u m : Int) : CutOk fs u m 1 := by
  obtain ⟨_, rfl⟩ := levs_get h
  intro i f hf
  rw [cut_idx H T]
  rw [List.getElem?_map] at hf
  obtain ⟨t, ht, rfl⟩ := Option.map_eq_some_iff.mp hf
  rw [lt_fm H T (List.mem_filter.mp (List.mem_of_getElem? ht)).1]
  exact cut_anti (lev_pw H T hl u m) ht
theorem ends_cut (H : HistOk hist) (T : TabsOk cnt hist tabs) {l : Nat} (hl : 0 < l) (u m : Int) : (((tabs.filter fun t => decide (t.lev = l)).map TB.hi).filter (ltKey u m)).length = cutIdx ((tabs.filter fun t => decide (t.lev = l)).map TB.fm) u m 1 := by
  rw [cut_idx H T, List.filter_map, List.length_map]
  exact congrArg List.length (filter_anti (P := fun t : TB => ltKey u m t.hi) (lev_pw H T hl u m))
end lev
noncomputable def rest15 : List Stmt := lawB.drop 15
/-- what stands before the questions -/
structure Law2 (w : World) (g : Heap) (m : Str → Option Value) (L an H y x dT rk : Addr) (a : Int) (cnt size : Nat) (nv hv : List Value) (ns : List Int) (hist : List En) (tabs : List TB) : Prop where
  b : Hist1 g m an H a cnt size nv hv ns hist
  ver : m "version" = some (.ref y)
  ord : m "order" = some (.ref x)
  ranks : ∃ rv, m "ranks" = some (.ref rk) ∧ g.IsList rk (List.toArray rv) ∧ IntsAre rv (tabs.map TB.num).reverse
  cell : g.IsCell (L + 1) (some (.ref dT))
  tbl : IsTables w g dT tabs
  isv : IsVer g y x (levs cnt tabs)
  T : TabsOk cnt hist tabs
  z : tabs.length ≤ 48
  all : ∀ e ∈ hist, ∃ t ∈ tabs, e ∈ t.rows
  rl : ∀ t ∈ tabs, t.rows.length ≤ 8
theorem Own.nil {g h : Heap} {L : Addr} {m : Str → Option Value} {mu : List (Addr × Obj)} (O : Own g L h m mu) : Own g L h m [] := ⟨O.ns, O.keep, O.off, (fun _ h => nomatch h), List.nodup_nil⟩
theorem All2.of_get {α β : Type} {R : α → β → Prop} : ∀ {as : List α} {bs : List β}, as.length = bs.length → (∀ (i : Nat) (a : α) (b : β), as[i]? = some a → bs[i]? = some b → R a b) → All2 R as bs
  | [], [], _, _ => .nil
  | [], _ :: _, h, _ => by simp at h
  | _ :: _, [], h, _ => by simp at h
  | a :: as, b :: bs, h, H => .cons (H 0 a b rfl rfl) (All2.of_get (by simpa using h) fun i x y hx hy => H (i + 1) x y hx hy)
theorem perm5 {α : Type} {d s t : α} {X : List α} : (d :: (X ++ [s, t])).Perm (t :: s :: d :: X) :=
  ((List.perm_append_comm (l₁ := X) (l₂ := [s, t])).cons d).trans ((perm3 (a := d) (b := s) (c := t) (l := X)).trans ((List.Perm.swap s d X).cons t))
section mid
variable {w : World} {A : Around} {s : Shared} {g h : Heap} {k : Nat} {mg mb : Str → Option Value} {E : Value → Shared → Prop} {L fa : Addr} {cd : Value} {m : Str → Option Value}
theorem law_mid {Q : Flow → Shared → Prop} {an H : Addr} {a : Int} {cnt size : Nat} {nv hv : List Value} {ns : List Int} {hist : List En} {oS oT : Obj} {vS vT : Option Value}
    (G : GK w mg mb g) (hA : OkA A 6) (O : Own g L h m [(L + 1 + 1, oS), (L + 1, oT)]) (dS : oS.data = .cell vS) (dT : oT.data = .cell vT) (B : Hist1 g m an H a cnt size nv hv ns hist)
    (hQ : ∀ g' h' m' k' y x dT rk tabs, g.StaysIn g' → Own g' L h' m' [] → Law2 w g' m' L an H y x dT rk a cnt size nv hv ns hist tabs → wpAny (model PG w) A (execs rest15 (lawEnv L fa cd)) Q E (S3 s h' k')) :
    wpAny (model PG w) A (execs rest9 (lawEnv L fa cd)) Q E (S3 s h k) := by
  unfold rest9
  refine r_cons ?_
  obtain ⟨⟨f1, ⟨ta, f2⟩, ⟨tc, f3⟩, ⟨tsh, f4⟩, ⟨tz, f5⟩, f6⟩, hnl, hni, n0, n1, nn, hH, he, len, Ho, sb, c0, c1, s0, s1⟩ := B
  repeat (walk_at "ms")
  refine order_new G O (hA.le (by decide)) fun g2 h2 x k2 st2 O IO => ?_
  have G := G.keeps st2
  repeat (walk_at "ms")
  rename_i O
  refine ver_new (n := cnt) G O (hA.le (by decide)) (by walk_at "o") fun g3 h3 y es F ls k3 st3 O hI hV hF hls => ?_
  have G := G.keeps st3
  repeat (walk_at "ms")
  rename_i O
  with_reducible refine r_dict1 G O fun dD oD h4 nD fD st4 hd4 O => ?_
  repeat (walk_at "ms")
  have O := O.perm perm5
  refine r_storeC O dT rfl rfl fun h5 oT2 dT2 O => ?_
  obtain ⟨g4, st4, O4, k4⟩ := O.drop.freeze
  have hc := isCell_get (k4 (L + 1) _ (O.mus _ (.head _)).2.1 (List.nodup_cons.mp O.nd).1 O.head) dT2
  clear O
  have O := O4
  clear O4
  have G := G.keeps st4
  repeat (walk_at "ms")
  rename_i rk _ _ _ _ _ _ O
  obtain ⟨g5, st5, O5, k5⟩ := O.drop.freeze
  have hrk := isList_of (k5 rk _ (O.mus _ (.head _)).2.1 (List.nodup_cons.mp O.nd).1 O.head)
  clear O
  have O := O5
  clear O5
  have G := G.keeps st5
  rw [show ls.map (fun l => (l, listOf #[] 0)) = inner (ls.map fun l => (l, [], 0)) by unfold inner; rw [List.map_map]; rfl] at O
  have eR : (cnt : Int) + 2 = ((cnt + 2 : Nat) : Int) := by push_cast; rfl
  rw [eR]
  with_reducible refine r_range1 fun r h6 k6 t1 t2 t3 st6 hr => ?_
  have O := O.grow st6
  repeat (walk_at "ms")
  have s35 : g3.StaysIn g5 := fun b o e => st5 b o (st4 b o e)
  have sg5 : g.StaysIn g5 := fun b o e => s35 b o (st3 b o (st2 b o e))
  have hc5 := IsCell.mono st5 hc
  have hI5 := hI.mono s35
  have hF5 := stays_list s35 hF
  have hH5 := stays_list sg5 hH
  have he5 : All2 (IsEnt g5) hv hist := he.imp fun _ _ q => IsEnt.mono sg5 q
  with_reducible refine r_iter_range (n := cnt + 2) hA.handled O hr (small_one (by decide) (by decide) (by walk_at "o") (by walk_at "o")) ((rangeSize_nat _ _).trans (by walk_at "o")) (fun i g' m' mu' => ∃ oD' oS' v' lv tabs, mu' = (L + 1 + 1, oS') :: (dD, oD') :: inner lv ∧ oS'.data = .cell v' ∧ ShS w g' m' an H y x a cnt size ls tabs lv oD' ∧ ShInv cnt hist i tabs) ?_ ?_ ?_ ?_
  · refine ⟨oD, oS, vS, _, [], rfl, dS, ⟨⟨f1, ⟨_, f2⟩, ⟨_, f3⟩, ⟨_, f4⟩, ⟨_, f5⟩, f6⟩, rfl, rfl, ⟨rk, [], rfl, hrk, .nil⟩, ⟨[], hd4, .nil⟩, ?_, ?_⟩, ⟨⟨(fun _ h => nomatch h), .nil⟩, ?_, (fun _ h => nomatch h), by simp, (fun _ h => nomatch h), (fun _ h => nomatch h)⟩⟩
    · intro j z hz
      rw [List.getElem?_map] at hz
      obtain ⟨l, hl, rfl⟩ := Option.map_eq_some_iff.mp hz
      exact .nil
    · rw [List.map_map]; exact List.map_id _
    · intro e hm hs; have := (sb e hm).1; walk_at "o"
  · rintro E2 i tk g' h7 m7 mu7 it k7 hi hg ⟨oD', oS', v', lv, tabs, rfl, dS', S, I⟩ O
    have O := O.swap
    refine wpAny_assign_Name (r_storeC O dS' rfl rfl fun h8 oS2 dS2 O => ?_)
    refine shelf_turn (G.keeps hg) (hA.le (by decide)) O S dS2 (IsCell.mono hg hc5) (stays_list hg hH5) (he5.imp fun _ _ q => IsEnt.mono hg q) Ho (by walk_at "o") (hI5.mono hg) hV (stays_list hg hF5) hls c1 (by walk_at "o") hi I fun g9 h9 m9 k9 oD9 lv9 tabs9 st9 O S I => ?_
    exact ⟨g9, h9, m9, _, k9, rfl, st9, O.swap, oD9, oS2, _, lv9, tabs9, rfl, dS2, S, I⟩
  · rintro g' h7 m7 mu7 k7 hg ⟨oD', oS', v', lv, tabs, rfl, dS', S, I⟩ O
    obtain ⟨g6, st6', O6, k6'⟩ := O.nil.freeze
    obtain ⟨V, s7, s8, ⟨rkk, rv, r1, r2, r3⟩, ⟨kvs, d1, d2⟩, s11, s12⟩ := S
    have s56 : g5.StaysIn g6 := fun b o e => st6' b o (hg b o e)
    have sgg : g.StaysIn g6 := fun b o e => s56 b o (sg5 b o e)
    have G := G.keeps s56
    have hzt : tabs.length ≤ 48 := by have := I.len; walk_at "o"
    have fz : ∀ q o, (q, o) ∈ (L + 1 + 1, oS') :: (dD, oD') :: inner lv → g6.get? q = some o := fun q o hq => k6' q o (O.mus _ hq).2.1 (fun z => nomatch z) (O.mus _ hq).1
    have hlv : lv.length = cnt := by rw [← hls, ← s12, List.length_map]
    have hT : IsTables w g6 dD tabs := ⟨nD, kvs, Heap.dictOf_iff.mpr ⟨oD', fz _ _ (.tail _ (.head _)), d1⟩, KvOk.mono st6' d2⟩
    have hVer : IsVer g6 y x (levs cnt tabs) := by
      refine ⟨es, F, ls, hI5.mono s56, by rw [levs_length]; exact hV, stays_list s56 hF5, All2.of_get (by rw [levs_length, hls]) fun j l fs hl hfs => ?_, IO.mono fun b o e => s56 b o (s35 b o (st3 b o e))⟩
      obtain ⟨_, rfl⟩ := levs_get hfs
      rw [← s12, List.getElem?_map] at hl
      obtain ⟨z, hz, rfl⟩ := Option.map_eq_some_iff.mp hl
      refine ⟨z.2.1, isList_of (n := z.2.2) (fz _ _ (.tail _ (.tail _ (List.mem_map.mpr ⟨z, List.mem_of_getElem? hz, rfl⟩)))), ?_⟩
      exact (s11 j z hz).imp fun _ _ q => IsMeta.mono st6' q
    have O := O6
    have hI6 := hI5.mono s56
    have ec := hV.other "check" (by decide) (by decide) (by decide) (by decide) (by decide) (by decide)
    repeat (walk_at "ms")
    refine check_spec (O.gk G) (hA.le (by decide)) (hVer.mono O.keep) (files_ok Ho I.T (by walk_at "o") (by walk_at "o")) fun h9 k9 st9 => ?_
    have O := O.grow st9
    refine hQ g6 _ _ _ y x dD rkk tabs sgg O ⟨⟨V, stays_list sgg hnl, hni, n0, n1, nn, stays_list sgg hH, he.imp fun _ _ q => IsEnt.mono sgg q, len, Ho, sb, c0, c1, s0, s1⟩, s7, s8, ⟨rv, r1, stays_list st6' r2, r3⟩, IsCell.mono s56 hc5, hT, hVer, I.T, hzt, fun e hm => I.all e hm ?_, I.rl⟩
    have := (sb e hm).2
    push_cast
    walk_at "o"
  · intro _ _; rfl
end mid
noncomputable def kB : List Stmt := gl (forB (lawB.getD 15 (.Pass default))) (by (conv => lhs; whnf))
noncomputable def kB5 : List Stmt := kB.drop 5
theorem Law2.step {w : World} {g g' : Heap} {m m' : Str → Option Value} {L an H y x dT rk : Addr} {a : Int} {cnt size : Nat} {nv hv : List Value} {ns : List Int} {hist : List En} {tabs : List TB} (B : Law2 w g m L an H y x dT rk a cnt size nv hv ns hist tabs) (k : g.StaysIn g')
    (e : ∀ z : Str, z = "nums" ∨ z = "a" ∨ z = "count" ∨ z = "shelves" ∨ z = "size" ∨ z = "history" ∨ z = "version" ∨ z = "order" ∨ z = "ranks" → m' z = m z) : Law2 w g' m' L an H y x dT rk a cnt size nv hv ns hist tabs := by
  obtain ⟨⟨V, hnl, hni, n0, n1, nn, hH, he, len, Ho, sb, c0, c1, s0, s1⟩, s7, s8, ⟨rv, r1, r2, r3⟩, hc, hT, hVer, T, z, all, rl⟩ := B
  exact ⟨⟨V.same fun z hz => e z (by rcases hz with h | h | h | h | h | h <;> simp [h]), stays_list k hnl, hni, n0, n1, nn, stays_list k hH, he.imp fun _ _ q => IsEnt.mono k q, len, Ho, sb, c0, c1, s0, s1⟩, by rw [e _ (by simp)]; exact s7, by rw [e _ (by simp)]; exact s8, ⟨rv, by rw [e _ (by simp)]; exact r1, stays_list k r2, r3⟩, IsCell.mono k hc, hT.mono k, hVer.mono k, T, z, all, rl⟩
section q1
variable {w : World} {A : Around} {s : Shared} {g h : Heap} {k : Nat} {mg mb : Str → Option Value} {E : Value → Shared → Prop} {L fa : Addr} {cd : Value} {m : Str → Option Value}
theorem q_head {Q : Flow → Shared → Prop} {an H y x dT rk : Addr} {a : Int} {cnt size kk : Nat} {nv hv : List Value} {ns : List Int} {hist : List En} {tabs : List TB} {tk : Tok}
    (G : GK w mg mb g) (hA : OkA A 2) (O : Own g L h m []) (B : Law2 w g m L an H y x dT rk a cnt size nv hv ns hist tabs) (fk : m "k" = some (.int ((0 : Int) + (kk : Int) * 1) tk)) (hk : kk < 4)
    (hQ : ∀ h' m' k' q u mn sp t1 t2 t3 t4, Own g L h' m' [] → Law2 w g m' L an H y x dT rk a cnt size nv hv ns hist tabs → m' "q" = some (.int q t1) → 0 ≤ q → m' "u" = some (.int u t2) → 0 ≤ u → u < 5 → m' "minus" = some (.int mn t3) → mn ≤ 0 → -2000 < mn → m' "spoiled" = some (.int sp t4) →
      wpAny (model PG w) A (execs kB5 (lawEnv L fa cd)) Q E (S3 s h' k')) :
    wpAny (model PG w) A (execs kB (lawEnv L fa cd)) Q E (S3 s h k) := by
  unfold kB
  have B0 := B
  obtain ⟨⟨⟨f1, ⟨ta, f2⟩, ⟨tc, f3⟩, ⟨tsh, f4⟩, ⟨tz, f5⟩, f6⟩, hnl, hni, n0, n1, nn, hH, he, len, Ho, sb, c0, c1, s0, s1⟩, s7, s8, ⟨rv, r1, r2, r3⟩, hc, hT, hVer, T, z, all, rl⟩ := B
  have hel := he.length
  have hrl := r3.length
  rw [List.length_reverse, List.length_map] at hrl
  have htp : 0 < tabs.length := by
    obtain ⟨t, ht, _⟩ := all _ (List.getElem_mem (l := hist) (n := 0) (by walk_at "o"))
    exact List.length_pos_of_mem ht
  repeat (walk_at "ms")
  rw [show (9 : Int) + ((0 : Int) + (kk : Int) * 1) = ((9 + kk : Nat) : Int) by push_cast; walk_at "o"]
  refine draw_spec (O.gk G) (hA.le (by decide)) (O.list hnl) hni n0 (by walk_at "o") fun h2 k2 t2 st2 => ?_
  have O := O.grow st2
  have hy := drawV_nonneg (i := ((9 + kk : Nat) : Int)) n0 nn (by walk_at "o")
  unfold drawV at hy
  generalize ns.getD (((9 + kk : Nat) : Int) % ns.length).toNat 0 + 31 * (((9 + kk : Nat) : Int) / ns.length) = q at hy ⊢
  repeat (walk_at "ms")
  rename_i O
  have hj0 : 0 ≤ q / 5 % (size : Int) := Int.emod_nonneg _ (by walk_at "o")
  have hj1 : q / 5 % (size : Int) < (size : Int) := Int.emod_lt_of_pos _ (by walk_at "o")
  have hj : (q / 5 % (size : Int)).toNat < hist.length := by walk_at "o"
  obtain ⟨ve, hve, ae, te1, te2, te3, te4, rfl, hte⟩ := he.get (List.getElem?_eq_getElem hj)
  have eok := Ho.ok _ (List.getElem_mem hj)
  generalize hist[(q / 5 % (size : Int)).toNat] = e at hve hte eok
  have em0 := eok.m0
  have em1 := eok.m1
  with_reducible refine r_item_list (x := .ref ae) (O.list hH) hj0 (by walk_at "o") (by rw [List.getElem?_toArray]; exact hve) ?_ (by with_unfolding_all rfl)
  repeat (walk_at "ms")
  with_reducible refine r_item_tup (O.tup hte) (by decide) (by simp) (by simp) rfl ?_ (by with_unfolding_all rfl)
  repeat (walk_at "ms")
  refine r_min hA.handled fun h3 t3 k3 st3 => ?_
  have O := O.grow st3
  have hm0 : min (0 : Int) (e.m + q / 50 % 3 - 1) ≤ 0 := by walk_at "o"
  have hm1 : -2000 < min (0 : Int) (e.m + q / 50 % 3 - 1) := by walk_at "o"
  generalize min (0 : Int) (e.m + q / 50 % 3 - 1) = mn at hm0 hm1 ⊢
  iterate 9 (walk_at "ms")
  rename_i O
  with_reducible refine r_seq (fun s₂ => ∃ h3 k3 m3 sp tn, s₂ = S3 s h3 k3 ∧ Own g L h3 m3 [] ∧ (∀ z : Str, z ≠ "spoiled" → m3 z = if z = Str.ofString "minus" then some (Value.int mn t3) else if z = Str.ofString "u" then some (Value.int (q % 5) (k2 + 1 + 1)) else if z = Str.ofString "q" then some (Value.int q t2) else m z) ∧ m3 "spoiled" = some (.int sp tn)) ?_ ?_
  · by_cases hk3 : kk = 3
    · subst hk3
      have hrz : rv.toArray.size = tabs.length := by simpa using hrl
      repeat (walk_at "ms")
      rw [hrz]
      have hi0 : 0 ≤ q / 150 % (tabs.length : Int) := Int.emod_nonneg _ (by walk_at "o")
      have hi1 : q / 150 % (tabs.length : Int) < (tabs.length : Int) := Int.emod_lt_of_pos _ (by walk_at "o")
      obtain ⟨tx, hx⟩ := r3.get (q / 150 % (tabs.length : Int)).toNat _ (List.getElem?_eq_getElem (by rw [List.length_reverse, List.length_map]; walk_at "o"))
      with_reducible refine r_item_list (O.list r2) hi0 (by walk_at "o") (by rw [List.getElem?_toArray]; exact hx) ?_ (by with_unfolding_all rfl)
      repeat (walk_at "ms")
      rename_i O
      exact ⟨rfl, _, _, _, _, _, rfl, O, fun z hz => by simp only [hz, if_false], rfl⟩
    · repeat (walk_at "ms")
      exact ⟨rfl, _, _, _, -1, _, rfl, O, fun z hz => if_neg hz, rfl⟩
  · rintro s₂ ⟨h4, k4, m4, sp, tn, rfl, O, em, es⟩
    have keep : ∀ z : Str, z ≠ "spoiled" → z ≠ "minus" → z ≠ "u" → z ≠ "q" → m4 z = m z := fun z a1 a2 a3 a4 => by rw [em z a1, if_neg a2, if_neg a3, if_neg a4]
    refine hQ h4 m4 k4 q (q % 5) mn sp t2 (k2 + 1 + 1) t3 tn O (B0.step (fun _ _ e => e) (by rintro z (rfl | rfl | rfl | rfl | rfl | rfl | rfl | rfl | rfl) <;> exact keep _ (by decide) (by decide) (by decide) (by decide))) ?_ hy ?_ (by walk_at "o") (by walk_at "o") ?_ hm0 hm1 es
    · rw [em _ (by decide)]; rfl
    · rw [em _ (by decide)]; rfl
    · rw [em _ (by decide)]; rfl
end q1
noncomputable def kB9 : List Stmt := kB.drop 9
noncomputable def eB : List Stmt := gl (forB (kB.getD 8 (.Pass default))) (by (conv => lhs; whnf))
/-- what the question's names tell -/
structure KQ (m : Str → Option Value) (q u mn sp : Int) : Prop where
  q : ∃ t, m "q" = some (.int q t)
  u : ∃ t, m "u" = some (.int u t)
  mn : ∃ t, m "minus" = some (.int mn t)
  sp : ∃ t, m "spoiled" = some (.int sp t)
theorem KQ.same {m m' : Str → Option Value} {q u mn sp : Int} (K : KQ m q u mn sp) (e : ∀ z : Str, z = "q" ∨ z = "u" ∨ z = "minus" ∨ z = "spoiled" → m' z = m z) : KQ m' q u mn sp := by
  obtain ⟨a, b, c, d⟩ := K
  exact ⟨by rw [e _ (by simp)]; exact a, by rw [e _ (by simp)]; exact b, by rw [e _ (by simp)]; exact c, by rw [e _ (by simp)]; exact d⟩
theorem cache_all {w : World} {g h : Heap} {L D : Addr} {m : Str → Option Value} {c : List (Int × Option CE)} (O : Own g L h m []) (C : IsCache w h D c) (hc : c ≠ []) : ∃ g', g.StaysIn g' ∧ Own g' L h m [] ∧ IsCache w g' D c := by
  obtain ⟨O2, st, k3⟩ := O.rebase
  obtain ⟨lo, kvs, ⟨o, es, ep, ho, r1, r2, r3, r4, r5⟩, hAll⟩ := C
  have hDL : D ≠ L := by
    rintro rfl
    obtain ⟨oL, es', ep', hL, hd, sk, _⟩ := O.ns
    rw [ho] at hL; cases hL
    rw [r2] at hd; cases hd
    have hl := hAll.length
    have hl2 := r4.length
    cases hkv : kvs with
    | nil => subst hkv; cases hAll; exact hc rfl
    | cons a b =>
      subst hkv
      generalize hes : es.toList = el at r4
      cases r4 with
      | cons x1 x2 x3 =>
        rename_i e0 es0
        have : e0 ∈ es := by rw [← Array.mem_toList_iff, hes]; exact .head _
        obtain ⟨n, t, en⟩ := sk _ this
        rw [en] at x1
        have x1 : Value.isInt a.1 (.str n t) = true := x1
        obtain ⟨t', e'⟩ := Value.isInt_shape x1
        cases e'
  refine ⟨_, st, O2, lo, kvs, ⟨o, es, ep, k3 D o hDL (fun z => nomatch z) ho, r1, r2, r3, r4, r5⟩, hAll.imp fun p q ⟨e, I⟩ => ⟨e, ?_⟩⟩
  obtain ⟨q1, q2⟩ := q
  cases q2 with
  | none => exact I
  | some e =>
    obtain ⟨a, t1, t2, b, d⟩ := I
    have hn := tup_neL O d
    obtain ⟨o, ho, r⟩ := d
    exact ⟨a, t1, t2, b, o, k3 a o hn (fun z => nomatch z) ho, r⟩
noncomputable def WantIs (g : Heap) (T : Addr) : Option En → Prop
  | none => ∃ t1 t2, IsTup g T #[.bool false, .int 0 t1, .bytes #[] t2]
  | some e => ∃ t1 t2, IsTup g T #[.bool true, .int (if e.k = 0 then 0 else 1) t1, .bytes (if e.k = 0 then #[] else valB e) t2]
theorem WantIs.mono {g g' : Heap} {T : Addr} {o : Option En} (k : g.StaysIn g') (W : WantIs g T o) : WantIs g' T o := by
  cases o with
  | none => obtain ⟨a, b, c⟩ := W; exact ⟨a, b, stays_tup k c⟩
  | some e => obtain ⟨a, b, c⟩ := W; exact ⟨a, b, stays_tup k c⟩
noncomputable def FoundIs (g : Heap) (v : Value) : Option En → Prop
  | none => v = .none
  | some e => IsEnt g v e
theorem FoundIs.mono {g g' : Heap} {v : Value} {o : Option En} (k : g.StaysIn g') (W : FoundIs g v o) : FoundIs g' v o := by
  cases o with
  | none => exact W
  | some e => exact IsEnt.mono k W
theorem found_step {hist : List En} {u m : Int} {i : Nat} {e : En} (h : hist[i]? = some e) : foundOf (hist.take (i + 1)) u m = if qual u m e = true then some e else foundOf (hist.take i) u m := by
  unfold foundOf
  rw [List.take_add_one, h, List.filter_append]
  cases q : qual u m e <;> simp [q]
section q2
variable {w : World} {A : Around} {s : Shared} {g h : Heap} {k : Nat} {mg mb : Str → Option Value} {E : Value → Shared → Prop} {L fa : Addr} {cd : Value} {m : Str → Option Value}
theorem e_turn {Q : Flow → Shared → Prop} {p : Addr × Obj} {u mn : Int} {e : En} {v fv : Value} {T : Addr} {fd : Option En} {tu tm : Tok}
    (G : GK w mg mb g) (hA : OkA A 2) (O : Own g L h m [p]) (fu : m "u" = some (.int u tu)) (fm : m "minus" = some (.int mn tm)) (fe : m "e" = some v) (I : IsEnt g v e) (ok : EnOk e) (u0 : 0 ≤ u) (u1 : u < 5) (ff : m "found" = some fv) (F : FoundIs g fv fd) (fw : m "want" = some (.ref T)) (W : WantIs g T fd)
    (hQ : ∀ g' h' m' k' fv' T', g.StaysIn g' → Own g' L h' m' [p] → (∀ z : Str, z ≠ "found" → z ≠ "want" → m' z = m z) → m' "found" = some fv' → FoundIs g' fv' (if qual u mn e = true then some e else fd) → m' "want" = some (.ref T') → WantIs g' T' (if qual u mn e = true then some e else fd) → Q .next (S3 s h' k')) :
    wpAny (model PG w) A (execs eB (lawEnv L fa cd)) Q E (S3 s h k) := by
  unfold eB
  obtain ⟨ae, te1, te2, te3, te4, rfl, hte⟩ := I
  have y1 := ok.u0; have y2 := ok.u1; have y3 := ok.m0; have y4 := ok.m1; have y5 := ok.k
  repeat (walk_at "ms")
  with_reducible refine r_item_tup (O.tup hte) (by decide) (by simp) (by simp) rfl ?_ (by with_unfolding_all rfl)
  repeat (walk_at "ms")
  by_cases hu : e.u = u
  · refine if_T (by simpa using hu) ?_
    repeat (walk_at "ms")
    with_reducible refine r_item_tup (O.tup hte) (by decide) (by simp) (by simp) rfl ?_ (by with_unfolding_all rfl)
    repeat (walk_at "ms")
    by_cases hm : mn ≤ e.m
    · have hq : qual u mn e = true := decide_eq_true ⟨hu, hm⟩
      refine if_T (by simpa using hm) ?_
      repeat (walk_at "ms")
      rename_i O
      with_reducible refine r_newTuple (by simp) fun T2 h7 fT sT eT => ?_
      obtain ⟨g2, st2, O, eT⟩ := O.newTup fT sT eT
      have hte2 := stays_tup st2 hte
      have G := G.keeps st2
      repeat (walk_at "ms")
      rename_i O
      with_reducible refine r_item_tup (O.tup hte2) (by decide) (by simp) (by simp) rfl ?_ (by with_unfolding_all rfl)
      repeat (walk_at "ms")
      by_cases hk : e.k = 1
      · refine if_T (by simpa using hk) ?_
        repeat (walk_at "ms")
        with_reducible refine r_item_tup (O.tup hte2) (by decide) (by simp) (by simp) rfl ?_ (by with_unfolding_all rfl)
        repeat (walk_at "ms")
        rename_i O
        with_reducible refine r_bytes_ints hA.handled O.headList (ns := [65 + u, (0 - e.m) % 251]) (.cons _ _ (.cons _ _ .nil)) ?_ (by simp) fun h15 t15 k15 st15 => ?_
        · simp only [List.forall_mem_cons, List.not_mem_nil, false_implies, implies_true, and_true]
          walk_at "o"
        have O := (O.grow st15).drop
        repeat (walk_at "ms")
        with_reducible refine r_newTuple (by simp) fun T3 h16 fT2 sT2 eT2 => ?_
        obtain ⟨g3, st3, O, eT2⟩ := O.newTup fT2 sT2 eT2
        repeat (walk_at "ms")
        rename_i O
        rw [hq] at hQ
        refine hQ g3 _ _ _ (.ref ae) T3 (fun b o e => st3 b o (st2 b o e)) O (fun z z1 z2 => by simp only [z1, z2, if_false]) rfl ⟨ae, te1, te2, te3, te4, rfl, stays_tup st3 hte2⟩ rfl ?_
        have q1 : (if e.k = 0 then (0 : Int) else 1) = 1 := if_neg (by walk_at "o")
        have q2 : (if e.k = 0 then #[] else valB e) = byteArr [65 + u, (0 - e.m) % 251] := by rw [if_neg (by walk_at "o")]; unfold valB; rw [hu]
        show ∃ t1 t2, IsTup g3 T3 #[.bool true, .int (if e.k = 0 then 0 else 1) t1, .bytes (if e.k = 0 then #[] else valB e) t2]
        rw [q1, q2]
        exact ⟨_, _, eT2⟩
      · refine if_F (by simpa using hk) ?_
        repeat (walk_at "ms")
        rw [hq] at hQ
        refine hQ g2 _ _ _ (.ref ae) T2 st2 O (fun z z1 z2 => by simp only [z1, z2, if_false]) rfl ⟨ae, te1, te2, te3, te4, rfl, hte2⟩ rfl ?_
        have q1 : (if e.k = 0 then (0 : Int) else 1) = 0 := if_pos (by walk_at "o")
        have q2 : (if e.k = 0 then #[] else valB e) = #[] := if_pos (by walk_at "o")
        show ∃ t1 t2, IsTup g2 T2 #[.bool true, .int (if e.k = 0 then 0 else 1) t1, .bytes (if e.k = 0 then #[] else valB e) t2]
        rw [q1, q2]
        exact ⟨_, _, eT⟩
    · have hq : qual u mn e = false := decide_eq_false fun z => hm z.2
      refine if_F (by simpa using hm) ?_
      repeat (walk_at "ms")
      rw [hq] at hQ
      exact hQ g _ _ _ fv T (fun _ _ e => e) O (fun _ _ _ => rfl) ff F fw W
  · have hq : qual u mn e = false := decide_eq_false fun z => hu z.1
    refine if_F (by simpa using hu) ?_
    repeat (walk_at "ms")
    rw [hq] at hQ
    exact hQ g _ _ _ fv T (fun _ _ e => e) O (fun _ _ _ => rfl) ff F fw W
end q2
theorem IsCache.mono {w : World} {h h' : Heap} {d : Addr} {c : List (Int × Option CE)} (k : h.StaysIn h') (C : IsCache w h d c) : IsCache w h' d c :=
  let ⟨a, kvs, b, r⟩ := C; ⟨a, kvs, dictK k b, r.imp fun _ _ q => ⟨q.1, q.2.mono k⟩⟩
section q3
variable {w : World} {A : Around} {s : Shared} {g h : Heap} {k : Nat} {mg mb : Str → Option Value} {E : Value → Shared → Prop} {L fa : Addr} {cd : Value} {m : Str → Option Value}
theorem TabsOk.nodup {cnt : Nat} {hist : List En} {tabs : List TB} (T : TabsOk cnt hist tabs) : (tabs.map TB.num).Nodup := List.pairwise_map.mpr (T.pw.imp fun h => h.2.1)
theorem q_found {Q : Flow → Shared → Prop} {an H y x dT rk : Addr} {a : Int} {cnt size : Nat} {nv hv : List Value} {ns : List Int} {hist : List En} {tabs : List TB} {q u mn sp : Int}
    (G : GK w mg mb g) (hA : OkA A 4) (O : Own g L h m []) (B : Law2 w g m L an H y x dT rk a cnt size nv hv ns hist tabs) (K : KQ m q u mn sp) (u0 : 0 ≤ u) (u1 : u < 5)
    (hQ : ∀ g' h' m' k' D T fv den, g.StaysIn g' → Own g' L h' m' [] → Law2 w g' m' L an H y x dT rk a cnt size nv hv ns hist tabs → KQ m' q u mn sp → m' "cache" = some (.ref D) → IsCache w g' D (cacheOf u mn sp den tabs) → m' "want" = some (.ref T) → WantIs g' T (foundOf hist u mn) → m' "found" = some fv → FoundIs g' fv (foundOf hist u mn) →
      wpAny (model PG w) A (execs kB9 (lawEnv L fa cd)) Q E (S3 s h' k')) :
    wpAny (model PG w) A (execs kB5 (lawEnv L fa cd)) Q E (S3 s h k) := by
  unfold kB5
  refine r_cons ?_
  have B0 := B
  have K0 := K
  obtain ⟨⟨⟨f1, ⟨ta, f2⟩, ⟨tc, f3⟩, ⟨tsh, f4⟩, ⟨tz, f5⟩, f6⟩, hnl, hni, n0, n1, nn, hH, he, len, Ho, sb, c0, c1, s0, s1⟩, s7, s8, ⟨rv, r1, r2, r3⟩, hc, hT, hVer, T, z, all, rl⟩ := B
  obtain ⟨⟨t1, k1⟩, ⟨t2, k2⟩, ⟨t3, k3⟩, ⟨t4, k4⟩⟩ := K
  have hel := he.length
  have htne : tabs ≠ [] := by
    obtain ⟨t, ht, _⟩ := all _ (List.getElem_mem (l := hist) (n := 0) (by walk_at "o"))
    exact List.ne_nil_of_mem ht
  repeat (walk_at "ms")
  generalize hden : (q / 3 % 2 == 1) = den
  refine cache_spec (O.gk G) (hA.le (by decide)) (hT.mono O.keep) T.nodup (fun t ht => ?_) (by walk_at "o") u0 u1 fun h2 kk2 D st2 C => ?_
  · have K := T.ok t ht
    exact ⟨fun e he => Ho.ok e (K.mem e he), by have := rl t ht; walk_at "o", Int.le_of_lt K.n0, K.n1⟩
  obtain ⟨g2, sg2, O2, C⟩ := cache_all (O.grow st2) C (by unfold cacheOf; simpa using htne)
  clear O
  have O := O2
  have G := G.keeps sg2
  repeat (walk_at "ms")
  rename_i O
  with_reducible refine r_newTuple (by simp) fun T0 h7 fT sT eT => ?_
  obtain ⟨g3, st3, O, eT⟩ := O.newTup fT sT eT
  have G := G.keeps st3
  have sg3 : g.StaysIn g3 := fun b o e => st3 b o (sg2 b o e)
  have hH3 := stays_list sg3 hH
  repeat (walk_at "ms")
  rename_i O
  with_reducible refine r_iter_list hA.handled O hH3 (fun i g' m' mu' => mu' = [] ∧ (∀ z : Str, z ≠ "e" → z ≠ "found" → z ≠ "want" → m' z = if z = Str.ofString "cache" then some (.ref D) else m z) ∧ ∃ fv' T', m' "found" = some fv' ∧ FoundIs g' fv' (foundOf (hist.take i) u mn) ∧ m' "want" = some (.ref T') ∧ WantIs g' T' (foundOf (hist.take i) u mn)) ?_ ?_ ?_ ?_
  · refine ⟨rfl, fun z z1 z2 z3 => by simp only [z2, z3, if_false], .none, T0, rfl, rfl, rfl, ⟨_, _, eT⟩⟩
  · rintro E2 i v g' h8 m8 mu8 it k8 hi hv hg ⟨rfl, em, fv', T', e1, e2, e3, e4⟩ O
    have hi2 : i < hist.length := by simp at hi; walk_at "o"
    have hst := found_step (u := u) (m := mn) (List.getElem?_eq_getElem hi2)
    obtain ⟨v', hv', I⟩ := he.get (List.getElem?_eq_getElem hi2)
    have evv : v = v' := by
      rw [List.getElem?_toArray, hv'] at hv
      exact (Option.some.inj hv).symm
    subst evv
    generalize hee : hist[i] = e at I hst
    have hem : e ∈ hist := by rw [← hee]; exact List.getElem_mem _
    have I := IsEnt.mono (fun b o e => hg b o (sg3 b o e)) I
    walk_at "ms"
    rename_i O
    refine e_turn (u := u) (mn := mn) (tu := t2) (tm := t3) (fv := fv') (T := T') (G.keeps hg) (hA.le (by decide)) O ?_ ?_ rfl I (Ho.ok e hem) u0 u1 e1 e2 e3 e4 fun g9 h9 m9 k9 fv9 T9 st9 O z1 z2 z3 z4 z5 => ?_
    · exact (em _ (by decide) (by decide) (by decide)).trans k2
    · exact (em _ (by decide) (by decide) (by decide)).trans k3
    refine ⟨g9, h9, m9, [], k9, rfl, st9, O, rfl, fun z a1 a2 a3 => ?_, fv9, T9, z2, by rw [hst]; exact z3, z4, by rw [hst]; exact z5⟩
    rw [z1 z a2 a3]
    exact (if_neg a1).trans (em z a1 a2 a3)
  · rintro g' h8 m8 mu8 k8 hg ⟨rfl, em, fv', T', e1, e2, e3, e4⟩ O
    have hsz : hv.toArray.size = hist.length := by simpa using hel
    rw [hsz, List.take_length] at e2 e4
    have sgg : g.StaysIn g' := fun b o e => hg b o (sg3 b o e)
    have kp : ∀ z : Str, z ≠ "e" → z ≠ "found" → z ≠ "want" → z ≠ "cache" → m8 z = m z := fun z a1 a2 a3 a4 => (em z a1 a2 a3).trans (if_neg a4)
    refine hQ g' h8 m8 _ D T' fv' den sgg O (B0.step sgg (by rintro z (rfl | rfl | rfl | rfl | rfl | rfl | rfl | rfl | rfl) <;> exact kp _ (by decide) (by decide) (by decide) (by decide))) (K0.same (by rintro z (rfl | rfl | rfl | rfl) <;> exact kp _ (by decide) (by decide) (by decide) (by decide))) (em _ (by decide) (by decide) (by decide)) (IsCache.mono (fun b o e => hg b o (st3 b o e)) C) e3 e4 e1 e2
  · intro _ _; rfl
end q3
noncomputable def numB : List Stmt := gl (forB (kB.getD 11 (.Pass default))) (by (conv => lhs; whnf))
noncomputable def kB12 : List Stmt := kB.drop 12
noncomputable def endOf (fd : Option En) (t : TB) : Bool := match fd with | some e => memB e t.rows | none => false
section q4
variable {w : World} {A : Around} {s : Shared} {g h : Heap} {k : Nat} {mg mb : Str → Option Value} {E : Value → Shared → Prop} {L fa : Addr} {cd : Value} {m : Str → Option Value}
theorem num_turn {Q : Flow → Shared → Prop} {p : Addr × Obj} {dT l D : Addr} {u mn sp : Int} {den : Bool} {t : TB} {kvs : List (Int × Value)} {c : List (Int × Option CE)} {fv : Value} {fd : Option En} {b d : Bool} {tn tu tm ts : Tok}
    (G : GK w mg mb g) (hA : OkA A 2) (O : Own g L h m [p]) (fn : m "number" = some (.int t.num tn)) (fu : m "u" = some (.int u tu)) (fm : m "minus" = some (.int mn tm)) (fs : m "spoiled" = some (.int sp ts)) (ff : m "found" = some fv) (F : FoundIs g fv fd)
    (fc : m "cache" = some (.ref D)) (C : IsCache w g D c) (ask : askC c t.num = some (ceOf u mn sp den t)) (fb : m "broken" = some (.bool b)) (fe : m "ended" = some (.bool d))
    (hc : g.IsCell (L + 1) (some (.ref dT))) (hD : g.DictOf (intKind PG w) dT kvs) (hva : valueAt kvs t.num = some (.ref l)) (hp : IsPart g l t.rows) (ne : t.rows ≠ []) (hz : t.rows.length ≤ 8) (hok : ∀ e ∈ t.rows, EnOk e)
    (hQ : ∀ h' m' k', Own g L h' m' [p] → (∀ z : Str, z ≠ "part" → z ≠ "last" → z ≠ "covers" → z ≠ "broken" → z ≠ "ended" → m' z = m z) → m' "broken" = some (.bool (brkStep u mn sp den fd (b, d) t).1) → m' "ended" = some (.bool (brkStep u mn sp den fd (b, d) t).2) → Q .next (S3 s h' k')) :
    wpAny (model PG w) A (execs numB (lawEnv L fa cd)) Q E (S3 s h k) := by
  unfold numB
  obtain ⟨vs, hl, hv⟩ := hp
  have hvl := hv.length
  obtain ⟨p0, pr, hrows⟩ : ∃ p0 pr, t.rows = p0 :: pr := List.exists_cons_of_ne_nil ne
  have hlo : t.lo = p0 := by unfold TB.lo; rw [hrows]; rfl
  obtain ⟨v0, hv0, a0, s1, s2, s3, s4, rfl, ht0⟩ := hv.get (i := 0) (by rw [hrows]; rfl)
  obtain ⟨v9, hv9, a9, q1, q2, q3, q4, rfl, ht9⟩ := hv.get (part_hi ne)
  have hhi : t.rows.getLastD e0 = t.hi := rfl
  rw [hhi] at ht9
  have hpos : 0 < t.rows.length := List.length_pos_iff.mpr ne
  have hvz : vs.toArray.size = t.rows.length := by simpa using hvl
  have hDh := dictK O.keep hD
  repeat (walk_at "ms")
  with_reducible refine r_dget hDh hva ?_ (by with_unfolding_all rfl)
  repeat (walk_at "ms")
  rename_i O
  have eidx : (((vs.toArray.size : Nat) : Int) - 1).toNat = t.rows.length - 1 := by walk_at "o"
  with_reducible refine r_item_list (x := .ref a9) (O.list hl) (by walk_at "o") (by walk_at "o") (by rw [eidx]; simpa using hv9) ?_ (by with_unfolding_all rfl)
  iterate 2 (walk_at "ms")
  rename_i O
  obtain ⟨M1, hM1⟩ : ∃ M1, M1 = (fun y => if y = Str.ofString "last" then some (Value.ref a9) else if y = Str.ofString "part" then some (Value.ref l) else m y) := ⟨_, rfl⟩
  have O := hM1 ▸ O
  have g1 : ∀ z : Str, z ≠ "last" → z ≠ "part" → M1 z = m z := fun z a1 a2 => by rw [hM1]; simp only [a1, a2, if_false]
  have e1 : M1 "last" = some (.ref a9) := by rw [hM1]; rfl
  have e2 : M1 "part" = some (.ref l) := by rw [hM1]; rfl
  have e3 : M1 "u" = some (.int u tu) := (g1 _ (by decide) (by decide)).trans fu
  have e4 : M1 "minus" = some (.int mn tm) := (g1 _ (by decide) (by decide)).trans fm
  have e5 : M1 "number" = some (.int t.num tn) := (g1 _ (by decide) (by decide)).trans fn
  clear hM1
  rw [← hlo] at ht0
  with_reducible refine r_seq (fun s₂ => ∃ h2 k2 m2, s₂ = S3 s h2 k2 ∧ Own g L h2 m2 [p] ∧ (∀ z : Str, z ≠ "covers" → m2 z = M1 z) ∧ m2 "covers" = some (.bool (decide (t.lo.u ≤ u ∧ u ≤ t.hi.u)))) ?_ ?_
  · repeat (walk_at "ms")
    with_reducible refine r_item_list (x := .ref a0) (O.list hl) (by decide) (by decide) (by simpa using hv0) ?_ (by with_unfolding_all rfl)
    repeat (walk_at "ms")
    with_reducible refine r_item_tup (O.tup ht0) (by decide) (by simp) (by simp) rfl ?_ (by with_unfolding_all rfl)
    repeat (walk_at "ms")
    by_cases hA1 : t.lo.u ≤ u
    · refine if_T (decide_eq_true hA1) ?_
      repeat (walk_at "ms")
      with_reducible refine r_item_tup (O.tup ht9) (by decide) (by simp) (by simp) rfl ?_ (by with_unfolding_all rfl)
      repeat (walk_at "ms")
      rename_i O
      exact ⟨rfl, _, _, _, rfl, O, fun z z1 => if_neg z1, congrArg (fun b => some (Value.bool b)) (decide_eq_decide.mpr ⟨fun z => ⟨hA1, z⟩, fun z => z.2⟩)⟩
    · refine if_F (decide_eq_false hA1) ?_
      repeat (walk_at "ms")
      rename_i O
      exact ⟨rfl, _, _, _, rfl, O, fun z z1 => if_neg z1, congrArg (fun b => some (Value.bool b)) (decide_eq_decide.mpr ⟨fun z => (hA1 z).elim, fun z => (hA1 z.1).elim⟩)⟩
  rintro s₂ ⟨h2, k2, m2, rfl, O, em, ec⟩
  have f1 := (em "last" (by decide)).trans e1
  have f2 := (em "part" (by decide)).trans e2
  have f3 := (em "u" (by decide)).trans e3
  have f4 := (em "minus" (by decide)).trans e4
  have f5 := (em "number" (by decide)).trans e5
  with_reducible refine r_seq (fun s₂ => ∃ h2 k2 m3, s₂ = S3 s h2 k2 ∧ Own g L h2 m3 [p] ∧ (∀ z : Str, z ≠ "covers" → m3 z = M1 z) ∧ m3 "covers" = some (.bool (covL u mn t))) ?_ ?_
  · by_cases h60 : t.num < 60
    · have hcv : covL u mn t = decide (t.lo.u ≤ u ∧ (u < t.hi.u ∨ (t.hi.u = u ∧ mn ≤ t.hi.m))) := by unfold covL; simp only [h60, if_true]
      repeat (walk_at "ms")
      with_reducible refine r_item_list (x := .ref a0) (O.list hl) (by decide) (by decide) (by simpa using hv0) ?_ (by with_unfolding_all rfl)
      repeat (walk_at "ms")
      with_reducible refine r_item_tup (O.tup ht0) (by decide) (by simp) (by simp) rfl ?_ (by with_unfolding_all rfl)
      repeat (walk_at "ms")
      by_cases hA1 : t.lo.u ≤ u
      · refine if_T (decide_eq_true hA1) ?_
        repeat (walk_at "ms")
        with_reducible refine r_item_tup (O.tup ht9) (by decide) (by simp) (by simp) rfl ?_ (by with_unfolding_all rfl)
        repeat (walk_at "ms")
        with_reducible refine r_item_tup (O.tup ht9) (by decide) (by simp) (by simp) rfl ?_ (by with_unfolding_all rfl)
        repeat (walk_at "ms")
        with_reducible refine r_newTuple (by simp) fun T1 h10 fT1 sT1 eT1 => ?_
        have O := O.grow sT1
        repeat (walk_at "ms")
        with_reducible refine r_newTuple (by simp) fun T2 h11 fT2 sT2 eT2 => ?_
        have O := O.grow sT2
        repeat (walk_at "ms")
        refine r_ge_pair hA.cRoom (stays_tup sT2 eT1) eT2 ?_
        repeat (walk_at "ms")
        rename_i O
        refine ⟨rfl, _, _, _, rfl, O, fun z z1 => (if_neg z1).trans (em z z1), ?_⟩
        rw [hcv]
        exact congrArg (fun b => some (Value.bool b)) (decide_eq_decide.mpr ⟨fun z => ⟨hA1, z⟩, fun z => z.2⟩)
      · refine if_F (decide_eq_false hA1) ?_
        repeat (walk_at "ms")
        rename_i O
        refine ⟨rfl, _, _, _, rfl, O, fun z z1 => (if_neg z1).trans (em z z1), ?_⟩
        rw [hcv]
        exact congrArg (fun b => some (Value.bool b)) (decide_eq_decide.mpr ⟨fun z => (hA1 z).elim, fun z => (hA1 z.1).elim⟩)
    · repeat (walk_at "ms")
      have hcv : covL u mn t = decide (t.lo.u ≤ u ∧ u ≤ t.hi.u) := by unfold covL; simp only [h60, if_false]
      exact ⟨rfl, _, _, _, rfl, O, em, by rw [hcv]; exact ec⟩
  clear em ec f1 f2 f3 f4 f5
  rintro s₂ ⟨h3, k3, m3, rfl, O, em, ec⟩
  have f1 := (em "last" (by decide)).trans e1
  have f2 := (em "part" (by decide)).trans e2
  have f3 := (em "u" (by decide)).trans e3
  have f4 := (em "minus" (by decide)).trans e4
  have f5 := (em "number" (by decide)).trans e5
  have keep : ∀ z : Str, z ≠ "part" → z ≠ "last" → z ≠ "covers" → m3 z = m z := fun z a1 a2 a3 => (em z a3).trans (g1 z a2 a1)
  have f6 := (keep "broken" (by decide) (by decide) (by decide)).trans fb
  have f7 := (keep "ended" (by decide) (by decide) (by decide)).trans fe
  have f8 := (keep "spoiled" (by decide) (by decide) (by decide)).trans fs
  have f9 := (keep "cache" (by decide) (by decide) (by decide)).trans fc
  have f10 := (keep "found" (by decide) (by decide) (by decide)).trans ff
  by_cases hcond : covL u mn t = true ∧ d = false
  · obtain ⟨hcc, rfl⟩ := hcond
    rw [hcc] at ec
    iterate 15 (walk_at "ms")
    have hbs : brkStep u mn sp den fd (b, false) t = ((b || (decide (t.num = sp) && (ceOf u mn sp den t).isSome)), endOf fd t) := if_pos ⟨hcc, rfl⟩
    rw [hbs] at hQ
    obtain ⟨loC, kvsC, hDC, hAllC⟩ := C
    obtain ⟨cv, hcv, hIC⟩ := valueAt_find hAllC ask
    with_reducible refine r_seq (fun s₂ => ∃ h2 k2 m4, s₂ = S3 s h2 k2 ∧ Own g L h2 m4 [p] ∧ (∀ z : Str, z ≠ "broken" → m4 z = m3 z) ∧ m4 "broken" = some (.bool (b || (decide (t.num = sp) && (ceOf u mn sp den t).isSome)))) ?_ ?_
    · by_cases hs : t.num = sp
      · repeat (walk_at "ms")
        have hDC2 := dictK O.keep hDC
        with_reducible refine r_dget hDC2 hcv ?_ (by with_unfolding_all rfl)
        cases hce : ceOf u mn sp den t with
        | none =>
          rw [hce] at hIC
          have hIC : cv = .none := hIC
          subst hIC
          repeat (walk_at "ms")
          with_reducible refine isnot_none_none ?_
          repeat (walk_at "ms")
          exact ⟨rfl, _, _, _, rfl, O, fun _ _ => rfl, by simpa using f6⟩
        | some ce =>
          rw [hce] at hIC
          obtain ⟨ac, c1, c2, rfl, _⟩ := hIC
          repeat (walk_at "ms")
          with_reducible refine isnot_none_ne (fun z => nomatch z) ?_
          repeat (walk_at "ms")
          rename_i O
          exact ⟨rfl, _, _, _, rfl, O, fun z z1 => if_neg z1, by simp [hs]⟩
      · repeat (walk_at "ms")
        exact ⟨rfl, _, _, _, rfl, O, fun _ _ => rfl, by simpa [hs] using f6⟩
    rintro s₂ ⟨h4, k4, m4, rfl, O, em4, eb4⟩
    have f2 := (em4 "part" (by decide)).trans f2
    have f10 := (em4 "found" (by decide)).trans f10
    have keep4 : ∀ z : Str, z ≠ "part" → z ≠ "last" → z ≠ "covers" → z ≠ "broken" → m4 z = m z := fun z a1 a2 a3 a4 => (em4 z a4).trans (keep z a1 a2 a3)
    cases fd with
    | none =>
      have F : fv = .none := F
      subst F
      repeat (walk_at "ms")
      with_reducible refine isnot_none_none ?_
      repeat (walk_at "ms")
      rename_i O
      exact hQ _ _ _ O (fun z a1 a2 a3 a4 a5 => (if_neg a5).trans (keep4 z a1 a2 a3 a4)) eb4 rfl
    | some e =>
      obtain ⟨ae, x1, x2, x3, x4, rfl, hte⟩ := F
      repeat (walk_at "ms")
      with_reducible refine isnot_none_ne (fun z => nomatch z) ?_
      repeat (walk_at "ms")
      refine r_in (hA.le (by decide)) (O.list hl) (hv.imp fun _ _ q => IsEnt.mono O.keep q) (O.tup hte) ?_
      repeat (walk_at "ms")
      rename_i O
      exact hQ _ _ _ O (fun z a1 a2 a3 a4 a5 => (if_neg a5).trans (keep4 z a1 a2 a3 a4)) eb4 rfl
  · have hbs : brkStep u mn sp den fd (b, d) t = (b, d) := if_neg hcond
    rw [hbs] at hQ
    have fin : ∀ k', Q .next (S3 s h3 k') := fun k' => hQ _ _ _ O (fun z a1 a2 a3 _ _ => keep z a1 a2 a3) f6 f7
    cases hcc : covL u mn t with
    | false =>
      rw [hcc] at ec
      repeat (walk_at "ms")
      exact fin _
    | true =>
      rw [hcc] at ec
      have hd : d = true := by cases d with
        | true => rfl
        | false => exact (hcond ⟨hcc, rfl⟩).elim
      subst hd
      repeat (walk_at "ms")
      exact fin _
end q4
section q5
variable {w : World} {A : Around} {s : Shared} {g h : Heap} {k : Nat} {mg mb : Str → Option Value} {E : Value → Shared → Prop} {L fa : Addr} {cd : Value} {m : Str → Option Value}
theorem q_broken {Q : Flow → Shared → Prop} {an H y x dT rk D T : Addr} {a : Int} {cnt size : Nat} {nv hv : List Value} {ns : List Int} {hist : List En} {tabs : List TB} {q u mn sp : Int} {den : Bool} {fv : Value}
    (G : GK w mg mb g) (hA : OkA A 2) (O : Own g L h m []) (B : Law2 w g m L an H y x dT rk a cnt size nv hv ns hist tabs) (K : KQ m q u mn sp)
    (fc : m "cache" = some (.ref D)) (C : IsCache w g D (cacheOf u mn sp den tabs)) (fw : m "want" = some (.ref T)) (ff : m "found" = some fv) (F : FoundIs g fv (foundOf hist u mn))
    (hQ : ∀ g' h' m' k', g.StaysIn g' → Own g' L h' m' [] → Law2 w g' m' L an H y x dT rk a cnt size nv hv ns hist tabs → KQ m' q u mn sp → m' "cache" = some (.ref D) → m' "want" = some (.ref T) → m' "broken" = some (.bool (tabs.reverse.foldl (brkStep u mn sp den (foundOf hist u mn)) (false, false)).1) →
      wpAny (model PG w) A (execs kB12 (lawEnv L fa cd)) Q E (S3 s h' k')) :
    wpAny (model PG w) A (execs kB9 (lawEnv L fa cd)) Q E (S3 s h k) := by
  unfold kB9
  refine r_cons ?_
  have B0 := B
  have K0 := K
  obtain ⟨⟨⟨f1, ⟨ta, f2⟩, ⟨tc, f3⟩, ⟨tsh, f4⟩, ⟨tz, f5⟩, f6⟩, hnl, hni, n0, n1, nn, hH, he, len, Ho, sb, c0, c1, s0, s1⟩, s7, s8, ⟨rv, r1, r2, r3⟩, hc, hT, hVer, TT, z, all, rl⟩ := B
  obtain ⟨⟨t1, k1⟩, ⟨t2, k2⟩, ⟨t3, k3⟩, ⟨t4, k4⟩⟩ := K
  have hrl := r3.length
  obtain ⟨lo, kvs, hD, hAll⟩ := hT
  have hkn := keys_nodup (R := fun x t => ∃ l, x = Value.ref l ∧ IsPart g l t.rows) hAll TT.nodup
  repeat (walk_at "ms")
  rename_i O
  with_reducible refine r_iter_list hA.handled O r2 (fun i g' m' mu' => mu' = [] ∧ (∀ z : Str, z ≠ "number" → z ≠ "part" → z ≠ "last" → z ≠ "covers" → z ≠ "broken" → z ≠ "ended" → m' z = m z) ∧ m' "broken" = some (.bool ((tabs.reverse.take i).foldl (brkStep u mn sp den (foundOf hist u mn)) (false, false)).1) ∧ m' "ended" = some (.bool ((tabs.reverse.take i).foldl (brkStep u mn sp den (foundOf hist u mn)) (false, false)).2)) ?_ ?_ ?_ ?_
  · exact ⟨rfl, fun z z1 z2 z3 z4 z5 z6 => by simp only [z5, z6, if_false], rfl, rfl⟩
  · rintro E2 i v g' h8 m8 mu8 it k8 hi hv hg ⟨rfl, em, e1, e2⟩ O
    have hi2 : i < tabs.reverse.length := by simp at hi hrl ⊢; walk_at "o"
    obtain ⟨t, ht⟩ : ∃ t, tabs.reverse[i]? = some t := ⟨_, List.getElem?_eq_getElem hi2⟩
    obtain ⟨tn, hrv⟩ := r3.get i t.num (by rw [← List.map_reverse, List.getElem?_map, ht]; rfl)
    have evv : v = .int t.num tn := by
      rw [List.getElem?_toArray, hrv] at hv
      exact (Option.some.inj hv).symm
    subst evv
    have htm : t ∈ tabs := List.mem_reverse.mp (List.mem_of_getElem? ht)
    obtain ⟨j, hj⟩ := List.getElem?_of_mem htm
    obtain ⟨pp, hpp, ep, l, el, hp⟩ := hAll.get hj
    have hva := valueAt_at hkn hpp
    rw [ep, el] at hva
    have TO := TT.ok t htm
    have htk : tabs.reverse.take (i + 1) = tabs.reverse.take i ++ [t] := by rw [List.take_add_one, ht]; rfl
    walk_at "ms"
    rename_i O
    refine num_turn (u := u) (mn := mn) (sp := sp) (den := den) (t := t) (tn := tn) (tu := t2) (tm := t3) (ts := t4) (b := ((tabs.reverse.take i).foldl (brkStep u mn sp den (foundOf hist u mn)) (false, false)).1) (d := ((tabs.reverse.take i).foldl (brkStep u mn sp den (foundOf hist u mn)) (false, false)).2) (fv := fv) (fd := foundOf hist u mn) (D := D) (G.keeps hg) hA O rfl ?_ ?_ ?_ ?_ (F.mono hg) ?_ (IsCache.mono hg C) (askC_of (tabs := tabs) TT.pw htm) e1 e2 (IsCell.mono hg hc) (dictK hg hD) hva (hp.mono hg) TO.ne (rl t htm) (fun e he => Ho.ok e (TO.mem e he)) fun h9 m9 k9 O z1 z2 z3 => ?_
    · exact (em _ (by decide) (by decide) (by decide) (by decide) (by decide) (by decide)).trans k2
    · exact (em _ (by decide) (by decide) (by decide) (by decide) (by decide) (by decide)).trans k3
    · exact (em _ (by decide) (by decide) (by decide) (by decide) (by decide) (by decide)).trans k4
    · exact (em _ (by decide) (by decide) (by decide) (by decide) (by decide) (by decide)).trans ff
    · exact (em _ (by decide) (by decide) (by decide) (by decide) (by decide) (by decide)).trans fc
    refine ⟨g', h9, m9, [], k9, rfl, fun _ _ e => e, O, rfl, fun z a1 a2 a3 a4 a5 a6 => ?_, ?_, ?_⟩
    · rw [z1 z a2 a3 a4 a5 a6]
      exact (if_neg a1).trans (em z a1 a2 a3 a4 a5 a6)
    · rw [htk, List.foldl_append]; exact z2
    · rw [htk, List.foldl_append]; exact z3
  · rintro g' h8 m8 mu8 k8 hg ⟨rfl, em, e1, e2⟩ O
    have hsz : rv.toArray.size = tabs.reverse.length := by simp at hrl ⊢; walk_at "o"
    rw [hsz, List.take_length] at e1
    have kp : ∀ z : Str, z ≠ "number" → z ≠ "part" → z ≠ "last" → z ≠ "covers" → z ≠ "broken" → z ≠ "ended" → m8 z = m z := em
    exact hQ g' h8 m8 _ hg O (B0.step hg (by rintro z (rfl | rfl | rfl | rfl | rfl | rfl | rfl | rfl | rfl) <;> exact kp _ (by decide) (by decide) (by decide) (by decide) (by decide) (by decide))) (K0.same (by rintro z (rfl | rfl | rfl | rfl) <;> exact kp _ (by decide) (by decide) (by decide) (by decide) (by decide) (by decide))) ((kp _ (by decide) (by decide) (by decide) (by decide) (by decide) (by decide)).trans fc) ((kp _ (by decide) (by decide) (by decide) (by decide) (by decide) (by decide)).trans fw) e1
  · intro _ _; rfl
end q5
noncomputable def kB17 : List Stmt := kB.drop 17
noncomputable def GotIs (g : Heap) (T : Addr) : GR → Prop
  | .no => ∃ t1 t2, IsTup g T #[.bool false, .int 0 t1, .bytes #[] t2]
  | .bad => False
  | .yes kd v => ∃ t1 t2, IsTup g T #[.bool true, .int kd t1, .bytes v t2]
theorem got_want {g : Heap} {T T' : Addr} {R : GR} {o : Option En} (e : R = wantR o) (H : GotIs g T R) (W : WantIs g T' o) : ∃ b y z t1 t2 u1 u2, IsTup g T #[.bool b, .int y t1, .bytes z t2] ∧ IsTup g T' #[.bool b, .int y u1, .bytes z u2] := by
  subst e
  cases o with
  | none =>
    obtain ⟨t1, t2, h⟩ := H
    obtain ⟨u1, u2, h'⟩ := W
    exact ⟨_, _, _, _, _, _, _, h, h'⟩
  | some e =>
    obtain ⟨u1, u2, h'⟩ := W
    by_cases hk : e.k = 0
    · have : wantR (some e) = .yes 0 #[] := if_pos hk
      rw [this] at H
      obtain ⟨t1, t2, h⟩ := H
      rw [if_pos hk, if_pos hk] at h'
      exact ⟨_, _, _, _, _, _, _, h, h'⟩
    · have : wantR (some e) = .yes 1 (valB e) := if_neg hk
      rw [this] at H
      obtain ⟨t1, t2, h⟩ := H
      rw [if_neg hk, if_neg hk] at h'
      exact ⟨_, _, _, _, _, _, _, h, h'⟩
theorem law_below {A : Around} {g h : Heap} {L fa : Addr} {cd : Value} {m : Str → Option Value} {mu : List (Addr × Obj)} (hst : A.frames = some [lawEnv L fa cd]) (O : Own g L h m mu) : Below A g [lawEnv L fa cd] h :=
  ⟨hst, O.keep, .cons (by show lawS.kind ≠ .module; decide) rfl O.ns O.off trivial⟩
theorem r_try0 {w : World} {A : Around} {E : Value → Shared → Prop} {s : Shared} {env : Env} {pos : Pos} {Q : Flow → Shared → Prop} {body : List Stmt} {h0 : ExceptHandler} {hs : List ExceptHandler} (bd : wpAny (model PG w) A (execs body env) Q (fun _ _ => False) s) :
    wpAny (model PG w) A (exec (.Try body (h0 :: hs) [] [] pos) env) Q E s := by
  refine wpAny_Try_except (wpAny_mono bd (fun f s₁ hf => ?_) fun v s' R => R.elim)
  cases f with
  | next => exact wpAny_execs_nil hf
  | cont => exact hf
  | brk => exact hf
  | ret v => exact hf
theorem users_at {u : Int} (u0 : 0 ≤ u) (u1 : u < 5) (t0 t1 t2 t3 t4 : Tok) : ∃ t, (#[Value.bytes #[] t0, .bytes #[97] t1, .bytes #[97, 0] t2, .bytes #[98] t3, .bytes #[255] t4] : Array Value)[u.toNat]? = some (.bytes (userB u) t) := by
  rcases seqIdx u0 u1 with rfl | rfl | rfl | rfl | rfl <;> exact ⟨_, rfl⟩
section q6
variable {w : World} {A : Around} {s : Shared} {g h : Heap} {k : Nat} {mg mb : Str → Option Value} {E : Value → Shared → Prop} {L fa : Addr} {cd : Value} {m : Str → Option Value}
theorem ask_mem {c : List (Int × Option CE)} {n : Int} {o : Option CE} (h : askC c n = some o) : (n, o) ∈ c := by
  unfold askC at h
  obtain ⟨p, hp, rfl⟩ := Option.map_eq_some_iff.mp h
  have h1 := List.find?_some hp
  have h2 := List.mem_of_find?_eq_some hp
  have : p.1 = n := of_decide_eq_true h1
  rw [← this]; exact h2
theorem ce_ok {cnt : Nat} {hist : List En} {tabs : List TB} {u m sp : Int} {den : Bool} (H : HistOk hist) (T : TabsOk cnt hist tabs) {n : Int} {e : CE} (h : askC (cacheOf u m sp den tabs) n = some (some e)) : CeOk e := by
  have hm := ask_mem h
  unfold cacheOf at hm
  obtain ⟨t, ht, e'⟩ := List.mem_map.mp hm
  have e2 : ceOf u m sp den t = some e := (Prod.mk.inj e').2
  obtain ⟨x, hx, rfl, _⟩ := ce_some (T.ok t ht) e2
  have ok := H.ok x ((T.ok t ht).mem x hx)
  have K := ok.key
  have kk := ok.k
  refine ⟨⟨K.u0, K.u1, K.m0, K.m1, ?_, ?_⟩, ?_⟩
  · show 0 ≤ (if t.num = sp then (7 : Int) else x.k); split <;> walk_at "o"
  · show (if t.num = sp then (7 : Int) else x.k) < 256; split <;> walk_at "o"
  · show (if t.num = sp then (7 : Int) else x.k) = 0 ∨ (if t.num = sp then (7 : Int) else x.k) = 1 ∨ (if t.num = sp then (7 : Int) else x.k) = 7
    split <;> walk_at "o"
theorem q_try {Q : Flow → Shared → Prop} {an H y x dT rk D T : Addr} {a : Int} {cnt size : Nat} {nv hv : List Value} {ns : List Int} {hist : List En} {tabs : List TB} {q u mn sp : Int} {den : Bool}
    (G : GK w mg mb g) (hA : OkA A 8) (hst : A.frames = some [lawEnv L fa cd]) (O : Own g L h m []) (B : Law2 w g m L an H y x dT rk a cnt size nv hv ns hist tabs) (K : KQ m q u mn sp) (u0 : 0 ≤ u) (u1 : u < 5) (m0 : mn ≤ 0) (m1 : -2000 < mn)
    (fc : m "cache" = some (.ref D)) (C : IsCache w g D (cacheOf u mn sp den tabs)) (fw : m "want" = some (.ref T)) (W : WantIs g T (foundOf hist u mn)) (fb : m "broken" = some (.bool (tabs.reverse.foldl (brkStep u mn sp den (foundOf hist u mn)) (false, false)).1))
    (hQ : ∀ g' h' m' k', g.StaysIn g' → Own g' L h' m' [] → Law2 w g' m' L an H y x dT rk a cnt size nv hv ns hist tabs → KQ m' q u mn sp →
      wpAny (model PG w) A (execs kB17 (lawEnv L fa cd)) Q E (S3 s h' k')) :
    wpAny (model PG w) A (execs kB12 (lawEnv L fa cd)) Q E (S3 s h k) := by
  unfold kB12
  refine r_cons ?_
  have B0 := B
  have K0 := K
  obtain ⟨⟨⟨f1, ⟨ta, f2⟩, ⟨tc, f3⟩, ⟨tsh, f4⟩, ⟨tz, f5⟩, f6⟩, hnl, hni, n0, n1, nn, hH, he, len, Ho, sb, c0, c1, s0, s1⟩, s7, s8, ⟨rv, r1, r2, r3⟩, hc, hT, hVer, TT, z, all, rl⟩ := B
  obtain ⟨⟨t1, k1⟩, ⟨t2, k2⟩, ⟨t3, k3⟩, ⟨t4, k4⟩⟩ := K
  have hC1 : 0 < cnt := by walk_at "o"
  have FO := files_ok Ho TT (by walk_at "o") (by walk_at "o")
  have hcand := cands_eq (u := u) (m := mn) hC1 Ho TT
  have GP := get_plain (u := u) (m := mn) (sp := sp) (denies := den) (fun _ _ => trivial) Ho TT tabs.reverse (fun t ht => List.mem_reverse.mp ht) (List.pairwise_reverse.mpr TT.pw) (fun e hf => by
    obtain ⟨t, ht, h⟩ := all e (found_some Ho hf).1
    exact ⟨t, List.mem_reverse.mpr ht, h⟩)
  rw [← hcand] at GP
  generalize hR : getR (cacheOf u mn sp den tabs) u (cands (levs cnt tabs) u mn 1) = R at GP
  generalize hb : (tabs.reverse.foldl (brkStep u mn sp den (foundOf hist u mn)) (false, false)).1 = b at GP fb
  have Ky : KeyOk u mn 1 := ⟨u0, u1, m0, by walk_at "o", by decide, by decide⟩
  obtain ⟨es, F, ls, hI, hV, _⟩ := id hVer
  have eg := hV.other "get" (by decide) (by decide) (by decide) (by decide) (by decide) (by decide)
  iterate 9 (walk_at "ms")
  rename_i O
  obtain ⟨M1, hM1⟩ : ∃ M1, M1 = (fun y => if y = Str.ofString "got" then some Value.none else if y = Str.ofString "raised" then some (Value.bool false) else m y) := ⟨_, rfl⟩
  have O := hM1 ▸ O
  have g1 : ∀ z : Str, z ≠ "got" → z ≠ "raised" → M1 z = m z := fun z a1 a2 => by rw [hM1]; simp only [a1, a2, if_false]
  have e1 : M1 "got" = some .none := by rw [hM1]; rfl
  have e2 : M1 "raised" = some (.bool false) := by rw [hM1]; rfl
  clear hM1
  have e3 := (g1 "version" (by decide) (by decide)).trans s7
  have e4 := (g1 "cache" (by decide) (by decide)).trans fc
  have e5 := (g1 "u" (by decide) (by decide)).trans k2
  have e6 := (g1 "minus" (by decide) (by decide)).trans k3
  with_reducible refine r_seq (fun s₂ => ∃ g2 h2 k2 m2, s₂ = S3 s h2 k2 ∧ g.StaysIn g2 ∧ Own g2 L h2 m2 [] ∧ (∀ z : Str, z ≠ "got" → z ≠ "raised" → m2 z = m z) ∧ ((m2 "raised" = some (.bool true) ∧ R = .bad) ∨ (m2 "raised" = some (.bool false) ∧ R ≠ .bad ∧ ∃ Tg, m2 "got" = some (.ref Tg) ∧ GotIs g2 Tg R))) ?_ ?_
  · by_cases hbad : R = .bad
    · refine r_try (base := g) (outer := []) (C := 56) (bmB := [.type "Exception", .type "BaseException", .type "object"]) (newId := "Exception.__new__") G O (fun _ _ e => e) hst rfl (by k_is) (by k_exc) rfl rfl rfl rfl (by decide) ?_ fun v h8 k8 O8 sm st => ?_
      · repeat (walk_at "ms")
        refine users_spec (O.gk G) (hA.le (by decide)) fun h3 a3 k3' t0 t1' t2' t3' t4' st3 hl3 => ?_
        have O := O.grow st3
        obtain ⟨tx, hx⟩ := users_at u0 u1 t0 t1' t2' t3' t4'
        repeat (walk_at "ms")
        with_reducible refine r_item_list hl3 u0 (by walk_at "o") hx ?_ (by with_unfolding_all rfl)
        repeat (walk_at "ms")
        refine get_spec (base := g) (outer := [lawEnv L fa cd]) (O.gk G) hA (law_below hst O) (hVer.mono O.keep) (IsCache.mono O.keep C) Ky (by rw [levs_length]; exact hC1) FO.l100 (fun fs hfs => by have := FO.len hfs; walk_at "o") FO.ok (fun i fs hi hfs => cut_ok Ho TT hi hfs u mn) (fun qq hqq => ?_) (fun n e hn => ce_ok Ho TT hn) ?_ ?_ ?_
        · rw [hcand] at hqq
          obtain ⟨t, ht, rfl⟩ := List.mem_map.mp hqq
          have hm := List.mem_reverse.mp (List.mem_filter.mp ht).1
          show (askC _ t.num).isSome = true
          rw [askC_of (tabs := tabs) TT.pw hm]; rfl
        · exact fun _ v s' Rz' => Rz'.weak st3
        · rw [hR]; intro z; rw [z] at hbad; cases hbad
        · rw [hR]; intro kd v z; rw [z] at hbad; cases hbad
      · repeat (walk_at "ms")
        rename_i O
        refine ⟨rfl, g, _, _, _, rfl, fun _ _ e => e, O, fun z a1 a2 => (if_neg a2).trans (g1 z a1 a2), .inl ⟨rfl, hbad⟩⟩
    · refine r_try0 ?_
      repeat (walk_at "ms")
      refine users_spec (O.gk G) (hA.le (by decide)) fun h3 a3 k3' t0 t1' t2' t3' t4' st3 hl3 => ?_
      have O := O.grow st3
      obtain ⟨tx, hx⟩ := users_at u0 u1 t0 t1' t2' t3' t4'
      repeat (walk_at "ms")
      with_reducible refine r_item_list hl3 u0 (by walk_at "o") hx ?_ (by with_unfolding_all rfl)
      repeat (walk_at "ms")
      refine get_spec (base := g) (outer := [lawEnv L fa cd]) (O.gk G) hA (law_below hst O) (hVer.mono O.keep) (IsCache.mono O.keep C) Ky (by rw [levs_length]; exact hC1) FO.l100 (fun fs hfs => by have := FO.len hfs; walk_at "o") FO.ok (fun i fs hi hfs => cut_ok Ho TT hi hfs u mn) (fun qq hqq => ?_) (fun n e hn => ce_ok Ho TT hn) ?_ ?_ ?_
      · rw [hcand] at hqq
        obtain ⟨t, ht, rfl⟩ := List.mem_map.mp hqq
        have hm := List.mem_reverse.mp (List.mem_filter.mp ht).1
        show (askC _ t.num).isSome = true
        rw [askC_of (tabs := tabs) TT.pw hm]; rfl
      · rw [hR]; intro z; exact (hbad z).elim
      · rw [hR]
        intro hno h4 k4' a4 x1 x2 st4 hta
        obtain ⟨g4, sg4, O4, _, _, tk⟩ := (O.grow st4).all
        have hta := tk _ _ hta
        clear O
        have O := O4
        repeat (walk_at "ms")
        rename_i O
        refine ⟨rfl, g4, _, _, _, rfl, sg4, O, fun z a1 a2 => (if_neg a1).trans (g1 z a1 a2), .inr ⟨e2, hbad, a4, rfl, ?_⟩⟩
        rw [hno]; exact ⟨x1, x2, hta⟩
      · rw [hR]
        intro kd v hyes h4 k4' a4 x1 x2 st4 hta
        obtain ⟨g4, sg4, O4, _, _, tk⟩ := (O.grow st4).all
        have hta := tk _ _ hta
        clear O
        have O := O4
        repeat (walk_at "ms")
        rename_i O
        refine ⟨rfl, g4, _, _, _, rfl, sg4, O, fun z a1 a2 => (if_neg a1).trans (g1 z a1 a2), .inr ⟨e2, hbad, a4, rfl, ?_⟩⟩
        rw [hyes]; exact ⟨x1, x2, hta⟩
  rintro s₂ ⟨g2, h2, k2', m2, rfl, st2, O, em, hcase⟩
  have G := G.keeps st2
  have fb2 := (em "broken" (by decide) (by decide)).trans fb
  have fw2 := (em "want" (by decide) (by decide)).trans fw
  have W := W.mono st2
  have fin : ∀ h' k', Own g2 L h' m2 [] → wpAny (model PG w) A (execs kB17 (lawEnv L fa cd)) Q E (S3 s h' k') := fun h' k' O => hQ g2 h' m2 k' st2 O (B0.step st2 (by rintro z (rfl | rfl | rfl | rfl | rfl | rfl | rfl | rfl | rfl) <;> exact em _ (by decide) (by decide))) (K0.same (by rintro z (rfl | rfl | rfl | rfl) <;> exact em _ (by decide) (by decide)))
  rcases hcase with ⟨er, hbad⟩ | ⟨er, hbad, Tg, eg2, HG⟩
  · have hbt : b = true := GP.1.mpr hbad
    subst hbt
    iterate 20 (walk_at "ms")
    exact fin _ _ O
  · have hbf : b = false := by
      cases b with
      | false => rfl
      | true => exact (hbad (GP.1.mp rfl)).elim
    subst hbf
    obtain ⟨bb, yy, zz, x1, x2, x3, x4, hg1, hw1⟩ := got_want (GP.2 hbad) HG W
    repeat (walk_at "ms")
    refine r_ne_same3 (hA.le (by decide)) (O.tup hg1) (O.tup hw1) ?_
    repeat (walk_at "ms")
    with_reducible refine r_item_tup (O.tup hg1) (by decide) (by simp) (by simp) rfl ?_ (by with_unfolding_all rfl)
    repeat (walk_at "ms")
    with_reducible refine r_isbool ?_
    iterate 6 (walk_at "ms")
    exact fin _ _ O
end q6
theorem meta_num {g : Heap} {v : Value} {f f' : FM} (a : IsMeta g v f) (b : IsMeta g v f') : f.num = f'.num := by
  obtain ⟨x, es, rfl, ⟨dx, n, h1, h2⟩, ⟨t, e⟩, _⟩ := a
  obtain ⟨x', es', hx, ⟨dx', n', h1', h2'⟩, ⟨t', e'⟩, _⟩ := b
  cases hx
  rw [h1] at h1'
  have h1 := Option.some.inj h1'
  have hd : dx = dx' := by unfold instObj at h1; simpa using h1
  subst hd
  rw [h2] at h2'
  have h2 := Option.some.inj h2'
  have hes : es = es' := by
    have : Data.dict _ _ = Data.dict _ _ := congrArg Obj.data h2
    simp at this
    exact this.1
  subst hes
  rw [e] at e'
  have := Option.some.inj (Option.some.inj e')
  injection this
theorem tab_uniq {cnt : Nat} {hist : List En} {tabs : List TB} (T : TabsOk cnt hist tabs) {t t' : TB} (h : t ∈ tabs) (h' : t' ∈ tabs) (e : t.num = t'.num) : t = t' := by
  obtain ⟨i, hi, rfl⟩ := List.getElem_of_mem h
  obtain ⟨j, hj, rfl⟩ := List.getElem_of_mem h'
  have pw := List.pairwise_iff_getElem.mp T.pw
  rcases Nat.lt_trichotomy i j with c | c | c
  · exact ((pw i j hi hj c).2.1 e).elim
  · subst c; rfl
  · exact ((pw j i hj hi c).2.1 e.symm).elim
theorem ends_all {g : Heap} {tabs : List TB} {F : Value → Value → Prop} (hF : ∀ v y, F v y → ∀ t ∈ tabs, IsMeta g v t.fm → IsEnt g y t.hi) : ∀ {vs : List Value} {ts : List TB}, All2 (IsMeta g) vs (ts.map TB.fm) → (∀ t ∈ ts, t ∈ tabs) → ∀ {ys : List Value}, Paired F vs ys → All2 (IsEnt g) ys (ts.map TB.hi) := by
  intro vs ts H
  generalize hfs : ts.map TB.fm = fs at H
  induction H generalizing ts with
  | nil =>
    intro hm ys P
    cases P
    have : ts = [] := List.map_eq_nil_iff.mp hfs
    subst this
    exact .nil
  | cons a _ ih =>
    intro hm ys P
    cases ts with
    | nil => cases hfs
    | cons t ts =>
      rw [List.map_cons] at hfs
      injection hfs with h1 h2
      subst h1
      cases P with
      | cons p q => exact .cons (hF _ _ p t (hm t (.head _)) a) (ih h2 (fun t ht => hm t (.tail _ ht)) q)
section q7
variable {w : World} {A : Around} {s : Shared} {g h : Heap} {k : Nat} {mg mb : Str → Option Value} {E : Value → Shared → Prop} {L fa : Addr} {cd : Value} {m : Str → Option Value}
theorem q_tail {Q : Flow → Shared → Prop} {an H y x dT rk : Addr} {a : Int} {cnt size : Nat} {nv hv : List Value} {ns : List Int} {hist : List En} {tabs : List TB} {q u mn sp : Int}
    (G : GK w mg mb g) (hA : OkA A 8) (hst : A.frames = some [lawEnv L fa cd]) (O : Own g L h m []) (B : Law2 w g m L an H y x dT rk a cnt size nv hv ns hist tabs) (K : KQ m q u mn sp) (q0 : 0 ≤ q) (u0 : 0 ≤ u) (u1 : u < 5) (m0 : mn ≤ 0) (m1 : -2000 < mn)
    (hQ : ∀ g' h' m' k', g.StaysIn g' → Own g' L h' m' [] → Law2 w g' m' L an H y x dT rk a cnt size nv hv ns hist tabs → Q .next (S3 s h' k')) :
    wpAny (model PG w) A (execs kB17 (lawEnv L fa cd)) Q E (S3 s h k) := by
  unfold kB17
  refine r_cons ?_
  have B0 := B
  obtain ⟨⟨⟨f1, ⟨ta, f2⟩, ⟨tc, f3⟩, ⟨tsh, f4⟩, ⟨tz, f5⟩, f6⟩, hnl, hni, n0, n1, nn, hH, he, len, Ho, sb, c0, c1, s0, s1⟩, s7, s8, ⟨rv, r1, r2, r3⟩, hc, hT, hVer, TT, z, all, rl⟩ := B
  obtain ⟨⟨t1, k1⟩, ⟨t2, k2⟩, ⟨t3, k3⟩, ⟨t4, k4⟩⟩ := K
  have Ky : KeyOk u mn 1 := ⟨u0, u1, m0, by walk_at "o", by decide, by decide⟩
  obtain ⟨es, F, ls, hI, hV, hF, hIF, IO⟩ := id hVer
  have efl := hV.files
  have hq0 : 0 ≤ q % ((cnt : Int) - 1) := Int.emod_nonneg _ (by walk_at "o")
  have hq1 : q % ((cnt : Int) - 1) < (cnt : Int) - 1 := Int.emod_lt_of_pos _ (by walk_at "o")
  obtain ⟨lev, hlev⟩ : ∃ lev : Nat, 1 + q % ((cnt : Int) - 1) = (lev : Int) := ⟨(1 + q % ((cnt : Int) - 1)).toNat, by walk_at "o"⟩
  have hl0 : 0 < lev := by walk_at "o"
  have hl1 : lev < cnt := by walk_at "o"
  obtain ⟨fs, hfs⟩ : ∃ fs, (levs cnt tabs)[lev]? = some fs := ⟨_, List.getElem?_eq_getElem (by rw [levs_length]; exact hl1)⟩
  obtain ⟨lf, hlf, hFi⟩ := hIF.get hfs
  have hlx : (ls.map Value.ref)[lev]? = some (.ref lf) := by rw [List.getElem?_map, hlf]; rfl
  repeat (walk_at "ms")
  rename_i O
  rw [hlev]
  with_reducible refine r_item_list (x := .ref lf) (O.list hF) (by walk_at "o") (by walk_at "o") (by rw [Int.toNat_natCast, List.getElem?_toArray]; exact hlx) ?_ (by with_unfolding_all rfl)
  iterate 2 (walk_at "ms")
  rename_i O
  obtain ⟨_, hfse⟩ := levs_get hfs
  obtain ⟨lo, kvs, hD, hAll⟩ := id hT
  have hkn := keys_nodup (R := fun x t => ∃ l, x = Value.ref l ∧ IsPart g l t.rows) hAll TT.nodup
  obtain ⟨mvs, hml, hmv⟩ := id hFi
  have hmlen := hmv.length
  have hsub : ∀ t ∈ tabs.filter (fun t => decide (t.lev = lev)), t ∈ tabs := fun t ht => (List.mem_filter.mp ht).1
  have hfl := List.length_filter_le (fun t : TB => decide (t.lev = lev)) tabs
  have hfsl : fs.length ≤ tabs.length := by rw [hfse, List.length_map]; exact hfl
  refine r_cons ?_
  refine r_lcompA (L := L) (fun _ => true) (fun v y => ∀ t ∈ tabs, IsMeta g v t.fm → IsEnt g y t.hi) hA.handled (by rfl) (by rfl) (by decide) rfl (by decide) rfl (fun _ => rfl) rfl rfl rfl ?_
  repeat (walk_at "ms")
  have hc1 := IsCell.mono O.keep hc
  have Gh := O.gk G
  refine ⟨lf, mvs.toArray, g, _, _, _, _, rfl, rfl, O, O.list hml, by simp; walk_at "o", ?_, ?_, ?_⟩
  · rintro s' v C h9 k9 m9 E' hv9 O9 e9
    exact no_tests
  · rintro s' v C h9 k9 m9 E' hv9 hp9 O9 e9
    obtain ⟨j, hj⟩ := List.getElem?_of_mem (show v ∈ mvs by simpa using hv9)
    obtain ⟨f, hf, hM⟩ := hmv.get' hj
    have hfm := List.mem_of_getElem? hf
    rw [hfse] at hfm
    obtain ⟨t, ht, rfl⟩ := List.mem_map.mp hfm
    have htm := hsub t ht
    have hM0 := hM
    obtain ⟨xm, em, rfl, Im, ⟨tn, enum⟩, _, _⟩ := hM
    have Im := Im.mono O.keep
    obtain ⟨jj, hjj⟩ := List.getElem?_of_mem htm
    obtain ⟨pp, hpp, ep, l, el, vs, hl, hv⟩ := hAll.get hjj
    have hva := valueAt_at hkn hpp
    rw [ep, el] at hva
    have TO := TT.ok t htm
    have hvl := hv.length
    have hrl := rl t htm
    obtain ⟨v9, hv9', hI9⟩ := hv.get (part_hi TO.ne)
    have hpos : 0 < t.rows.length := List.length_pos_iff.mpr TO.ne
    have hvz : vs.toArray.size = t.rows.length := by simpa using hvl
    have hD9 : h9.DictOf (intKind PG w) dT kvs := dictK O9.keep (dictK O.keep hD)
    have hl9 := O9.list (O.list hl)
    have hva : valueAt kvs t.fm.num = some (.ref l) := hva
    repeat (walk_at "ms")
    with_reducible refine r_dget hD9 hva ?_ (by with_unfolding_all rfl)
    repeat (walk_at "ms")
    with_reducible refine r_dget hD9 hva ?_ (by with_unfolding_all rfl)
    repeat (walk_at "ms")
    have eidx : (((vs.toArray.size : Nat) : Int) - 1).toNat = t.rows.length - 1 := by walk_at "o"
    with_reducible refine r_item_list (x := v9) hl9 (by walk_at "o") (by walk_at "o") (by rw [eidx]; simpa using hv9') ?_ (by with_unfolding_all rfl)
    repeat (walk_at "ms")
    refine ⟨fun t' ht' hM' => ?_, _, _, rfl, fun _ _ e => e⟩
    have : t = t' := tab_uniq TT htm ht' (meta_num hM0 hM')
    subst this
    exact hI9
  · intro D2 ys n2 h9 k9 fD2 kb O hF2
    have hF3 : Paired (fun v y => ∀ t ∈ tabs, IsMeta g v t.fm → IsEnt g y t.hi) mvs ys.toList := by
      have e : (mvs.toArray.toList.filter fun _ => true) = mvs := List.filter_eq_self.mpr fun _ _ => rfl
      rw [e] at hF2
      exact hF2
    rw [hfse] at hmv
    have hE := ends_all (fun _ _ h => h) hmv hsub hF3
    obtain ⟨g2, st2, O2, k3'⟩ := O.drop.freeze
    have hl2 := isList_of (k3' D2 _ (O.mus _ (.head _)).2.1 (List.nodup_cons.mp O.nd).1 O.head)
    clear O
    have O := O2
    have G := G.keeps st2
    have hP : IsPart g2 D2 ((tabs.filter fun t => decide (t.lev = lev)).map TB.hi) := ⟨ys.toList, by simpa using hl2, hE.imp fun _ _ q => IsEnt.mono st2 q⟩
    have FO := files_ok Ho TT (by walk_at "o") (by walk_at "o")
    have hfm : fs ∈ levs cnt tabs := List.mem_of_getElem? hfs
    repeat (walk_at "ms")
    refine walk_spec (base := g2) (outer := [lawEnv L fa cd]) G hA (law_below hst O) (hFi.mono st2) (IO.mono st2) hP Ky (FO.ok fs hfm) (by walk_at "o") (by rw [List.length_map]; walk_at "o") (cut_ok Ho TT hl0 hfs u mn) (by rw [hfse]; exact ends_cut Ho TT hl0 u mn) fun h10 k10 st10 U => ?_
    have O := O.slots st10 U
    repeat (walk_at "ms")
    refine hQ g2 _ _ _ st2 O (B0.step st2 (by rintro z (rfl | rfl | rfl | rfl | rfl | rfl | rfl | rfl | rfl) <;> rfl))
end q7
theorem Law2.names {w : World} {g g2 : Heap} {m m2 : Str → Option Value} {L an H y x dT rk : Addr} {a : Int} {cnt size : Nat} {nv hv : List Value} {ns : List Int} {hist : List En} {tabs : List TB} (B : Law2 w g m L an H y x dT rk a cnt size nv hv ns hist tabs) (B2 : Law2 w g2 m2 L an H y x dT rk a cnt size nv hv ns hist tabs) :
    Law2 w g m2 L an H y x dT rk a cnt size nv hv ns hist tabs := by
  obtain ⟨⟨_, hnl, hni, n0, n1, nn, hH, he, len, Ho, sb, c0, c1, s0, s1⟩, _, _, ⟨rv, _, r2, r3⟩, hc, hT, hVer, T, z, all, rl⟩ := B
  obtain ⟨⟨V, _⟩, s7, s8, ⟨_, r1, _⟩, _⟩ := B2
  exact ⟨⟨V, hnl, hni, n0, n1, nn, hH, he, len, Ho, sb, c0, c1, s0, s1⟩, s7, s8, ⟨rv, r1, r2, r3⟩, hc, hT, hVer, T, z, all, rl⟩
section fin
variable {w : World} {A : Around} {s : Shared} {g h : Heap} {k : Nat} {mg mb : Str → Option Value} {E : Value → Shared → Prop} {L fa : Addr} {cd : Value} {m : Str → Option Value}
theorem k_turn {Q : Flow → Shared → Prop} {an H y x dT rk : Addr} {a : Int} {cnt size kk : Nat} {nv hv : List Value} {ns : List Int} {hist : List En} {tabs : List TB} {tk : Tok}
    (G : GK w mg mb g) (hA : OkA A 8) (hst : A.frames = some [lawEnv L fa cd]) (O : Own g L h m []) (B : Law2 w g m L an H y x dT rk a cnt size nv hv ns hist tabs) (fk : m "k" = some (.int ((0 : Int) + (kk : Int) * 1) tk)) (hk : kk < 4)
    (hQ : ∀ g' h' m' k', g.StaysIn g' → Own g' L h' m' [] → Law2 w g' m' L an H y x dT rk a cnt size nv hv ns hist tabs → Q .next (S3 s h' k')) :
    wpAny (model PG w) A (execs kB (lawEnv L fa cd)) Q E (S3 s h k) := by
  refine q_head G (hA.le (by decide)) O B fk hk fun h2 m2 k2 q u mn sp t1 t2 t3 t4 O B a1 q0 a2 u0 u1 a3 m0 m1 a4 => ?_
  refine q_found G (hA.le (by decide)) O B ⟨⟨_, a1⟩, ⟨_, a2⟩, ⟨_, a3⟩, ⟨_, a4⟩⟩ u0 u1 fun g3 h3 m3 k3 D T fv den st3 O B K fc C fw W ff F => ?_
  have G := G.keeps st3
  refine q_broken G (hA.le (by decide)) O B K fc C fw ff F fun g4 h4 m4 k4 st4 O B K fc fw fb => ?_
  have G := G.keeps st4
  refine q_try G hA hst O B K u0 u1 m0 m1 fc (IsCache.mono st4 C) fw (W.mono st4) fb fun g5 h5 m5 k5 st5 O B K => ?_
  have G := G.keeps st5
  refine q_tail G hA hst O B K q0 u0 u1 m0 m1 fun g6 h6 m6 k6 st6 O B => ?_
  exact hQ g6 h6 m6 k6 (fun b o e => st6 b o (st5 b o (st4 b o (st3 b o e)))) O B
theorem law_end {Q : Flow → Shared → Prop} {an H y x dT rk : Addr} {a : Int} {cnt size : Nat} {nv hv : List Value} {ns : List Int} {hist : List En} {tabs : List TB}
    (G : GK w mg mb g) (hA : OkA A 8) (hst : A.frames = some [lawEnv L fa cd]) (O : Own g L h m []) (B : Law2 w g m L an H y x dT rk a cnt size nv hv ns hist tabs)
    (hQ : ∀ h' k' m', g.StaysIn h' → h'.Ns L m' → Q (.ret (.bool true)) (S3 s h' k')) :
    wpAny (model PG w) A (execs rest15 (lawEnv L fa cd)) Q E (S3 s h k) := by
  unfold rest15
  refine r_cons ?_
  repeat (walk_at "ms")
  with_reducible refine r_range1 fun r h6 k6 t1 t2 t3 st6 hr => ?_
  have O := O.grow st6
  repeat (walk_at "ms")
  with_reducible refine r_iter_range (n := 4) hA.handled O hr (small_one (by decide) (by decide) (by decide) (by decide)) ((rangeSize_nat _ _).trans (by decide)) (fun i g' m' mu' => mu' = [] ∧ Law2 w g' m' L an H y x dT rk a cnt size nv hv ns hist tabs) ?_ ?_ ?_ ?_
  · exact ⟨rfl, B⟩
  · rintro E2 i tk g' h7 m7 mu7 it k7 hi hg ⟨rfl, B7⟩ O
    walk_at "ms"
    rename_i O
    have B8 := B7.step (fun _ _ e => e) (m' := fun z => if z = Str.ofString "k" then some (.int ((0 : Int) + (i : Int) * 1) tk) else m7 z) (by rintro z (rfl | rfl | rfl | rfl | rfl | rfl | rfl | rfl | rfl) <;> rfl)
    obtain ⟨gB, sB, OB, kB'⟩ := O.nil.freeze
    have hit : gB.get? it.1 = some it.2 := kB' _ _ (O.mus it (.head _)).2.1 (fun z => nomatch z) (O.mus it (.head _)).1
    refine k_turn ((G.keeps hg).keeps sB) hA hst OB (B8.step sB fun _ _ => rfl) rfl hi fun g9 h9 m9 k9 st9 O9 B9 => ?_
    refine ⟨g', h9, m9, [], k9, rfl, fun _ _ e => e, O9.back O (fun b o e => st9 b o (sB b o e)) (by simpa using st9 _ _ hit), rfl, B8.names B9⟩
  · rintro g' h7 m7 mu7 k7 hg ⟨rfl, B7⟩ O
    have G := G.keeps hg
    have s7 := B7.ver
    obtain ⟨es, F, ls, hI, hV, _⟩ := B7.isv
    have eg := hV.other "get" (by decide) (by decide) (by decide) (by decide) (by decide) (by decide)
    iterate 6 (walk_at "ms")
    rename_i O
    with_reducible refine r_seq (fun s₂ => ∃ h2 k2 m2, s₂ = S3 s h2 k2 ∧ Own g' L h2 m2 [] ∧ m2 "refused" = some (.bool true)) ?_ ?_
    · refine r_try (base := g') (outer := []) (C := 80) (bmB := [.type "Exception", .type "BaseException", .type "object"]) (newId := "Exception.__new__") G O (fun _ _ e => e) hst rfl (by k_is) (by k_exc) rfl rfl rfl rfl (by decide) ?_ fun v h8 k8 O8 sm st => ?_
      · repeat (walk_at "ms")
        with_reducible refine r_dict1 G O fun d oD h4 nD fD st4 hd4 O => ?_
        repeat (walk_at "ms")
        exact get_raises (base := g') (outer := [lawEnv L fa cd]) (O.gk G) (hA.le (by decide)) (law_below hst O) fun v s' Rz' => Rz'.weak st4
      · repeat (walk_at "ms")
        rename_i O
        exact ⟨rfl, _, _, _, rfl, O, rfl⟩
    · rintro s₂ ⟨h8, k8, m8, rfl, O, er⟩
      repeat (walk_at "ms")
      exact hQ _ _ _ (fun b o e => O.keep b o (hg b o e)) O.ns
  · intro _ _; rfl
end fin
section whole
variable {w : World} {A : Around} {s : Shared} {g h : Heap} {k : Nat} {mg mb : Str → Option Value} {E : Value → Shared → Prop} {L fa : Addr} {cd : Value} {m : Str → Option Value}
theorem law_runs {Q : Flow → Shared → Prop} {sa : Addr} {vs : List Value} {ns0 : List Int} {oS oT : Obj} {vS vT : Option Value} (G : GK w mg mb g) (hA : OkA A 8) (hst : A.frames = some [lawEnv L fa cd]) (O : Own g L h m [(L + 1 + 1, oS), (L + 1, oT)]) (dS : oS.data = .cell vS) (dT : oT.data = .cell vT)
    (fs : m "script" = some (.ref sa)) (hl : g.IsList sa vs.toArray) (hI : IntsAre vs ns0) (hz : ns0.length ≤ 63) (hQ : ∀ h' k' m', g.StaysIn h' → h'.Ns L m' → Q (.ret (.bool true)) (S3 s h' k')) :
    wpAny (model PG w) A (execs lawB (lawEnv L fa cd)) Q E (S3 s h k) := by
  refine law_head G (hA.le (by decide)) O fs hl hI hz fun g2 h2 m2 k2 an H a cnt size nv hv ns es st2 O B => ?_
  have G := G.keeps st2
  refine law_mid G (hA.le (by decide)) O dS dT B fun g3 h3 m3 k3 y x dD rk tabs st3 O B => ?_
  have G := G.keeps st3
  exact law_end G hA hst O B fun h' k' m' st n => hQ h' k' m' (fun b o e => st b o (st3 b o (st2 b o e))) n
end whole
end Mine
namespace Mine
theorem tand {a b : Bool} (x : a = true) (y : b = true) : (a && b) = true := by rw [x, y]; rfl
noncomputable def lkP : Look := { strict := false, foot := none, bare := [] }
theorem said_vars : readsOut PySem.Challenge.rw_no0418_01.row.prog PySem.Challenge.rw_no0418_01.row.prog.main.body "vars" = false := by kernel_rfl
theorem said_dir : readsOut PySem.Challenge.rw_no0418_01.row.prog PySem.Challenge.rw_no0418_01.row.prog.main.body "dir" = false := by kernel_rfl
theorem said_locals : readsOut PySem.Challenge.rw_no0418_01.row.prog PySem.Challenge.rw_no0418_01.row.prog.main.body "locals" = false := by kernel_rfl
theorem said_lk : ({ strict := !(importedModules PySem.Challenge.rw_no0418_01.row.prog.main.body).all cThrough.contains, foot := none, bare := (["vars", "dir", "locals"] : List Str).filter (readsOut PySem.Challenge.rw_no0418_01.row.prog PySem.Challenge.rw_no0418_01.row.prog.main.body) } : Look) = lkP := by
  rw [List.filter, said_vars, List.filter, said_dir, List.filter, said_locals, List.filter]
  kernel_rfl
theorem said_road : noRoadLSs lkP PySem.Challenge.rw_no0418_01.row.prog.main.body = true := by kernel_rfl
theorem said_names : namesResolve PySem.Challenge.rw_no0418_01.row.prog = true := by kernel_rfl
theorem said_meet : (namesMeet PySem.Challenge.rw_no0418_01.row.prog PySem.Challenge.rw_no0418_01.row.prog.main.body fun _ n => attrL n) = true := by kernel_rfl
theorem said_looks : looksOpen PySem.Challenge.rw_no0418_01.row.prog = true := by
  unfold looksOpen
  rw [said_lk]
  exact tand (tand (tand (tand (by kernel_rfl) said_names) (by kernel_rfl)) said_road) said_meet
theorem said_row : PySem.Challenge.rw_no0418_01.row.wellSaid = true := by
  unfold OpenRow.wellSaid OpenRow.partSaid
  rw [said_looks]
  kernel_rfl
theorem said_froad : noRoadLSs { strict := true, foot := some PySem.Challenge.rw_no0418_01.bound', writes := PySem.Challenge.rw_no0418_01.writes, may := PySem.Challenge.rw_no0418_01.may } PySem.Challenge.rw_no0418_01.footing = true := by kernel_rfl
theorem said_freads : PySem.Challenge.rw_no0418_01.bound'.all (fun n => !builtinNamed n || PySem.Challenge.rw_no0418_01.about == [n] || !PySem.Challenge.rw_no0418_01.reads n) = true := by kernel_rfl
theorem said_above : (namesMeet PySem.Challenge.rw_no0418_01.prog PySem.Challenge.rw_no0418_01.above fun _ n => !PySem.Challenge.rw_no0418_01.own.contains n) = true := by kernel_rfl
theorem said_foot : (namesMeet PySem.Challenge.rw_no0418_01.prog PySem.Challenge.rw_no0418_01.footing fun sc n => sc.kind == .module || sc.names.lookup n != some .globalExplicit) = true := by kernel_rfl
theorem saidOk : PySem.Challenge.rw_no0418_01.wellSaid = true := by
  unfold OpenLaw.wellSaid
  rw [said_row, said_froad, said_freads, said_above, said_foot]
  kernel_rfl
end Mine
theorem PySem.Challenge.cw_no0418_01_holds : PySem.Challenge.rw_no0418_01.Holds := by
  w_on
  refine holds_law Mine.saidOk fun said => ?_
  refine holds_open (q := hd.view_39) (loose := []) (Xt := hd.XT) (XP := XL hd.view_39 []) (Yf := (kHook hd.heap_39 hd.asK hd.asK_eq).obs) (Ya := (kHook hd.heap_39 hd.asK hd.asK_eq).val) (YP := (kHook hd.heap_39 hd.asK hd.asK_eq).says) (N := 9658) hd.left (kHook hd.heap_39 hd.asK hd.asK_eq).of (kHook hd.heap_39 hd.asK hd.asK_eq).keeps (fun s e => xl_of s (Bool.and_eq_true_iff.mp e).1) XL.keeps (by rfl) (by rfl) (by rfl) (fun s e => recFacts_of (Bool.and_eq_true_iff.mp e).2) (by rfl) (by first | assumption | decide +kernel) (by decide +kernel) ⟨rfl, rfl, rfl, rfl, rfl, by decide +kernel⟩ ?hw ?hc
  case hw => w_witness2
  case hc => 
    k_fill
    intro w s₀ s₁ mg mb G Y fa o pm cd doc dV kV ho hd hcd hD hmg hg args vals as hpre hlay hrd hwl hlo
    have KX := kIn_of Y
    refine Ground.open G ?_
    intro T B D TE TW
    try (refine guard_noD D (by decide +kernel) ?_; clear D)
    obtain ⟨_, _, M⟩ := bmod_of_top T
    have TA := at_of_top T
    try (obtain ⟨_, _, he, B0⟩ := based_of_top T rfl hmg ho hd; have he' : cd = _ := he; subst he'; clear he)
    clear hmg
    wrow_args hpre hlay hrd hwl hlo
    all_goals (
      first | refine callC_kw (enter_call ?_) | refine enter_call ?_ | refine callC_kw (enter_callW ?_) | refine enter_callW ?_ | w_how
      w_top on
      try refine codeAny_mono ?_ (fun _ _ g => GoodW.toG g)
      have K0 := below_caller (Top.heap T)
      w_call any ho hd hcd hD T F
      clear hd TA
      k_drop
      skip)
    rename_i ns0 _ _ _ _ _ _ sa vs _ hl _ _ _ hI _ hz _ h1 tk1 oS oT dS dT N0 X0
    have OA : Mine.OkA callerA 9 := ⟨rfl, by decide, by decide⟩
    have O : Mine.Own s₁.heap s₁.heap.objs.size h1 _ [(s₁.heap.objs.size + 1 + 1, oS), (s₁.heap.objs.size + 1, oT)] := ⟨F.ns, F.keep, Mine.get_size _, N0, by simp⟩
    refine Mine.law_runs (s := s₁) ⟨KX, topRead_of T⟩ (OA.deeper _) (Around.frames_deeper K0.stack) O dS dT rfl hl hI (by walk_at "o") fun h' k' m' st n => ?_
    show GoodW _ _ _ _ s₁ (.ok (.ret (.bool true))) _
    refine goodW_bool (m := m') ⟨n, st, Nat.le_refl _⟩ hg (raisesW_false ?_) ?_
    · wrow_none_raised
    · wrow_post
