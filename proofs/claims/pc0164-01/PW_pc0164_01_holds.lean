import PyProof.Rows.All
import Wide.All
import OpenK.AllK
import Wide.FinOn
import PySem.Challenge.RW_pc0164_01
open PySem PySem.W PyProof.Rows
set_option Elab.async false
set_option maxRecDepth 100000
namespace Mine
noncomputable abbrev PW : Program := PySem.Challenge.pw_pc0164_01
noncomputable def fnTop (i : Nat) : Option (Arguments × List Stmt × Scope) := match PW.main.body[i]? with
  | some (.FunctionDef _ a b _ _ _ s _ _ _) => some (a, b, s)
  | _ => none
noncomputable def fnIn (i j : Nat) : Option (Arguments × List Stmt × Scope) := match PW.main.body[i]? with
  | some (.ClassDef _ _ _ ms _ _ _ _ _ _ _) => (match ms[j]? with
    | some (.FunctionDef _ a b _ _ _ s _ _ _) => some (a, b, s)
    | _ => none)
  | _ => none
noncomputable abbrev fnObj (name qual : Str) (pm cdv : Value) {o : Option (Arguments × List Stmt × Scope)} {a : Arguments} {b : List Stmt} {s : Scope} (_ : o = some (a, b, s)) : Obj :=
  { cls := .type "function", data := .func (fnOf name qual a b s .none .none .none pm none cdv .none) }
noncomputable abbrev pick {o : Option Stmt} {x : Stmt} (_ : o = some x) : Stmt := x
noncomputable def hd.heap_39 : Params → Frag := fun P =>
  (nat_lit 2, { cls := Value.none, data := Data.dict #[] }) ::
  (nat_lit 3, { cls := Value.type "dict", data := Data.dict #[{ hash := PyData.keyHash P (Str.ofString "__name__"), key := Value.str (Str.ofString "__name__") 165, val := Value.str (Str.ofString "law_pc0164_01") 423 }, { hash := PyData.keyHash P (Str.ofString "__doc__"), key := Value.str (Str.ofString "__doc__") 166, val := Value.none }, { hash := PyData.keyHash P (Str.ofString "__package__"), key := Value.str (Str.ofString "__package__") 167, val := Value.none }, { hash := PyData.keyHash P (Str.ofString "__loader__"), key := Value.str (Str.ofString "__loader__") 168, val := Value.builtin "__main__.__loader__#opaque" }, { hash := PyData.keyHash P (Str.ofString "__spec__"), key := Value.str (Str.ofString "__spec__") 169, val := Value.none }, { hash := PyData.keyHash P (Str.ofString "__annotations__"), key := Value.str (Str.ofString "__annotations__") 170, val := Value.ref 6 }, { hash := PyData.keyHash P (Str.ofString "__builtins__"), key := Value.str (Str.ofString "__builtins__") 171, val := Value.ref 4 }, { hash := PyData.keyHash P (Str.ofString "__file__"), key := Value.str (Str.ofString "__file__") 173, val := Value.str (Str.ofString "/claim/cut.py") 172 }, { hash := PyData.keyHash P (Str.ofString "__cached__"), key := Value.str (Str.ofString "__cached__") 174, val := Value.none }, { hash := PyData.keyHash P (Str.ofString "T_NONE"), key := Value.str (Str.ofString "T_NONE") 191, val := Value.int (-1) 190 }, { hash := PyData.keyHash P (Str.ofString "T_PROTO"), key := Value.str (Str.ofString "T_PROTO") 193, val := Value.int 9 192 }, { hash := PyData.keyHash P (Str.ofString "HeapObject"), key := Value.str (Str.ofString "HeapObject") 226, val := Value.ref 31 }, { hash := PyData.keyHash P (Str.ofString "LocalVar"), key := Value.str (Str.ofString "LocalVar") 261, val := Value.ref 52 }, { hash := PyData.keyHash P (Str.ofString "Proto"), key := Value.str (Str.ofString "Proto") 324, val := Value.ref 94 }, { hash := PyData.keyHash P (Str.ofString "copy_proto"), key := Value.str (Str.ofString "copy_proto") 330, val := Value.ref 101 }, { hash := PyData.keyHash P (Str.ofString "walk_protos"), key := Value.str (Str.ofString "walk_protos") 341, val := Value.ref 108 }, { hash := PyData.keyHash P (Str.ofString "proto_size"), key := Value.str (Str.ofString "proto_size") 349, val := Value.ref 115 }, { hash := PyData.keyHash P (Str.ofString "constant_kind"), key := Value.str (Str.ofString "constant_kind") 356, val := Value.ref 122 }, { hash := PyData.keyHash P (Str.ofString "same_constants"), key := Value.str (Str.ofString "same_constants") 366, val := Value.ref 129 }, { hash := PyData.keyHash P (Str.ofString "same_locals"), key := Value.str (Str.ofString "same_locals") 376, val := Value.ref 136 }, { hash := PyData.keyHash P (Str.ofString "same_head"), key := Value.str (Str.ofString "same_head") 384, val := Value.ref 143 }, { hash := PyData.keyHash P (Str.ofString "same_debug"), key := Value.str (Str.ofString "same_debug") 392, val := Value.ref 150 }, { hash := PyData.keyHash P (Str.ofString "equal_protos"), key := Value.str (Str.ofString "equal_protos") 404, val := Value.ref 157 }, { hash := PyData.keyHash P (Str.ofString "equal_code"), key := Value.str (Str.ofString "equal_code") 410, val := Value.ref 162 }, { hash := PyData.keyHash P (Str.ofString "places_within"), key := Value.str (Str.ofString "places_within") 416, val := Value.ref 167 }, { hash := PyData.keyHash P (Str.ofString "inner_places"), key := Value.str (Str.ofString "inner_places") 422, val := Value.ref 172 }, { hash := PyData.keyHash P (Str.ofString "_law_draw"), key := Value.str (Str.ofString "_law_draw") 434, val := Value.ref 179 }, { hash := PyData.keyHash P (Str.ofString "_law_box"), key := Value.str (Str.ofString "_law_box") 440, val := Value.ref 184 }, { hash := PyData.keyHash P (Str.ofString "_law_plan"), key := Value.str (Str.ofString "_law_plan") 446, val := Value.ref 189 }, { hash := PyData.keyHash P (Str.ofString "_law_many"), key := Value.str (Str.ofString "_law_many") 452, val := Value.ref 194 }, { hash := PyData.keyHash P (Str.ofString "_law_made"), key := Value.str (Str.ofString "_law_made") 458, val := Value.ref 199 }, { hash := PyData.keyHash P (Str.ofString "_law_nodes"), key := Value.str (Str.ofString "_law_nodes") 470, val := Value.ref 206 }, { hash := PyData.keyHash P (Str.ofString "_law_turned"), key := Value.str (Str.ofString "_law_turned") 476, val := Value.ref 211 }, { hash := PyData.keyHash P (Str.ofString "_law_asked_right"), key := Value.str (Str.ofString "_law_asked_right") 482, val := Value.ref 216 }, { hash := PyData.keyHash P (Str.ofString "_law_copy_right"), key := Value.str (Str.ofString "_law_copy_right") 488, val := Value.ref 221 }, { hash := PyData.keyHash P (Str.ofString "law"), key := Value.str (Str.ofString "law") 494, val := Value.ref 226 }] 36 }) ::
  (nat_lit 22, { cls := Value.type "tuple", data := Data.seq #[] }) ::
  (nat_lit 24, { cls := Value.type "tuple", data := Data.seq #[Value.str (Str.ofString "self") 210, Value.str (Str.ofString "number") 211, Value.str (Str.ofString "size") 212] }) ::
  (nat_lit 25, { cls := Value.type "tuple", data := Data.seq #[] }) ::
  (nat_lit 27, { cls := Value.type "code", data := Data.fields #[Value.str (Str.ofString "__init__") 207, Value.str (Str.ofString "HeapObject.__init__") 208, Value.str (Str.ofString "/claim/cut.py") 209, Value.int 7 0, Value.int 3 0, Value.int 0 0, Value.int 0 0, Value.int 3 0, Value.ref 22, Value.bool true, Value.int 181 0, Value.ref 23, Value.none, Value.ref 24, Value.ref 25, Value.ref 26, Value.int 213 0, Value.int 7 0, Value.str (Str.ofString "/claim/cut.py") 214] }) ::
  (nat_lit 28, fnObj (Str.ofString "__init__") (Str.ofString "HeapObject.__init__") (Value.str (Str.ofString "lua.values") 187) (Value.ref 27) (rfl : fnIn 3 1 = some (_, _, _))) ::
  (nat_lit 29, { cls := Value.type "tuple", data := Data.seq #[Value.str (Str.ofString "mark") 216, Value.str (Str.ofString "number") 217, Value.str (Str.ofString "size") 218] }) ::
  (nat_lit 30, { cls := Value.type "dict", data := Data.dict #[{ hash := PyData.keyHash P (Str.ofString "__module__"), key := Value.str (Str.ofString "__module__") 201, val := Value.str (Str.ofString "lua.values") 187 }, { hash := PyData.keyHash P (Str.ofString "__firstlineno__"), key := Value.str (Str.ofString "__firstlineno__") 205, val := Value.int 4 204 }, { hash := PyData.keyHash P (Str.ofString "kind"), key := Value.str (Str.ofString "kind") 206, val := Value.int (-1) 190 }, { hash := PyData.keyHash P (Str.ofString "__init__"), key := Value.str (Str.ofString "__init__") 215, val := Value.ref 28 }, { hash := PyData.keyHash P (Str.ofString "__static_attributes__"), key := Value.str (Str.ofString "__static_attributes__") 219, val := Value.ref 29 }, { hash := PyData.keyHash P (Str.ofString "__dict__"), key := Value.str (Str.ofString "__dict__") 221, val := Value.ref 32 }, { hash := PyData.keyHash P (Str.ofString "__weakref__"), key := Value.str (Str.ofString "__weakref__") 223, val := Value.ref 33 }, { hash := PyData.keyHash P (Str.ofString "__doc__"), key := Value.str (Str.ofString "__doc__") 224, val := Value.none }] 4 }) ::
  (nat_lit 31, { cls := Value.type "type", data := Data.cls { name := Str.ofString "HeapObject", bases := [Value.type "object"], mro := [Value.ref 31, Value.type "object"], ns := 30, qualname := Str.ofString "HeapObject", subclasses := [Value.ref 94] }, slots := #[none, none, some (Value.str (Str.ofString "HeapObject") 194), some (Value.str (Str.ofString "HeapObject") 202), some (Value.builtin "object.__new__"), some (Value.bool true)] }) ::
  (nat_lit 32, { cls := Value.type "getset_descriptor", data := Data.fields #[Value.str (Str.ofString "__dict__") 220, Value.ref 31, Value.builtin "function.__dict__", Value.builtin "function.__dict__#set"] }) ::
  (nat_lit 33, { cls := Value.type "getset_descriptor", data := Data.fields #[Value.str (Str.ofString "__weakref__") 222, Value.ref 31, Value.builtin "ExceptionGroup.__weakref__", Value.none] }) ::
  (nat_lit 43, { cls := Value.type "tuple", data := Data.seq #[] }) ::
  (nat_lit 45, { cls := Value.type "tuple", data := Data.seq #[Value.str (Str.ofString "self") 244, Value.str (Str.ofString "name") 245, Value.str (Str.ofString "start") 246, Value.str (Str.ofString "end") 247] }) ::
  (nat_lit 46, { cls := Value.type "tuple", data := Data.seq #[] }) ::
  (nat_lit 48, { cls := Value.type "code", data := Data.fields #[Value.str (Str.ofString "__init__") 241, Value.str (Str.ofString "LocalVar.__init__") 242, Value.str (Str.ofString "/claim/cut.py") 243, Value.int 14 0, Value.int 4 0, Value.int 0 0, Value.int 0 0, Value.int 3 0, Value.ref 43, Value.bool true, Value.int 181 0, Value.ref 44, Value.none, Value.ref 45, Value.ref 46, Value.ref 47, Value.int 248 0, Value.int 14 0, Value.str (Str.ofString "/claim/cut.py") 249] }) ::
  (nat_lit 49, fnObj (Str.ofString "__init__") (Str.ofString "LocalVar.__init__") (Value.str (Str.ofString "lua.protos") 227) (Value.ref 48) (rfl : fnIn 5 0 = some (_, _, _))) ::
  (nat_lit 50, { cls := Value.type "tuple", data := Data.seq #[Value.str (Str.ofString "end") 251, Value.str (Str.ofString "name") 252, Value.str (Str.ofString "start") 253] }) ::
  (nat_lit 51, { cls := Value.type "dict", data := Data.dict #[{ hash := PyData.keyHash P (Str.ofString "__module__"), key := Value.str (Str.ofString "__module__") 236, val := Value.str (Str.ofString "lua.protos") 227 }, { hash := PyData.keyHash P (Str.ofString "__firstlineno__"), key := Value.str (Str.ofString "__firstlineno__") 240, val := Value.int 12 239 }, { hash := PyData.keyHash P (Str.ofString "__init__"), key := Value.str (Str.ofString "__init__") 250, val := Value.ref 49 }, { hash := PyData.keyHash P (Str.ofString "__static_attributes__"), key := Value.str (Str.ofString "__static_attributes__") 254, val := Value.ref 50 }, { hash := PyData.keyHash P (Str.ofString "__dict__"), key := Value.str (Str.ofString "__dict__") 256, val := Value.ref 53 }, { hash := PyData.keyHash P (Str.ofString "__weakref__"), key := Value.str (Str.ofString "__weakref__") 258, val := Value.ref 54 }, { hash := PyData.keyHash P (Str.ofString "__doc__"), key := Value.str (Str.ofString "__doc__") 259, val := Value.none }] 4 }) ::
  (nat_lit 52, { cls := Value.type "type", data := Data.cls { name := Str.ofString "LocalVar", bases := [Value.type "object"], mro := [Value.ref 52, Value.type "object"], ns := 51, qualname := Str.ofString "LocalVar" }, slots := #[none, none, some (Value.str (Str.ofString "LocalVar") 229), some (Value.str (Str.ofString "LocalVar") 237), some (Value.builtin "object.__new__"), some (Value.bool true)] }) ::
  (nat_lit 53, { cls := Value.type "getset_descriptor", data := Data.fields #[Value.str (Str.ofString "__dict__") 255, Value.ref 52, Value.builtin "function.__dict__", Value.builtin "function.__dict__#set"] }) ::
  (nat_lit 54, { cls := Value.type "getset_descriptor", data := Data.fields #[Value.str (Str.ofString "__weakref__") 257, Value.ref 52, Value.builtin "ExceptionGroup.__weakref__", Value.none] }) ::
  (nat_lit 57, { cls := Value.type "tuple", data := Data.seq #[Value.ref 31] }) ::
  (nat_lit 64, { cls := Value.type "tuple", data := Data.seq #[] }) ::
  (nat_lit 66, { cls := Value.type "tuple", data := Data.seq #[Value.str (Str.ofString "self") 278] }) ::
  (nat_lit 67, { cls := Value.type "tuple", data := Data.seq #[] }) ::
  (nat_lit 69, { cls := Value.type "code", data := Data.fields #[Value.str (Str.ofString "__init__") 275, Value.str (Str.ofString "Proto.__init__") 276, Value.str (Str.ofString "/claim/cut.py") 277, Value.int 21 0, Value.int 1 0, Value.int 0 0, Value.int 0 0, Value.int 3 0, Value.ref 64, Value.bool true, Value.int 181 0, Value.ref 65, Value.none, Value.ref 66, Value.ref 67, Value.ref 68, Value.int 279 0, Value.int 21 0, Value.str (Str.ofString "/claim/cut.py") 280] }) ::
  (nat_lit 70, fnObj (Str.ofString "__init__") (Str.ofString "Proto.__init__") (Value.str (Str.ofString "lua.protos") 227) (Value.ref 69) (rfl : fnIn 6 1 = some (_, _, _))) ::
  (nat_lit 71, { cls := Value.type "tuple", data := Data.seq #[] }) ::
  (nat_lit 73, { cls := Value.type "tuple", data := Data.seq #[Value.str (Str.ofString "self") 285, Value.str (Str.ofString "pc") 286] }) ::
  (nat_lit 74, { cls := Value.type "tuple", data := Data.seq #[] }) ::
  (nat_lit 76, { cls := Value.type "code", data := Data.fields #[Value.str (Str.ofString "line_at") 282, Value.str (Str.ofString "Proto.line_at") 283, Value.str (Str.ofString "/claim/cut.py") 284, Value.int 37 0, Value.int 2 0, Value.int 0 0, Value.int 0 0, Value.int 3 0, Value.ref 71, Value.bool true, Value.int 181 0, Value.ref 72, Value.none, Value.ref 73, Value.ref 74, Value.ref 75, Value.int 287 0, Value.int 37 0, Value.str (Str.ofString "/claim/cut.py") 288] }) ::
  (nat_lit 77, fnObj (Str.ofString "line_at") (Str.ofString "Proto.line_at") (Value.str (Str.ofString "lua.protos") 227) (Value.ref 76) (rfl : fnIn 6 2 = some (_, _, _))) ::
  (nat_lit 78, { cls := Value.type "tuple", data := Data.seq #[] }) ::
  (nat_lit 80, { cls := Value.type "tuple", data := Data.seq #[Value.str (Str.ofString "self") 293, Value.str (Str.ofString "number") 294, Value.str (Str.ofString "pc") 295, Value.str (Str.ofString "var") 296] }) ::
  (nat_lit 81, { cls := Value.type "tuple", data := Data.seq #[] }) ::
  (nat_lit 83, { cls := Value.type "code", data := Data.fields #[Value.str (Str.ofString "local_name") 290, Value.str (Str.ofString "Proto.local_name") 291, Value.str (Str.ofString "/claim/cut.py") 292, Value.int 40 0, Value.int 3 0, Value.int 0 0, Value.int 0 0, Value.int 3 0, Value.ref 78, Value.bool true, Value.int 181 0, Value.ref 79, Value.none, Value.ref 80, Value.ref 81, Value.ref 82, Value.int 297 0, Value.int 40 0, Value.str (Str.ofString "/claim/cut.py") 298] }) ::
  (nat_lit 84, fnObj (Str.ofString "local_name") (Str.ofString "Proto.local_name") (Value.str (Str.ofString "lua.protos") 227) (Value.ref 83) (rfl : fnIn 6 3 = some (_, _, _))) ::
  (nat_lit 85, { cls := Value.type "tuple", data := Data.seq #[] }) ::
  (nat_lit 87, { cls := Value.type "tuple", data := Data.seq #[Value.str (Str.ofString "self") 303, Value.str (Str.ofString "index") 304] }) ::
  (nat_lit 88, { cls := Value.type "tuple", data := Data.seq #[] }) ::
  (nat_lit 90, { cls := Value.type "code", data := Data.fields #[Value.str (Str.ofString "upvalue_name") 300, Value.str (Str.ofString "Proto.upvalue_name") 301, Value.str (Str.ofString "/claim/cut.py") 302, Value.int 50 0, Value.int 2 0, Value.int 0 0, Value.int 0 0, Value.int 3 0, Value.ref 85, Value.bool true, Value.int 181 0, Value.ref 86, Value.none, Value.ref 87, Value.ref 88, Value.ref 89, Value.int 305 0, Value.int 50 0, Value.str (Str.ofString "/claim/cut.py") 306] }) ::
  (nat_lit 91, fnObj (Str.ofString "upvalue_name") (Str.ofString "Proto.upvalue_name") (Value.str (Str.ofString "lua.protos") 227) (Value.ref 90) (rfl : fnIn 6 4 = some (_, _, _))) ::
  (nat_lit 92, { cls := Value.type "tuple", data := Data.seq #[Value.str (Str.ofString "code") 308, Value.str (Str.ofString "constants") 309, Value.str (Str.ofString "is_vararg") 310, Value.str (Str.ofString "last_line") 311, Value.str (Str.ofString "line_defined") 312, Value.str (Str.ofString "line_info") 313, Value.str (Str.ofString "locals") 314, Value.str (Str.ofString "max_stack") 315, Value.str (Str.ofString "param_count") 316, Value.str (Str.ofString "protos") 317, Value.str (Str.ofString "source") 318, Value.str (Str.ofString "upvalue_count") 319, Value.str (Str.ofString "upvalue_names") 320] }) ::
  (nat_lit 93, { cls := Value.type "dict", data := Data.dict #[{ hash := PyData.keyHash P (Str.ofString "__module__"), key := Value.str (Str.ofString "__module__") 269, val := Value.str (Str.ofString "lua.protos") 227 }, { hash := PyData.keyHash P (Str.ofString "__firstlineno__"), key := Value.str (Str.ofString "__firstlineno__") 273, val := Value.int 18 272 }, { hash := PyData.keyHash P (Str.ofString "kind"), key := Value.str (Str.ofString "kind") 274, val := Value.int 9 192 }, { hash := PyData.keyHash P (Str.ofString "__init__"), key := Value.str (Str.ofString "__init__") 281, val := Value.ref 70 }, { hash := PyData.keyHash P (Str.ofString "line_at"), key := Value.str (Str.ofString "line_at") 289, val := Value.ref 77 }, { hash := PyData.keyHash P (Str.ofString "local_name"), key := Value.str (Str.ofString "local_name") 299, val := Value.ref 84 }, { hash := PyData.keyHash P (Str.ofString "upvalue_name"), key := Value.str (Str.ofString "upvalue_name") 307, val := Value.ref 91 }, { hash := PyData.keyHash P (Str.ofString "__static_attributes__"), key := Value.str (Str.ofString "__static_attributes__") 321, val := Value.ref 92 }, { hash := PyData.keyHash P (Str.ofString "__doc__"), key := Value.str (Str.ofString "__doc__") 322, val := Value.none }] 2 }) ::
  (nat_lit 94, { cls := Value.type "type", data := Data.cls { name := Str.ofString "Proto", bases := [Value.ref 31], mro := [Value.ref 94, Value.ref 31, Value.type "object"], ns := 93, qualname := Str.ofString "Proto" }, slots := #[some (Value.ref 57), none, some (Value.str (Str.ofString "Proto") 262), some (Value.str (Str.ofString "Proto") 270), some (Value.builtin "object.__new__"), some (Value.bool true)] }) ::
  (nat_lit 97, { cls := Value.type "tuple", data := Data.seq #[] }) ::
  (nat_lit 100, { cls := Value.type "code", data := Data.fields #[Value.str (Str.ofString "copy_proto") 325, Value.str (Str.ofString "copy_proto") 326, Value.str (Str.ofString "/claim/cut.py") 327, Value.int 52 0, Value.int 1 0, Value.int 0 0, Value.int 0 0, Value.int 3 0, Value.ref 97, Value.bool true, Value.int 181 0, Value.ref 98, Value.none, Value.none, Value.none, Value.ref 99, Value.int 328 0, Value.int 52 0, Value.str (Str.ofString "/claim/cut.py") 329] }) ::
  (nat_lit 101, fnObj (Str.ofString "copy_proto") (Str.ofString "copy_proto") (Value.str (Str.ofString "lua.protos") 227) (Value.ref 100) (rfl : fnTop 7 = some (_, _, _))) ::
  (nat_lit 102, { cls := Value.type "tuple", data := Data.seq #[] }) ::
  (nat_lit 104, { cls := Value.type "tuple", data := Data.seq #[Value.str (Str.ofString "p") 334, Value.str (Str.ofString "waiting") 335, Value.str (Str.ofString "found") 336, Value.str (Str.ofString "here") 337, Value.str (Str.ofString "inner") 338] }) ::
  (nat_lit 105, { cls := Value.type "tuple", data := Data.seq #[] }) ::
  (nat_lit 107, { cls := Value.type "code", data := Data.fields #[Value.str (Str.ofString "walk_protos") 331, Value.str (Str.ofString "walk_protos") 332, Value.str (Str.ofString "/claim/cut.py") 333, Value.int 68 0, Value.int 1 0, Value.int 0 0, Value.int 0 0, Value.int 3 0, Value.ref 102, Value.bool true, Value.int 181 0, Value.ref 103, Value.none, Value.ref 104, Value.ref 105, Value.ref 106, Value.int 339 0, Value.int 68 0, Value.str (Str.ofString "/claim/cut.py") 340] }) ::
  (nat_lit 108, fnObj (Str.ofString "walk_protos") (Str.ofString "walk_protos") (Value.str (Str.ofString "lua.protos") 227) (Value.ref 107) (rfl : fnTop 8 = some (_, _, _))) ::
  (nat_lit 109, { cls := Value.type "tuple", data := Data.seq #[] }) ::
  (nat_lit 111, { cls := Value.type "tuple", data := Data.seq #[Value.str (Str.ofString "p") 345, Value.str (Str.ofString "many") 346] }) ::
  (nat_lit 112, { cls := Value.type "tuple", data := Data.seq #[] }) ::
  (nat_lit 114, { cls := Value.type "code", data := Data.fields #[Value.str (Str.ofString "proto_size") 342, Value.str (Str.ofString "proto_size") 343, Value.str (Str.ofString "/claim/cut.py") 344, Value.int 76 0, Value.int 1 0, Value.int 0 0, Value.int 0 0, Value.int 3 0, Value.ref 109, Value.bool true, Value.int 181 0, Value.ref 110, Value.none, Value.ref 111, Value.ref 112, Value.ref 113, Value.int 347 0, Value.int 76 0, Value.str (Str.ofString "/claim/cut.py") 348] }) ::
  (nat_lit 115, fnObj (Str.ofString "proto_size") (Str.ofString "proto_size") (Value.str (Str.ofString "lua.protos") 227) (Value.ref 114) (rfl : fnTop 9 = some (_, _, _))) ::
  (nat_lit 116, { cls := Value.type "tuple", data := Data.seq #[] }) ::
  (nat_lit 118, { cls := Value.type "tuple", data := Data.seq #[Value.str (Str.ofString "value") 353] }) ::
  (nat_lit 119, { cls := Value.type "tuple", data := Data.seq #[] }) ::
  (nat_lit 121, { cls := Value.type "code", data := Data.fields #[Value.str (Str.ofString "constant_kind") 350, Value.str (Str.ofString "constant_kind") 351, Value.str (Str.ofString "/claim/cut.py") 352, Value.int 79 0, Value.int 1 0, Value.int 0 0, Value.int 0 0, Value.int 3 0, Value.ref 116, Value.bool true, Value.int 181 0, Value.ref 117, Value.none, Value.ref 118, Value.ref 119, Value.ref 120, Value.int 354 0, Value.int 79 0, Value.str (Str.ofString "/claim/cut.py") 355] }) ::
  (nat_lit 122, fnObj (Str.ofString "constant_kind") (Str.ofString "constant_kind") (Value.str (Str.ofString "lua.protos") 227) (Value.ref 121) (rfl : fnTop 10 = some (_, _, _))) ::
  (nat_lit 123, { cls := Value.type "tuple", data := Data.seq #[] }) ::
  (nat_lit 125, { cls := Value.type "tuple", data := Data.seq #[Value.str (Str.ofString "one") 360, Value.str (Str.ofString "other") 361, Value.str (Str.ofString "at") 362, Value.str (Str.ofString "value") 363] }) ::
  (nat_lit 126, { cls := Value.type "tuple", data := Data.seq #[] }) ::
  (nat_lit 128, { cls := Value.type "code", data := Data.fields #[Value.str (Str.ofString "same_constants") 357, Value.str (Str.ofString "same_constants") 358, Value.str (Str.ofString "/claim/cut.py") 359, Value.int 85 0, Value.int 2 0, Value.int 0 0, Value.int 0 0, Value.int 3 0, Value.ref 123, Value.bool true, Value.int 181 0, Value.ref 124, Value.none, Value.ref 125, Value.ref 126, Value.ref 127, Value.int 364 0, Value.int 85 0, Value.str (Str.ofString "/claim/cut.py") 365] }) ::
  (nat_lit 129, fnObj (Str.ofString "same_constants") (Str.ofString "same_constants") (Value.str (Str.ofString "lua.protos") 227) (Value.ref 128) (rfl : fnTop 11 = some (_, _, _))) ::
  (nat_lit 130, { cls := Value.type "tuple", data := Data.seq #[] }) ::
  (nat_lit 132, { cls := Value.type "tuple", data := Data.seq #[Value.str (Str.ofString "one") 370, Value.str (Str.ofString "other") 371, Value.str (Str.ofString "at") 372, Value.str (Str.ofString "var") 373] }) ::
  (nat_lit 133, { cls := Value.type "tuple", data := Data.seq #[] }) ::
  (nat_lit 135, { cls := Value.type "code", data := Data.fields #[Value.str (Str.ofString "same_locals") 367, Value.str (Str.ofString "same_locals") 368, Value.str (Str.ofString "/claim/cut.py") 369, Value.int 92 0, Value.int 2 0, Value.int 0 0, Value.int 0 0, Value.int 3 0, Value.ref 130, Value.bool true, Value.int 181 0, Value.ref 131, Value.none, Value.ref 132, Value.ref 133, Value.ref 134, Value.int 374 0, Value.int 92 0, Value.str (Str.ofString "/claim/cut.py") 375] }) ::
  (nat_lit 136, fnObj (Str.ofString "same_locals") (Str.ofString "same_locals") (Value.str (Str.ofString "lua.protos") 227) (Value.ref 135) (rfl : fnTop 12 = some (_, _, _))) ::
  (nat_lit 137, { cls := Value.type "tuple", data := Data.seq #[] }) ::
  (nat_lit 139, { cls := Value.type "tuple", data := Data.seq #[Value.str (Str.ofString "one") 380, Value.str (Str.ofString "other") 381] }) ::
  (nat_lit 140, { cls := Value.type "tuple", data := Data.seq #[] }) ::
  (nat_lit 142, { cls := Value.type "code", data := Data.fields #[Value.str (Str.ofString "same_head") 377, Value.str (Str.ofString "same_head") 378, Value.str (Str.ofString "/claim/cut.py") 379, Value.int 99 0, Value.int 2 0, Value.int 0 0, Value.int 0 0, Value.int 3 0, Value.ref 137, Value.bool true, Value.int 181 0, Value.ref 138, Value.none, Value.ref 139, Value.ref 140, Value.ref 141, Value.int 382 0, Value.int 99 0, Value.str (Str.ofString "/claim/cut.py") 383] }) ::
  (nat_lit 143, fnObj (Str.ofString "same_head") (Str.ofString "same_head") (Value.str (Str.ofString "lua.protos") 227) (Value.ref 142) (rfl : fnTop 13 = some (_, _, _))) ::
  (nat_lit 144, { cls := Value.type "tuple", data := Data.seq #[] }) ::
  (nat_lit 146, { cls := Value.type "tuple", data := Data.seq #[Value.str (Str.ofString "one") 388, Value.str (Str.ofString "other") 389] }) ::
  (nat_lit 147, { cls := Value.type "tuple", data := Data.seq #[] }) ::
  (nat_lit 149, { cls := Value.type "code", data := Data.fields #[Value.str (Str.ofString "same_debug") 385, Value.str (Str.ofString "same_debug") 386, Value.str (Str.ofString "/claim/cut.py") 387, Value.int 107 0, Value.int 2 0, Value.int 0 0, Value.int 0 0, Value.int 3 0, Value.ref 144, Value.bool true, Value.int 181 0, Value.ref 145, Value.none, Value.ref 146, Value.ref 147, Value.ref 148, Value.int 390 0, Value.int 107 0, Value.str (Str.ofString "/claim/cut.py") 391] }) ::
  (nat_lit 150, fnObj (Str.ofString "same_debug") (Str.ofString "same_debug") (Value.str (Str.ofString "lua.protos") 227) (Value.ref 149) (rfl : fnTop 14 = some (_, _, _))) ::
  (nat_lit 151, { cls := Value.type "tuple", data := Data.seq #[] }) ::
  (nat_lit 153, { cls := Value.type "tuple", data := Data.seq #[Value.str (Str.ofString "one") 396, Value.str (Str.ofString "other") 397, Value.str (Str.ofString "ones") 398, Value.str (Str.ofString "others") 399, Value.str (Str.ofString "at") 400, Value.str (Str.ofString "here") 401] }) ::
  (nat_lit 154, { cls := Value.type "tuple", data := Data.seq #[] }) ::
  (nat_lit 156, { cls := Value.type "code", data := Data.fields #[Value.str (Str.ofString "equal_protos") 393, Value.str (Str.ofString "equal_protos") 394, Value.str (Str.ofString "/claim/cut.py") 395, Value.int 111 0, Value.int 2 0, Value.int 0 0, Value.int 0 0, Value.int 3 0, Value.ref 151, Value.bool true, Value.int 181 0, Value.ref 152, Value.none, Value.ref 153, Value.ref 154, Value.ref 155, Value.int 402 0, Value.int 111 0, Value.str (Str.ofString "/claim/cut.py") 403] }) ::
  (nat_lit 157, fnObj (Str.ofString "equal_protos") (Str.ofString "equal_protos") (Value.str (Str.ofString "lua.protos") 227) (Value.ref 156) (rfl : fnTop 15 = some (_, _, _))) ::
  (nat_lit 158, { cls := Value.type "tuple", data := Data.seq #[] }) ::
  (nat_lit 161, { cls := Value.type "code", data := Data.fields #[Value.str (Str.ofString "equal_code") 405, Value.str (Str.ofString "equal_code") 406, Value.str (Str.ofString "/claim/cut.py") 407, Value.int 119 0, Value.int 2 0, Value.int 0 0, Value.int 0 0, Value.int 3 0, Value.ref 158, Value.bool true, Value.int 181 0, Value.ref 159, Value.none, Value.none, Value.none, Value.ref 160, Value.int 408 0, Value.int 119 0, Value.str (Str.ofString "/claim/cut.py") 409] }) ::
  (nat_lit 162, fnObj (Str.ofString "equal_code") (Str.ofString "equal_code") (Value.str (Str.ofString "lua.protos") 227) (Value.ref 161) (rfl : fnTop 16 = some (_, _, _))) ::
  (nat_lit 163, { cls := Value.type "tuple", data := Data.seq #[] }) ::
  (nat_lit 166, { cls := Value.type "code", data := Data.fields #[Value.str (Str.ofString "places_within") 411, Value.str (Str.ofString "places_within") 412, Value.str (Str.ofString "/claim/cut.py") 413, Value.int 124 0, Value.int 1 0, Value.int 0 0, Value.int 0 0, Value.int 3 0, Value.ref 163, Value.bool true, Value.int 181 0, Value.ref 164, Value.none, Value.none, Value.none, Value.ref 165, Value.int 414 0, Value.int 124 0, Value.str (Str.ofString "/claim/cut.py") 415] }) ::
  (nat_lit 167, fnObj (Str.ofString "places_within") (Str.ofString "places_within") (Value.str (Str.ofString "lua.protos") 227) (Value.ref 166) (rfl : fnTop 17 = some (_, _, _))) ::
  (nat_lit 168, { cls := Value.type "tuple", data := Data.seq #[] }) ::
  (nat_lit 171, { cls := Value.type "code", data := Data.fields #[Value.str (Str.ofString "inner_places") 417, Value.str (Str.ofString "inner_places") 418, Value.str (Str.ofString "/claim/cut.py") 419, Value.int 135 0, Value.int 1 0, Value.int 0 0, Value.int 0 0, Value.int 3 0, Value.ref 168, Value.bool true, Value.int 181 0, Value.ref 169, Value.none, Value.none, Value.none, Value.ref 170, Value.int 420 0, Value.int 135 0, Value.str (Str.ofString "/claim/cut.py") 421] }) ::
  (nat_lit 172, fnObj (Str.ofString "inner_places") (Str.ofString "inner_places") (Value.str (Str.ofString "lua.protos") 227) (Value.ref 171) (rfl : fnTop 18 = some (_, _, _))) ::
  (nat_lit 173, { cls := Value.type "tuple", data := Data.seq #[] }) ::
  (nat_lit 175, { cls := Value.type "tuple", data := Data.seq #[Value.str (Str.ofString "box") 428, Value.str (Str.ofString "many") 429, Value.str (Str.ofString "at") 430, Value.str (Str.ofString "cells") 431] }) ::
  (nat_lit 176, { cls := Value.type "tuple", data := Data.seq #[] }) ::
  (nat_lit 178, { cls := Value.type "code", data := Data.fields #[Value.str (Str.ofString "_law_draw") 425, Value.str (Str.ofString "_law_draw") 426, Value.str (Str.ofString "/claim/cut.py") 427, Value.int 138 0, Value.int 2 0, Value.int 0 0, Value.int 0 0, Value.int 3 0, Value.ref 173, Value.bool true, Value.int 181 0, Value.ref 174, Value.none, Value.ref 175, Value.ref 176, Value.ref 177, Value.int 432 0, Value.int 138 0, Value.str (Str.ofString "/claim/cut.py") 433] }) ::
  (nat_lit 179, fnObj (Str.ofString "_law_draw") (Str.ofString "_law_draw") (Value.str (Str.ofString "law_pc0164_01") 423) (Value.ref 178) (rfl : fnTop 20 = some (_, _, _))) ::
  (nat_lit 180, { cls := Value.type "tuple", data := Data.seq #[] }) ::
  (nat_lit 183, { cls := Value.type "code", data := Data.fields #[Value.str (Str.ofString "_law_box") 435, Value.str (Str.ofString "_law_box") 436, Value.str (Str.ofString "/claim/cut.py") 437, Value.int 143 0, Value.int 1 0, Value.int 0 0, Value.int 0 0, Value.int 3 0, Value.ref 180, Value.bool true, Value.int 181 0, Value.ref 181, Value.none, Value.none, Value.none, Value.ref 182, Value.int 438 0, Value.int 143 0, Value.str (Str.ofString "/claim/cut.py") 439] }) ::
  (nat_lit 184, fnObj (Str.ofString "_law_box") (Str.ofString "_law_box") (Value.str (Str.ofString "law_pc0164_01") 423) (Value.ref 183) (rfl : fnTop 21 = some (_, _, _))) ::
  (nat_lit 185, { cls := Value.type "tuple", data := Data.seq #[] }) ::
  (nat_lit 188, { cls := Value.type "code", data := Data.fields #[Value.str (Str.ofString "_law_plan") 441, Value.str (Str.ofString "_law_plan") 442, Value.str (Str.ofString "/claim/cut.py") 443, Value.int 146 0, Value.int 2 0, Value.int 0 0, Value.int 0 0, Value.int 3 0, Value.ref 185, Value.bool true, Value.int 181 0, Value.ref 186, Value.none, Value.none, Value.none, Value.ref 187, Value.int 444 0, Value.int 146 0, Value.str (Str.ofString "/claim/cut.py") 445] }) ::
  (nat_lit 189, fnObj (Str.ofString "_law_plan") (Str.ofString "_law_plan") (Value.str (Str.ofString "law_pc0164_01") 423) (Value.ref 188) (rfl : fnTop 22 = some (_, _, _))) ::
  (nat_lit 190, { cls := Value.type "tuple", data := Data.seq #[] }) ::
  (nat_lit 193, { cls := Value.type "code", data := Data.fields #[Value.str (Str.ofString "_law_many") 447, Value.str (Str.ofString "_law_many") 448, Value.str (Str.ofString "/claim/cut.py") 449, Value.int 162 0, Value.int 1 0, Value.int 0 0, Value.int 0 0, Value.int 3 0, Value.ref 190, Value.bool true, Value.int 181 0, Value.ref 191, Value.none, Value.none, Value.none, Value.ref 192, Value.int 450 0, Value.int 162 0, Value.str (Str.ofString "/claim/cut.py") 451] }) ::
  (nat_lit 194, fnObj (Str.ofString "_law_many") (Str.ofString "_law_many") (Value.str (Str.ofString "law_pc0164_01") 423) (Value.ref 193) (rfl : fnTop 23 = some (_, _, _))) ::
  (nat_lit 195, { cls := Value.type "tuple", data := Data.seq #[] }) ::
  (nat_lit 198, { cls := Value.type "code", data := Data.fields #[Value.str (Str.ofString "_law_made") 453, Value.str (Str.ofString "_law_made") 454, Value.str (Str.ofString "/claim/cut.py") 455, Value.int 164 0, Value.int 1 0, Value.int 0 0, Value.int 0 0, Value.int 3 0, Value.ref 195, Value.bool true, Value.int 181 0, Value.ref 196, Value.none, Value.none, Value.none, Value.ref 197, Value.int 456 0, Value.int 164 0, Value.str (Str.ofString "/claim/cut.py") 457] }) ::
  (nat_lit 199, fnObj (Str.ofString "_law_made") (Str.ofString "_law_made") (Value.str (Str.ofString "law_pc0164_01") 423) (Value.ref 198) (rfl : fnTop 24 = some (_, _, _))) ::
  (nat_lit 200, { cls := Value.type "tuple", data := Data.seq #[] }) ::
  (nat_lit 202, { cls := Value.type "tuple", data := Data.seq #[Value.str (Str.ofString "plan") 462, Value.str (Str.ofString "place") 463, Value.str (Str.ofString "found") 464, Value.str (Str.ofString "places") 465, Value.str (Str.ofString "here") 466, Value.str (Str.ofString "inner") 467] }) ::
  (nat_lit 203, { cls := Value.type "tuple", data := Data.seq #[] }) ::
  (nat_lit 205, { cls := Value.type "code", data := Data.fields #[Value.str (Str.ofString "_law_nodes") 459, Value.str (Str.ofString "_law_nodes") 460, Value.str (Str.ofString "/claim/cut.py") 461, Value.int 174 0, Value.int 4 0, Value.int 0 0, Value.int 0 0, Value.int 3 0, Value.ref 200, Value.bool true, Value.int 181 0, Value.ref 201, Value.none, Value.ref 202, Value.ref 203, Value.ref 204, Value.int 468 0, Value.int 174 0, Value.str (Str.ofString "/claim/cut.py") 469] }) ::
  (nat_lit 206, fnObj (Str.ofString "_law_nodes") (Str.ofString "_law_nodes") (Value.str (Str.ofString "law_pc0164_01") 423) (Value.ref 205) (rfl : fnTop 25 = some (_, _, _))) ::
  (nat_lit 207, { cls := Value.type "tuple", data := Data.seq #[] }) ::
  (nat_lit 210, { cls := Value.type "code", data := Data.fields #[Value.str (Str.ofString "_law_turned") 471, Value.str (Str.ofString "_law_turned") 472, Value.str (Str.ofString "/claim/cut.py") 473, Value.int 182 0, Value.int 3 0, Value.int 0 0, Value.int 0 0, Value.int 3 0, Value.ref 207, Value.bool true, Value.int 181 0, Value.ref 208, Value.none, Value.none, Value.none, Value.ref 209, Value.int 474 0, Value.int 182 0, Value.str (Str.ofString "/claim/cut.py") 475] }) ::
  (nat_lit 211, fnObj (Str.ofString "_law_turned") (Str.ofString "_law_turned") (Value.str (Str.ofString "law_pc0164_01") 423) (Value.ref 210) (rfl : fnTop 26 = some (_, _, _))) ::
  (nat_lit 212, { cls := Value.type "tuple", data := Data.seq #[] }) ::
  (nat_lit 215, { cls := Value.type "code", data := Data.fields #[Value.str (Str.ofString "_law_asked_right") 477, Value.str (Str.ofString "_law_asked_right") 478, Value.str (Str.ofString "/claim/cut.py") 479, Value.int 219 0, Value.int 2 0, Value.int 0 0, Value.int 0 0, Value.int 3 0, Value.ref 212, Value.bool true, Value.int 181 0, Value.ref 213, Value.none, Value.none, Value.none, Value.ref 214, Value.int 480 0, Value.int 219 0, Value.str (Str.ofString "/claim/cut.py") 481] }) ::
  (nat_lit 216, fnObj (Str.ofString "_law_asked_right") (Str.ofString "_law_asked_right") (Value.str (Str.ofString "law_pc0164_01") 423) (Value.ref 215) (rfl : fnTop 27 = some (_, _, _))) ::
  (nat_lit 217, { cls := Value.type "tuple", data := Data.seq #[] }) ::
  (nat_lit 220, { cls := Value.type "code", data := Data.fields #[Value.str (Str.ofString "_law_copy_right") 483, Value.str (Str.ofString "_law_copy_right") 484, Value.str (Str.ofString "/claim/cut.py") 485, Value.int 233 0, Value.int 1 0, Value.int 0 0, Value.int 0 0, Value.int 3 0, Value.ref 217, Value.bool true, Value.int 181 0, Value.ref 218, Value.none, Value.none, Value.none, Value.ref 219, Value.int 486 0, Value.int 233 0, Value.str (Str.ofString "/claim/cut.py") 487] }) ::
  (nat_lit 221, fnObj (Str.ofString "_law_copy_right") (Str.ofString "_law_copy_right") (Value.str (Str.ofString "law_pc0164_01") 423) (Value.ref 220) (rfl : fnTop 28 = some (_, _, _))) ::
  (nat_lit 222, { cls := Value.type "tuple", data := Data.seq #[] }) ::
  (nat_lit 225, { cls := Value.type "code", data := Data.fields #[Value.str (Str.ofString "law") 489, Value.str (Str.ofString "law") 490, Value.str (Str.ofString "/claim/cut.py") 491, Value.int 249 0, Value.int 1 0, Value.int 0 0, Value.int 0 0, Value.int 3 0, Value.ref 222, Value.bool true, Value.int 181 0, Value.ref 223, Value.none, Value.none, Value.none, Value.ref 224, Value.int 492 0, Value.int 249 0, Value.str (Str.ofString "/claim/cut.py") 493] }) ::
  (nat_lit 226, fnObj (Str.ofString "law") (Str.ofString "law") (Value.str (Str.ofString "law_pc0164_01") 423) (Value.ref 225) (rfl : fnTop 29 = some (_, _, _))) ::
  []
noncomputable def hd.view_39 : Program := { PW with main := { PW.main with body := [pick (rfl : PW.main.body[1]? = some _), pick (rfl : PW.main.body[2]? = some _), pick (rfl : PW.main.body[3]? = some _), pick (rfl : PW.main.body[5]? = some _), pick (rfl : PW.main.body[6]? = some _), pick (rfl : PW.main.body[7]? = some _), pick (rfl : PW.main.body[8]? = some _), pick (rfl : PW.main.body[9]? = some _), pick (rfl : PW.main.body[10]? = some _), pick (rfl : PW.main.body[11]? = some _), pick (rfl : PW.main.body[12]? = some _), pick (rfl : PW.main.body[13]? = some _), pick (rfl : PW.main.body[14]? = some _), pick (rfl : PW.main.body[15]? = some _), pick (rfl : PW.main.body[16]? = some _), pick (rfl : PW.main.body[17]? = some _), pick (rfl : PW.main.body[18]? = some _), pick (rfl : PW.main.body[20]? = some _), pick (rfl : PW.main.body[21]? = some _), pick (rfl : PW.main.body[22]? = some _), pick (rfl : PW.main.body[23]? = some _), pick (rfl : PW.main.body[24]? = some _), pick (rfl : PW.main.body[25]? = some _), pick (rfl : PW.main.body[26]? = some _), pick (rfl : PW.main.body[27]? = some _), pick (rfl : PW.main.body[28]? = some _), pick (rfl : PW.main.body[29]? = some _)] } }
theorem k_known : (fun (_ : OpenLaw) (_ : Params → Frag) => True) PySem.Challenge.rw_pc0164_01 hd.heap_39 := by
  k_fill
  trivial
noncomputable def HH : Hook := kHook Mine.hd.heap_39 [2,3,22,24,25,27,28,29,30,31,32,33,43,45,46,48,49,50,51,52,53,54,57,64,66,67,69,70,71,73,74,76,77,78,80,81,83,84,85,87,88,90,91,92,93,94,97,100,101,102,104,105,107,108,109,111,112,114,115,116,118,119,121,122,123,125,126,128,129,130,132,133,135,136,137,139,140,142,143,144,146,147,149,150,151,153,154,156,157,158,161,162,163,166,167,168,171,172,173,175,176,178,179,180,183,184,185,188,189,190,193,194,195,198,199,200,202,203,205,206,207,210,211,212,215,216,217,220,221,222,225,226] (fun _ => by kernel_rfl)
noncomputable def XT (s : Shared) : Bool := xlAt Mine.hd.view_39 [] s && recOk (RowW.records PySem.Challenge.rw_pc0164_01.row.toRowW) s
theorem left_ok : LeftO PySem.Challenge.rw_pc0164_01.row.prog Mine.hd.view_39 [Str.ofString "HeapObject", Str.ofString "Proto"] XT (Hook.obs HH) (Hook.val HH) 3144 := by
  intro w
  kernel_rfl

-- J0
section
open PySem PySem.W PyProof.Rows PySem.Calls PySem.Spec
noncomputable abbrev Led := List (Addr × Obj)
noncomputable abbrev Loc := List (Str × Value)
noncomputable abbrev keys (H : Led) : List Addr := H.map (·.1)
noncomputable abbrev lo (l : Loc) : Str → Option Value := fun x => l.lookup x

/-- what a frame knows: the surroundings, the known heap, its locals' place, the box, the system -/
structure Cx where
  A : Around
  G : Addr → Option Obj
  L : Addr
  bx : Option (Addr × Addr)
  os : OsState

noncomputable def BoxAt (h : Heap) (b ca : Addr) : Prop :=
  ∃ (at_ : Int) (ta : Tok) (c : Int) (tc : Tok) (n : Nat) (vs : List Value) (ns : List Int) (n2 : Nat),
    h.get? b = some (listOf #[.int at_ ta, .ref ca, .int c tc] n) ∧ -1 ≤ at_ ∧ h.get? ca = some (listOf vs.toArray n2) ∧ IntsAre vs ns ∧ vs.length ≤ 40

noncomputable def Cx.off (c : Cx) (a : Addr) : Prop := a ≠ c.L ∧ ∀ p, c.bx = some p → a ≠ p.1 ∧ a ≠ p.2

/-- what is known of a frame's names -/
noncomputable def NsP (h : Heap) (L : Addr) (l : Loc) : Prop := ∃ m, h.Ns L m ∧ ∀ x v, l.lookup x = some v → m x = some v
theorem NsP.of {h : Heap} {L : Addr} {l : Loc} (x : h.Ns L (lo l)) : NsP h L l := ⟨_, x, fun _ _ e => e⟩
theorem NsP.sameBut {h h' : Heap} {L a : Addr} {l : Loc} (x : NsP h L l) (hs : Heap.SameBut a h h') (n : L ≠ a) : NsP h' L l := let ⟨m, y, z⟩ := x; ⟨m, y.sameBut hs n, z⟩
theorem NsP.keeps {h h' : Heap} {L : Addr} {l : Loc} (x : NsP h L l) (k : ∀ b o, h.get? b = some o → h'.get? b = some o) : NsP h' L l := let ⟨m, y, z⟩ := x; ⟨m, y.keeps k, z⟩
theorem NsP.at' {h h' : Heap} {L : Addr} {l : Loc} (x : NsP h L l) (k : ∀ o, h.get? L = some o → h'.get? L = some o) : NsP h' L l := let ⟨m, ⟨o, es, ep, e, r⟩, z⟩ := x; ⟨m, ⟨o, es, ep, k _ e, r⟩, z⟩
theorem NsP.obj {h : Heap} {L : Addr} {l : Loc} (x : NsP h L l) : ∃ o, h.get? L = some o := let ⟨_, ⟨o, _, _, e, _⟩, _⟩ := x; ⟨o, e⟩
theorem NsP.lt {h : Heap} {L : Addr} {l : Loc} (x : NsP h L l) : L < h.objs.size := let ⟨_, y, _⟩ := x; y.lt
theorem NsP.less {h : Heap} {L : Addr} {l l' : Loc} (x : NsP h L l) (k : ∀ x v, l'.lookup x = some v → l.lookup x = some v) : NsP h L l' := let ⟨m, y, z⟩ := x; ⟨m, y, fun a v e => z a v (k a v e)⟩

structure St (c : Cx) (l : Loc) (H : Led) (h : Heap) : Prop where
  ns : NsP h c.L l
  kn : ∀ a o, c.G a = some o → h.get? a = some o ∧ c.off a ∧ a ∉ keys H
  led : ∀ p ∈ H, h.get? p.1 = some p.2 ∧ c.off p.1
  nd : (keys H).Nodup
  bx : ∀ p, c.bx = some p → BoxAt h p.1 p.2 ∧ p.1 ≠ p.2 ∧ p.1 ≠ c.L ∧ p.2 ≠ c.L

noncomputable def Pres (c : Cx) (H : Led) (h h' : Heap) : Prop := ∀ a o, h.get? a = some o → a ∉ keys H → c.off a → h'.get? a = some o
noncomputable def New (H H' : Led) (h : Heap) : Prop := ∀ a ∈ keys H', a ∈ keys H ∨ h.get? a = none
noncomputable def SOk (c : Cx) (s : Shared) : Prop := s.gens = #[] ∧ s.os = c.os

noncomputable def Post {α : Type} (c : Cx) (H : Led) (h : Heap) (Q : α → Loc → Led → Prop) (v : α) (s' : Shared) : Prop :=
  SOk c s' ∧ ∃ l' H', St c l' H' s'.heap ∧ Pres c H h s'.heap ∧ New H H' h ∧ Q v l' H'

noncomputable abbrev PR : Program := PySem.Challenge.rw_pc0164_01.prog

noncomputable def J (w : World) (c : Cx) {α : Type} (t : Sem α) (l : Loc) (H : Led) (Q : α → Loc → Led → Prop) : Prop :=
  ∀ s : Shared, SOk c s → St c l H s.heap → wpAny (model PR w) c.A t (Post c H s.heap Q) (fun _ _ => False) s

/-- one entry of a ledger turned, by its place -/
inductive At (a : Addr) (o o' : Obj) : Led → Led → Prop
  | head {t : Led} : At a o o' ((a, o) :: t) ((a, o') :: t)
  | tail {p : Addr × Obj} {t t' : Led} : At a o o' t t' → At a o o' (p :: t) (p :: t')
  | left {t t' r : Led} : At a o o' t t' → At a o o' (t ++ r) (t' ++ r)
  | right {r t t' : Led} : At a o o' t t' → At a o o' (r ++ t) (r ++ t')

theorem At.split {a : Addr} {o o' : Obj} {H H' : Led} (u : At a o o' H H') : ∃ pre post, H = pre ++ (a, o) :: post ∧ H' = pre ++ (a, o') :: post := by
  induction u with
  | head => exact ⟨[], _, rfl, rfl⟩
  | tail _ ih => obtain ⟨p, q, rfl, rfl⟩ := ih; exact ⟨_ :: p, q, rfl, rfl⟩
  | @left _ _ r _ ih => obtain ⟨p, q, rfl, rfl⟩ := ih; exact ⟨p, q ++ r, by simp, by simp⟩
  | @right r _ _ _ ih => obtain ⟨p, q, rfl, rfl⟩ := ih; exact ⟨r ++ p, q, by simp, by simp⟩
theorem At.mem {a : Addr} {o o' : Obj} {H H' : Led} (u : At a o o' H H') : (a, o) ∈ H := by
  obtain ⟨p, q, rfl, rfl⟩ := u.split; simp
theorem At.keys {a : Addr} {o o' : Obj} {H H' : Led} (u : At a o o' H H') : keys H' = keys H := by
  obtain ⟨p, q, rfl, rfl⟩ := u.split; simp
theorem At.other {a : Addr} {o o' : Obj} {H H' : Led} (u : At a o o' H H') (nd : (Mine.keys H).Nodup) : ∀ p ∈ H', p = (a, o') ∨ (p ∈ H ∧ p.1 ≠ a) := by
  obtain ⟨pre, post, rfl, rfl⟩ := u.split
  intro p hp
  have nd' : (Mine.keys (pre ++ (a, o) :: post)).Nodup := nd
  rw [show Mine.keys (pre ++ (a, o) :: post) = Mine.keys pre ++ a :: Mine.keys post by simp] at nd'
  have n2 := List.nodup_append.mp nd'
  have n3 := List.nodup_cons.mp n2.2.1
  rcases List.mem_append.mp hp with h | h
  · exact .inr ⟨List.mem_append.mpr (.inl h), n2.2.2 p.1 (List.mem_map_of_mem h) a (.head _)⟩
  · rcases List.mem_cons.mp h with h | h
    · exact .inl h
    · exact .inr ⟨List.mem_append.mpr (.inr (.tail _ h)), fun e => n3.1 (e ▸ List.mem_map_of_mem h)⟩

section
variable {c : Cx} {l l' : Loc} {H H' : Led} {h h' : Heap} {α : Type} {Q : α → Loc → Led → Prop} {v : α} {s : Shared} {a : Addr} {o o' : Obj}

theorem mem_keys {p : Addr × Obj} (hp : p ∈ H) : p.1 ∈ keys H := List.mem_map_of_mem hp
theorem Pres.refl : Pres c H h h := fun _ _ e _ _ => e
theorem New.refl : New H H h := fun _ k => .inl k

theorem BoxAt.keep {b ca : Addr} (B : BoxAt h b ca) (k : ∀ o, h.get? b = some o → h'.get? b = some o) (k2 : ∀ o, h.get? ca = some o → h'.get? ca = some o) : BoxAt h' b ca := by
  obtain ⟨at_, ta, c, tc, n, vs, ns, n2, h1, h2, h3, h4⟩ := B
  exact ⟨at_, ta, c, tc, n, vs, ns, n2, k _ h1, h2, k2 _ h3, h4⟩

theorem St.upd (S : St c l H h) (u : At a o o' H H') (hs : Heap.SameBut a h h') (ho : h'.get? a = some o') : St c l H' h' ∧ Pres c H h h' ∧ New H H' h := by
  have m := u.mem
  have la := S.led _ m
  have ha : a ∈ keys H := mem_keys m
  refine ⟨⟨S.ns.sameBut hs (Ne.symm la.2.1), fun b ob e => ?_, fun p hp => ?_, by rw [u.keys]; exact S.nd, fun p hp => ?_⟩, fun b ob e hb _ => ?_, fun b hb => .inl (u.keys ▸ hb)⟩
  · have k := S.kn b ob e
    exact ⟨(hs.2 b fun z => k.2.2 (z ▸ ha)).trans k.1, k.2.1, by rw [u.keys]; exact k.2.2⟩
  · rcases u.other S.nd p hp with rfl | ⟨h1, h2⟩
    · exact ⟨ho, la.2⟩
    · have k := S.led p h1
      exact ⟨(hs.2 _ h2).trans k.1, k.2⟩
  · have k := S.bx p hp
    have n := la.2.2 p hp
    exact ⟨k.1.keep (fun ob e => (hs.2 _ (Ne.symm n.1)).trans e) (fun ob e => (hs.2 _ (Ne.symm n.2)).trans e), k.2⟩
  · exact (hs.2 b fun z => hb (z ▸ ha)).trans e

theorem St.keep (S : St c l H h) (k : ∀ b o, h.get? b = some o → h'.get? b = some o) : St c l H h' ∧ Pres c H h h' ∧ New H H h :=
  ⟨⟨S.ns.keeps k, fun b ob e => have z := S.kn b ob e; ⟨k _ _ z.1, z.2⟩, fun p hp => have z := S.led p hp; ⟨k _ _ z.1, z.2⟩, S.nd, fun p hp => have z := S.bx p hp; ⟨z.1.keep (k _) (k _), z.2⟩⟩, fun b ob e _ _ => k b ob e, New.refl⟩

theorem St.fresh (S : St c l H h) {b : Addr} (hb : h.get? b = none) : c.off b ∧ b ∉ keys H ∧ c.G b = none := by
  refine ⟨⟨fun z => ?_, fun p hp => ⟨fun z => ?_, fun z => ?_⟩⟩, fun z => ?_, ?_⟩
  · obtain ⟨_, e⟩ := S.ns.obj
    rw [z, e] at hb; cases hb
  · obtain ⟨_, _, _, _, _, _, _, _, e, _⟩ := (S.bx p hp).1
    rw [z, e] at hb; cases hb
  · obtain ⟨_, _, _, _, _, _, _, _, _, _, e, _⟩ := (S.bx p hp).1
    rw [z, e] at hb; cases hb
  · obtain ⟨p, hp, rfl⟩ := List.mem_map.mp z
    rw [(S.led p hp).1] at hb; cases hb
  · cases q : c.G b with
    | none => rfl
    | some o => rw [(S.kn b o q).1] at hb; cases hb

theorem Heap.none_size (h : Heap) : h.get? h.objs.size = none := by
  cases q : h.get? h.objs.size with
  | none => rfl
  | some o => exact absurd (Heap.lt_size q) (Nat.lt_irrefl _)

/-- a new object that the ledger is to hold -/
theorem St.alloc (S : St c l H h) (k : ∀ b o, h.get? b = some o → h'.get? b = some o) (hb : h.get? a = none) (ho : h'.get? a = some o) : St c l ((a, o) :: H) h' ∧ Pres c H h h' ∧ New H ((a, o) :: H) h := by
  have f := S.fresh hb
  obtain ⟨S', P, _⟩ := S.keep k
  refine ⟨⟨S'.ns, fun b ob e => ?_, fun p hp => ?_, List.nodup_cons.mpr ⟨f.2.1, S'.nd⟩, S'.bx⟩, P, fun b hb' => ?_⟩
  · have z := S'.kn b ob e
    refine ⟨z.1, z.2.1, fun q => ?_⟩
    rcases List.mem_cons.mp q with q | q
    · have y := f.2.2; have q' : b = a := q; rw [← q', e] at y; cases y
    · exact z.2.2 q
  · rcases List.mem_cons.mp hp with rfl | hp
    · exact ⟨ho, f.1⟩
    · exact S'.led p hp
  · rcases List.mem_cons.mp hb' with q | q
    · exact .inr (q ▸ hb)
    · exact .inl q

theorem St.locals (S : St c l H h) (hs : Heap.SameBut c.L h h') (hn : NsP h' c.L l') : St c l' H h' ∧ Pres c H h h' ∧ New H H h := by
  refine ⟨⟨hn, fun b ob e => ?_, fun p hp => ?_, S.nd, fun p hp => ?_⟩, fun b ob e _ hb => (hs.2 b hb.1).trans e, New.refl⟩
  · have k := S.kn b ob e; exact ⟨(hs.2 b k.2.1.1).trans k.1, k.2⟩
  · have k := S.led p hp; exact ⟨(hs.2 _ k.2.1).trans k.1, k.2⟩
  · have k := S.bx p hp; exact ⟨k.1.keep (fun ob e => (hs.2 _ k.2.2.1).trans e) (fun ob e => (hs.2 _ k.2.2.2).trans e), k.2⟩

theorem Post.of (ok : SOk c s) (h3 : St c l' H' h' ∧ Pres c H s.heap h' ∧ New H H' s.heap) {tk : Nat} (q : Q v l' H') : Post c H s.heap Q v ⟨h', s.gens, s.drawn, tk, s.os⟩ := ⟨ok, l', H', h3.1, h3.2.1, h3.2.2, q⟩
theorem Post.same (ok : SOk c s) (S : St c l H s.heap) {tk : Nat} (q : Q v l H) : Post c H s.heap Q v ⟨s.heap, s.gens, s.drawn, tk, s.os⟩ := Post.of ok ⟨S, Pres.refl, New.refl⟩ q
theorem Post.self (ok : SOk c s) (S : St c l H s.heap) (q : Q v l H) : Post c H s.heap Q v s := Post.same ok S q

theorem Pres.trans {h₁ h₂ : Heap} (_ : St c l' H' h₁) (p : Pres c H h h₁) (n : New H H' h) (p' : Pres c H' h₁ h₂) : Pres c H h h₂ := fun b ob e hb ho => p' b ob (p b ob e hb ho) (fun q => (n b q).elim hb fun z => by rw [e] at z; cases z) ho
theorem New.trans {H'' : Led} {h₁ : Heap} (p : Pres c H h h₁) (S'' : ∀ b ∈ keys H'', c.off b) (n : New H H' h) (n' : New H' H'' h₁) : New H H'' h := fun b hb => by
  rcases n' b hb with q | q
  · exact n b q
  · by_cases z : b ∈ keys H
    · exact .inl z
    · right
      cases e : h.get? b with
      | none => rfl
      | some ob => rw [p b ob e z (S'' b hb)] at q; cases q
theorem Post.after {h₁ : Heap} {s' : Shared} (S : St c l' H' h₁) (p : Pres c H h h₁) (n : New H H' h) (x : Post c H' h₁ Q v s') : Post c H h Q v s' := by
  obtain ⟨ok, l2, H2, S2, p2, n2, q⟩ := x
  refine ⟨ok, l2, H2, S2, Pres.trans S p n p2, New.trans p (fun b hb => ?_) n n2, q⟩
  obtain ⟨r, hr, rfl⟩ := List.mem_map.mp hb
  exact (S2.led r hr).2
theorem Post.mono {Q' : α → Loc → Led → Prop} {s' : Shared} (x : Post c H h Q v s') (k : ∀ l' H', Q v l' H' → Q' v l' H') : Post c H h Q' v s' := by
  obtain ⟨ok, l2, H2, S2, p2, n2, q⟩ := x
  exact ⟨ok, l2, H2, S2, p2, n2, k _ _ q⟩
end

section
variable {w : World} {c : Cx} {l : Loc} {H : Led} {α β : Type} {t : Sem α}

theorem J.mono {Q Q' : α → Loc → Led → Prop} (x : J w c t l H Q) (k : ∀ v l' H', Q v l' H' → Q' v l' H') : J w c t l H Q' := fun s ok S =>
  wpAny_mono (x s ok S) (fun _ _ p => p.mono (k _)) fun _ _ e => e
theorem J_pure {Q : α → Loc → Led → Prop} {v : α} (q : Q v l H) : J w c (pure v) l H Q := fun _ ok S => wpAny_pure (Post.self ok S q)

theorem J_rule1 {t' : Sem α} {Q : α → Loc → Led → Prop}
    (r : ∀ (Q : α → Shared → Prop) (E : Value → Shared → Prop) (s : Shared), wpAny (model PR w) c.A t Q E s → wpAny (model PR w) c.A t' Q E s)
    (x : J w c t l H Q) : J w c t' l H Q := fun s ok S => r _ _ s (x s ok S)

theorem J_forget {l' : Loc} {Q : α → Loc → Led → Prop} (k : ∀ x v, l'.lookup x = some v → l.lookup x = some v) (x : J w c t l' H Q) : J w c t l H Q := fun s ok S => x s ok ⟨S.ns.less k, S.kn, S.led, S.nd, S.bx⟩
theorem J_nd {Q : α → Loc → Led → Prop} (x : (keys H).Nodup → J w c t l H Q) : J w c t l H Q := fun s ok S => x S.nd s ok S

/-- the ledger in another order, or some of it forgotten -/
theorem J_sub {H₁ : Led} {Q : α → Loc → Led → Prop} (hs : ∀ p ∈ H₁, p ∈ H) (hn : (keys H).Nodup → (keys H₁).Nodup) (x : J w c t l H₁ Q) : J w c t l H Q := by
  intro s ok S
  have sub : ∀ a ∈ keys H₁, a ∈ keys H := fun a ha => by
    obtain ⟨p, hp, rfl⟩ := List.mem_map.mp ha
    exact mem_keys (hs p hp)
  have S₁ : St c l H₁ s.heap := ⟨S.ns, fun a o e => have z := S.kn a o e; ⟨z.1, z.2.1, fun q => z.2.2 (sub a q)⟩, fun p hp => S.led p (hs p hp), hn S.nd, S.bx⟩
  refine wpAny_mono (x s ok S₁) (fun v s' P => ?_) fun _ _ e => e
  obtain ⟨ok', l', H', S', p', n', q⟩ := P
  exact ⟨ok', l', H', S', fun a o e ha ho => p' a o e (fun q => ha (sub a q)) ho, fun a ha => (n' a ha).imp (sub a) id, q⟩

/-- what is known more -/
theorem J_know {c₁ : Cx} {Q : α → Loc → Led → Prop} (hA : c₁.A = c.A) (hL : c₁.L = c.L) (hb : c₁.bx = c.bx) (ho : c₁.os = c.os) (hG : ∀ a o, c₁.G a = some o → c.G a = some o) (x : J w c₁ t l H Q) : J w c t l H Q := by
  obtain ⟨A₁, G₁, L₁, b₁, os₁⟩ := c₁
  obtain ⟨A, G, L, b, os⟩ := c
  dsimp only at hA hL hb ho hG
  subst hA hL hb ho
  intro s ok S
  refine wpAny_mono (x s ok ⟨S.ns, fun a o e => S.kn a o (hG a o e), S.led, S.nd, S.bx⟩) (fun v s' P => ?_) fun _ _ e => e
  obtain ⟨ok', l', H', S', p', n', q⟩ := P
  refine ⟨ok', l', H', ⟨S'.ns, fun a o e => have z := S.kn a o e; ⟨p' a o z.1 z.2.2 z.2.1, z.2.1, fun q => ?_⟩, S'.led, S'.nd, S'.bx⟩, p', n', q⟩
  rcases n' a q with y | y
  · exact z.2.2 y
  · rw [z.1] at y; cases y

noncomputable def Gu (G : Addr → Option Obj) (R : Led) : Addr → Option Obj := fun a => match R.lookup a with | some o => some o | none => G a
theorem Gu_mem {G : Addr → Option Obj} : ∀ {R : Led} {a : Addr} {o : Obj}, (keys R).Nodup → (a, o) ∈ R → Gu G R a = some o := by
  intro R a o nd m
  have : R.lookup a = some o := by
    induction R with
    | nil => cases m
    | cons p r ih =>
      obtain ⟨b, ob⟩ := p
      have nd' := List.nodup_cons.mp nd
      rw [List.lookup_cons]
      cases m with
      | head => simp
      | tail _ m =>
        have : (a == b) = false := by
          rw [beq_eq_false_iff_ne]; intro z; subst z; exact nd'.1 (mem_keys (p := (a, o)) m)
        rw [this]; exact ih nd'.2 m
  unfold Gu; rw [this]
theorem lookup_mem : ∀ {R : Led} {a : Addr} {o : Obj}, R.lookup a = some o → (a, o) ∈ R := by
  intro R a o e
  induction R with
  | nil => cases e
  | cons p r ih =>
    obtain ⟨b, ob⟩ := p
    rw [List.lookup_cons] at e
    split at e
    · rename_i q; cases e; rw [beq_iff_eq.mp q]; exact .head _
    · exact .tail _ (ih e)
theorem Gu_cases {G : Addr → Option Obj} {R : Led} {a : Addr} {o : Obj} (e : Gu G R a = some o) : (a, o) ∈ R ∨ G a = some o := by
  unfold Gu at e
  cases q : R.lookup a with
  | some x => rw [q] at e; cases e; exact .inl (lookup_mem q)
  | none => rw [q] at e; exact .inr e
theorem Gu_up {G : Addr → Option Obj} {R : Led} {a : Addr} {o : Obj} (n : a ∉ keys R) (e : G a = some o) : Gu G R a = some o := by
  unfold Gu
  cases q : R.lookup a with
  | some x => exact absurd (mem_keys (lookup_mem q)) n
  | none => exact e
/-- a part of the ledger held fast: it is known, and stands as it stood -/
theorem J_freeze {R H₁ : Led} {Q : α → Loc → Led → Prop}
    (x : ∀ G', (∀ a o, c.G a = some o → G' a = some o) → (∀ p ∈ R, G' p.1 = some p.2) → J w { c with G := G' } t l H₁ fun v l' H₁' => (∀ p ∈ H₁', ∀ q ∈ R, p.1 ≠ q.1) → Q v l' (H₁' ++ R)) : J w c t l (H₁ ++ R) Q := by
  intro s ok S
  have kk : keys (H₁ ++ R) = keys H₁ ++ keys R := by simp
  have nd := S.nd
  rw [kk] at nd
  have nd' := List.nodup_append.mp nd
  have off : ∀ r ∈ R, r.1 ∉ keys H₁ := fun r hr z => nd'.2.2 r.1 z r.1 (mem_keys hr) rfl
  have inR : ∀ p ∈ R, Gu c.G R p.1 = some p.2 := fun p hp => Gu_mem nd'.2.1 hp
  have S₁ : St { c with G := Gu c.G R } l H₁ s.heap := ⟨S.ns, fun a o e => by
    rcases Gu_cases e with m | e
    · have z := S.led _ (List.mem_append.mpr (.inr m))
      exact ⟨z.1, z.2, off _ m⟩
    · have z := S.kn a o e
      exact ⟨z.1, z.2.1, fun q => z.2.2 (by rw [kk]; exact List.mem_append.mpr (.inl q))⟩, fun p hp => S.led p (List.mem_append.mpr (.inl hp)), nd'.1, S.bx⟩
  have up : ∀ a o, c.G a = some o → Gu c.G R a = some o := fun a o e => Gu_up (fun q => (S.kn a o e).2.2 (by rw [kk]; exact List.mem_append.mpr (.inr q))) e
  refine wpAny_mono (x _ up inR s ok S₁) (fun v s' P => ?_) fun _ _ e => e
  obtain ⟨ok', l', H', S', p', n', q⟩ := P
  have there : ∀ r ∈ R, s'.heap.get? r.1 = some r.2 ∧ c.off r.1 := fun r hr => have z := S.led r (List.mem_append.mpr (.inr hr)); ⟨p' _ _ z.1 (off r hr) z.2, z.2⟩
  have apart : ∀ p ∈ H', ∀ r ∈ R, p.1 ≠ r.1 := fun p hp r hr z => by
    rcases n' p.1 (mem_keys hp) with y | y
    · exact off r hr (z ▸ y)
    · rw [z, (S.led r (List.mem_append.mpr (.inr hr))).1] at y; cases y
  have kk' : keys (H' ++ R) = keys H' ++ keys R := by simp
  refine ⟨ok', l', H' ++ R, ⟨S'.ns, fun a o e => have z := S'.kn a o (up a o e); ⟨z.1, z.2.1, fun q => ?_⟩, fun p hp => ?_, ?_, S'.bx⟩, fun a o e ha ho => p' a o e (fun q => ha (by rw [kk]; exact List.mem_append.mpr (.inl q))) ho, fun a ha => ?_, q apart⟩
  · rw [kk'] at q
    rcases List.mem_append.mp q with q | q
    · exact z.2.2 q
    · exact (S.kn a o e).2.2 (by rw [kk]; exact List.mem_append.mpr (.inr q))
  · rcases List.mem_append.mp hp with hp | hp
    · exact S'.led p hp
    · exact there p hp
  · rw [kk']
    refine List.nodup_append.mpr ⟨S'.nd, nd'.2.1, fun a ha b hb z => ?_⟩
    obtain ⟨p, hp, rfl⟩ := List.mem_map.mp ha
    obtain ⟨r, hr, rfl⟩ := List.mem_map.mp hb
    exact apart p hp r hr z
  · rw [kk'] at ha
    rw [kk]
    rcases List.mem_append.mp ha with ha | ha
    · exact (n' a ha).imp (fun z => List.mem_append.mpr (.inl z)) id
    · exact .inl (List.mem_append.mpr (.inr ha))
theorem J_frame {R H₁ : Led} {Q : α → Loc → Led → Prop} (x : J w c t l H₁ fun v l' H₁' => (∀ p ∈ H₁', ∀ q ∈ R, p.1 ≠ q.1) → Q v l' (H₁' ++ R)) : J w c t l (H₁ ++ R) Q :=
  J_freeze fun G' hG _ => J_know (c₁ := c) rfl rfl rfl rfl hG x
end
end

-- J1
section
open PySem PySem.W PyProof.Rows PySem.Calls PySem.Spec
/-- a state reached since (H₀, h₀), where the frame stands at (l, H) -/
structure Re (c : Cx) (H₀ : Led) (h₀ : Heap) (l : Loc) (H : Led) (s : Shared) : Prop where
  ok : SOk c s
  st : St c l H s.heap
  pr : Pres c H₀ h₀ s.heap
  nw : New H₀ H h₀

-- what is to come, by name (the rules' own words for the rest)
section
variable (w : World) (c : Cx) (env : Env)
@[reducible] noncomputable def KRest (rest : List Stmt) (Q : Flow → Loc → Led → Prop) : Loc → Led → Prop := fun l H => J w c (execs rest env) l H Q
@[reducible] noncomputable def KIf (body orelse : List Stmt) (Q : Flow → Loc → Led → Prop) : Bool → Loc → Led → Prop := fun b l H => if b then J w c (execs body env) l H Q else J w c (execs orelse env) l H Q
@[reducible] noncomputable def KStore (y : Str) (Q : Flow → Loc → Led → Prop) : Value → Loc → Led → Prop := fun v l H => J w c (storeName env y v) l H (fun _ l H => Q .next l H)
@[reducible] noncomputable def KAsg (t : Expr) (Q : Flow → Loc → Led → Prop) : Value → Loc → Led → Prop := fun v l H => J w c (assign t env v) l H (fun _ l H => Q .next l H)
@[reducible] noncomputable def KAttrO (attr : Str) (v : Value) (Q : Flow → Loc → Led → Prop) : Value → Loc → Led → Prop := fun ov l H => J w c (setAttr ov attr v) l H (fun _ l H => Q .next l H)
@[reducible] noncomputable def KAttrV (o : Expr) (attr : Str) (Q : Flow → Loc → Led → Prop) : Value → Loc → Led → Prop := fun v l H => J w c (eval o env) l H (KAttrO w c attr v Q)
@[reducible] noncomputable def KSubI (ov v : Value) (Q : Flow → Loc → Led → Prop) : Value → Loc → Led → Prop := fun iv l H => J w c (setItem ov iv v) l H (fun _ l H => Q .next l H)
@[reducible] noncomputable def KSubO (i : Expr) (v : Value) (Q : Flow → Loc → Led → Prop) : Value → Loc → Led → Prop := fun ov l H => J w c (eval i env) l H (KSubI w c ov v Q)
@[reducible] noncomputable def KSubV (o i : Expr) (Q : Flow → Loc → Led → Prop) : Value → Loc → Led → Prop := fun v l H => J w c (eval o env) l H (KSubO w c env i v Q)
@[reducible] noncomputable def KUnit (Q : Unit → Loc → Led → Prop) : Unit → Loc → Led → Prop := fun _ l H => Q () l H
@[reducible] noncomputable def KAttrU (attr : Str) (v : Value) (Q : Unit → Loc → Led → Prop) : Value → Loc → Led → Prop := fun ov l H => J w c (setAttr ov attr v) l H (KUnit Q)
@[reducible] noncomputable def KThen {α β : Type} (t : Sem β) (Q : β → Loc → Led → Prop) : α → Loc → Led → Prop := fun _ l H => J w c t l H Q
@[reducible] noncomputable def KBin2 (op : Operator) (a : Value) (Q : Value → Loc → Led → Prop) : Value → Loc → Led → Prop := fun b l H => J w c (binaryOp op a b) l H Q
@[reducible] noncomputable def KBin (e : Expr) (op : Operator) (Q : Value → Loc → Led → Prop) : Value → Loc → Led → Prop := fun a l H => J w c (eval e env) l H (KBin2 w c op a Q)
@[reducible] noncomputable def KUn (op : UnaryOp) (Q : Value → Loc → Led → Prop) : Value → Loc → Led → Prop := fun a l H => J w c (unaryOp op a) l H Q
@[reducible] noncomputable def KIfE (body orelse : Expr) (Q : Value → Loc → Led → Prop) : Bool → Loc → Led → Prop := fun b l H => if b then J w c (eval body env) l H Q else J w c (eval orelse env) l H Q
@[reducible] noncomputable def KCmp2 (op : CmpOp) (a : Value) (Q : Value → Loc → Led → Prop) : Value → Loc → Led → Prop := fun b l H => J w c (compareOp op a b) l H Q
@[reducible] noncomputable def KCmp (e : Expr) (op : CmpOp) (Q : Value → Loc → Led → Prop) : Value → Loc → Led → Prop := fun a l H => J w c (eval e env) l H (KCmp2 w c op a Q)
@[reducible] noncomputable def KTruth (Q : Bool → Loc → Led → Prop) : Value → Loc → Led → Prop := fun r l H => J w c (truthy r) l H Q
@[reducible] noncomputable def KChain (pos : Pos) (op₁ op₂ : CmpOp) (e₂ e₃ : Expr) (Q : Bool → Loc → Led → Prop) : Value → Loc → Led → Prop := fun a l H => J w c (testChain pos a [op₁, op₂] [eval e₂ env, eval e₃ env]) l H Q
@[reducible] noncomputable def KNot (Q : Bool → Loc → Led → Prop) : Bool → Loc → Led → Prop := fun b l H => Q (!b) l H
@[reducible] noncomputable def KAllAnd (rest : List Expr) (Q : Bool → Loc → Led → Prop) : Bool → Loc → Led → Prop := fun b l H => if b then J w c (allTrue .And rest env) l H Q else Q false l H
@[reducible] noncomputable def KAllOr (rest : List Expr) (Q : Bool → Loc → Led → Prop) : Bool → Loc → Led → Prop := fun b l H => if b then Q true l H else J w c (allTrue .Or rest env) l H Q
@[reducible] noncomputable def KTup (Q : Value → Loc → Led → Prop) : List Value → Loc → Led → Prop := fun vs l H => J w c (newTuple vs) l H Q
@[reducible] noncomputable def KLst (Q : Value → Loc → Led → Prop) : List Value → Loc → Led → Prop := fun vs l H => J w c (newList vs) l H Q
@[reducible] noncomputable def KCons (v : Value) (Q : List Value → Loc → Led → Prop) : List Value → Loc → Led → Prop := fun vs l H => Q (v :: vs) l H
@[reducible] noncomputable def KArgs (rest : List Expr) (pos : Pos) (Q : List Value → Loc → Led → Prop) : Value → Loc → Led → Prop := fun v l H => J w c (spliced (backTo pos (starEach rest env))) l H (KCons v Q)
@[reducible] noncomputable def KCallW (pos : Pos) (args : List Expr) (Q : Value → Loc → Led → Prop) : Value → Loc → Led → Prop := fun f l H => J w c (callWith pos f [] (backTo pos (starEach args env)) []) l H Q
@[reducible] noncomputable def KMeth2 (pos : Pos) (args : List Expr) (Q : Value → Loc → Led → Prop) : Value × List Value → Loc → Led → Prop := fun fx l H => J w c (callWith pos fx.1 fx.2 (backTo pos (starEach args env)) []) l H Q
@[reducible] noncomputable def KMeth (name : Str) (pl : Sem Bool) (pos : Pos) (args : List Expr) (Q : Value → Loc → Led → Prop) : Value → Loc → Led → Prop := fun ov l H => J w c (getMethod ov name pl) l H (KMeth2 w c env pos args Q)
@[reducible] noncomputable def KCall (f : Value) (Q : Value → Loc → Led → Prop) : List Value → Loc → Led → Prop := fun vs l H => J w c (call f vs) l H Q
@[reducible] noncomputable def KCallS (f self : Value) (Q : Value → Loc → Led → Prop) : List Value → Loc → Led → Prop := fun vs l H => J w c (call f (self :: vs)) l H Q
@[reducible] noncomputable def KGet (attr : Str) (Q : Value → Loc → Led → Prop) : Value → Loc → Led → Prop := fun v l H => J w c (getAttr v attr true) l H Q
@[reducible] noncomputable def KIdx2 (value slice : Expr) (o : Value) (Q : Value → Loc → Led → Prop) : Value → Loc → Led → Prop := fun i l H => J w c (subscriptTail value slice o i) l H Q
@[reducible] noncomputable def KIdx (value slice : Expr) (Q : Value → Loc → Led → Prop) : Value → Loc → Led → Prop := fun o l H => J w c (eval slice env) l H (KIdx2 w c value slice o Q)
end

section
variable {w : World} {c : Cx} {l l' : Loc} {H H' H₀ : Led} {h₀ h' : Heap} {α β : Type} {t : Sem α} {Q : α → Loc → Led → Prop} {v : α} {s : Shared} {a : Addr} {o o' : Obj} {tk : Nat} {env : Env}

theorem Re.post (re : Re c H₀ h₀ l H s) (q : Q v l H) : Post c H₀ h₀ Q v s := ⟨re.ok, l, H, re.st, re.pr, re.nw, q⟩
theorem Re.go (re : Re c H₀ h₀ l H s) (x : St c l' H' h' ∧ Pres c H s.heap h' ∧ New H H' s.heap) : Re c H₀ h₀ l' H' ⟨h', s.gens, s.drawn, tk, s.os⟩ :=
  ⟨re.ok, x.1, Pres.trans re.st re.pr re.nw x.2.1, New.trans re.pr (fun b hb => by obtain ⟨r, hr, rfl⟩ := List.mem_map.mp hb; exact (x.1.led r hr).2) re.nw x.2.2⟩
theorem Re.tok (re : Re c H₀ h₀ l H s) : Re c H₀ h₀ l H ⟨s.heap, s.gens, s.drawn, tk, s.os⟩ := re.go ⟨re.st, Pres.refl, New.refl⟩
theorem Re.upd (re : Re c H₀ h₀ l H s) (u : At a o o' H H') (hs : Heap.SameBut a s.heap h') (ho : h'.get? a = some o') : Re c H₀ h₀ l H' ⟨h', s.gens, s.drawn, tk, s.os⟩ := re.go (re.st.upd u hs ho)
theorem Re.push (re : Re c H₀ h₀ l H s) (o : Obj) (hf : o.isFreed = false := by with_unfolding_all rfl) : Re c H₀ h₀ l ((s.heap.objs.size, o) :: H) ⟨s.heap.push o, s.gens, s.drawn, tk, s.os⟩ :=
  re.go (re.st.alloc (fun _ _ e => Heap.get?_push_of_some _ e) (Heap.none_size _) (Heap.get?_push_size _ hf))
theorem Re.keep (re : Re c H₀ h₀ l H s) (k : ∀ b o, s.heap.get? b = some o → h'.get? b = some o) : Re c H₀ h₀ l H ⟨h', s.gens, s.drawn, tk, s.os⟩ := re.go (re.st.keep k)
theorem Re.alloc (re : Re c H₀ h₀ l H s) (k : ∀ b o, s.heap.get? b = some o → h'.get? b = some o) (hb : s.heap.get? a = none) (ho : h'.get? a = some o) : Re c H₀ h₀ l ((a, o) :: H) ⟨h', s.gens, s.drawn, tk, s.os⟩ := re.go (re.st.alloc k hb ho)
theorem Re.loc (re : Re c H₀ h₀ l H s) (hs : Heap.SameBut c.L s.heap h') (hn : NsP h' c.L l') : Re c H₀ h₀ l' H ⟨h', s.gens, s.drawn, tk, s.os⟩ := re.go (re.st.locals hs hn)

theorem J.mk (x : ∀ H₀ h₀ s, Re c H₀ h₀ l H s → wpAny (model PR w) c.A t (Post c H₀ h₀ Q) (fun _ _ => False) s) : J w c t l H Q := fun s ok S => x H s.heap s ⟨ok, S, Pres.refl, New.refl⟩
theorem J.use (x : J w c t l H Q) (re : Re c H₀ h₀ l H s) : wpAny (model PR w) c.A t (Post c H₀ h₀ Q) (fun _ _ => False) s :=
  wpAny_mono (x s re.ok re.st) (fun _ _ p => p.after re.st re.pr re.nw) fun _ _ e => e
theorem J.to {R : α → Shared → Prop} (x : J w c t l H Q) (re : Re c H₀ h₀ l H s) (k : ∀ v s' l' H', Re c H₀ h₀ l' H' s' → Q v l' H' → R v s') : wpAny (model PR w) c.A t R (fun _ _ => False) s :=
  wpAny_mono (x.use re) (fun v s' p => by obtain ⟨ok, l', H', S, pr, nw, q⟩ := p; exact k v s' l' H' ⟨ok, S, pr, nw⟩ q) fun _ _ e => e

-- statements
theorem J_execs_nil {Q : Flow → Loc → Led → Prop} (q : Q .next l H) : J w c (execs [] env) l H Q := .mk fun _ _ _ re => wpAny_execs_nil (re.post q)
noncomputable def Fl (Q : Flow → Loc → Led → Prop) (K : Loc → Led → Prop) (f : Flow) (l : Loc) (H : Led) : Prop := match f with | .next => K l H | f => Q f l H
theorem Fl_next {Q : Flow → Loc → Led → Prop} {K : Loc → Led → Prop} (h : K l H) : Fl Q K .next l H := h
theorem Fl_ret {Q : Flow → Loc → Led → Prop} {K : Loc → Led → Prop} {v : Value} (h : Q (.ret v) l H) : Fl Q K (.ret v) l H := h
theorem J_ite {p : Bool} {A B : Prop} (x : p = true → A) (y : p = false → B) : if p then A else B := by cases p <;> simp_all
theorem J_ite_t {A B : Prop} (x : A) : if true then A else B := x
theorem J_ite_f {A B : Prop} (y : B) : if false then A else B := y
theorem J_execs_cons {st : Stmt} {rest : List Stmt} {Q : Flow → Loc → Led → Prop}
    (x : J w c (exec st env) l H (Fl Q (KRest w c env rest Q))) : J w c (execs (st :: rest) env) l H Q :=
  .mk fun _ _ _ re => wpAny_execs_cons (x.to re fun f _ _ _ re q => by cases f with
    | next => exact q.use re
    | brk => exact re.post q
    | cont => exact re.post q
    | ret v => exact re.post q)
theorem J_Expr {e pos} {Q : Flow → Loc → Led → Prop} (x : J w c (eval e env) l H (fun _ l H => Q .next l H)) (hi : interactive env = false := by with_unfolding_all rfl) (hs : swapsWith e none pos.line env = pure false := by with_unfolding_all rfl) : J w c (exec (.Expr e pos) env) l H Q :=
  .mk fun _ _ _ re => wpAny_Expr_any (x.to re fun _ _ _ _ re q => re.post q) hi hs
theorem J_Return {e pos} {Q : Flow → Loc → Led → Prop} (x : J w c (eval e env) l H (fun v l H => Q (.ret v) l H)) : J w c (exec (.Return (some e) pos) env) l H Q :=
  .mk fun _ _ _ re => wpAny_Return_some (x.to re fun _ _ _ _ re q => re.post q)
theorem J_If {test body orelse pos} {Q : Flow → Loc → Led → Prop}
    (x : J w c (isTrue test env (eval test env)) l H (KIf w c env body orelse Q)) : J w c (exec (.If test body orelse pos) env) l H Q :=
  .mk fun _ _ _ re => wpAny_If (x.to re fun b _ _ _ re q => by cases b <;> exact J.use q re)
theorem J_Assign_Name {y pos' value pos} {Q : Flow → Loc → Led → Prop}
    (x : J w c (eval value env) l H (KStore w c env y Q)) (hs : swapsWith value (some (.Name y pos')) pos.line env = pure false := by with_unfolding_all rfl) : J w c (exec (.Assign [.Name y pos'] value pos) env) l H Q :=
  .mk fun _ _ _ re => wpAny_Assign_Name (x.to re fun _ _ _ _ re q => q.to re fun _ _ _ _ re q => re.post q) hs
theorem J_Assign_Tuple {elts k tpos value pos} {Q : Flow → Loc → Led → Prop}
    (x : J w c (eval value env) l H (KAsg w c env (.Tuple elts k tpos) Q))
    (hs : swapsWithSole [.Tuple elts k tpos] value pos.line env = pure false := by with_unfolding_all rfl) (hw : swappedStores [.Tuple elts k tpos] value env = pure none := by with_unfolding_all rfl) : J w c (exec (.Assign [.Tuple elts k tpos] value pos) env) l H Q :=
  .mk fun _ _ _ re => Assign_Tuple (x.to re fun _ _ _ _ re q => q.to re fun _ _ _ _ re q => re.post q) hs hw
theorem J_Assign_Tuple_swapped {elts k tpos value pos} {names : List Str} {Q : Flow → Loc → Led → Prop}
    (x : J w c (eval value env) l H fun v l₁ H₁ => J w c (unpackItems v names.length none) l₁ H₁ fun items l₂ H₂ => J w c (assignInOrder (names.reverse.map fun n => bindName env n) items.reverse) l₂ H₂ fun _ l₃ H₃ => Q .next l₃ H₃)
    (hs : swapsWithSole [.Tuple elts k tpos] value pos.line env = pure false := by with_unfolding_all rfl) (hw : swappedStores [.Tuple elts k tpos] value env = pure (some names) := by with_unfolding_all rfl) : J w c (exec (.Assign [.Tuple elts k tpos] value pos) env) l H Q :=
  .mk fun _ _ _ re => Assign_Tuple_swapped (x.to re fun _ _ _ _ re q => q.to re fun _ _ _ _ re q => q.to re fun _ _ _ _ re q => re.post q) hs hw
theorem J_Assign_Attr {o attr pos' value pos} {Q : Flow → Loc → Led → Prop}
    (x : J w c (eval value env) l H (KAttrV w c env o attr Q))
    (hs : swapsWith value (some (.Attribute o attr pos')) pos.line env = pure false := by with_unfolding_all rfl) : J w c (exec (.Assign [.Attribute o attr pos'] value pos) env) l H Q :=
  .mk fun _ _ _ re => plainObj_wpAny_Assign_Attribute (x.to re fun _ _ _ _ re q => q.to re fun _ _ _ _ re q => q.to re fun _ _ _ _ re q => re.post q) hs
theorem J_Assign_Sub {o i pos' value pos} {Q : Flow → Loc → Led → Prop}
    (x : J w c (eval value env) l H (KSubV w c env o i Q))
    (hs : swapsWith value (some (.Subscript o i pos')) pos.line env = pure false := by with_unfolding_all rfl) : J w c (exec (.Assign [.Subscript o i pos'] value pos) env) l H Q :=
  .mk fun _ _ _ re => wpAny_Assign_Subscript (x.to re fun _ _ _ _ re q => q.to re fun _ _ _ _ re q => q.to re fun _ _ _ _ re q => q.to re fun _ _ _ _ re q => re.post q) hs

-- targets
theorem J_assign_Name {y pos} {v : Value} {Q : Unit → Loc → Led → Prop} (x : J w c (storeName env y v) l H Q) : J w c (assign (.Name y pos) env v) l H Q := .mk fun _ _ _ re => PyProof.Rows.assign_Name (x.use re)
theorem J_bindName {y} {v : Value} {Q : Unit → Loc → Led → Prop} (x : J w c (storeName env y v) l H Q) : J w c (bindName env y v) l H Q := .mk fun _ _ _ re => bindName_ (x.use re)
theorem J_assign_Attr {o : Expr} {attr : Str} {pos : Pos} {v : Value} {Q : Unit → Loc → Led → Prop} (x : J w c (eval o env) l H (KAttrU w c attr v Q)) : J w c (assign (.Attribute o attr pos) env v) l H Q :=
  .mk fun _ _ _ re => by
    rw [assign_Attribute]
    refine wpAny_bind (wpAny_holding (x.to re fun _ _ _ _ re q => wpAny_bind (wpAny_standAt (wpAny_bind (wpAny_holding (q.to re fun _ _ _ _ re q => ?_))))))
    intro Γ p _
    simp only [Sem.wp_release]
    exact re.post q
theorem J_inOrder_cons {f : Value → Sem Unit} {fs : List (Value → Sem Unit)} {y : Value} {ys : List Value} {Q : Unit → Loc → Led → Prop} (x : J w c (f y) l H (KThen w c (assignInOrder fs ys) Q)) : J w c (assignInOrder (f :: fs) (y :: ys)) l H Q :=
  .mk fun _ _ _ re => assignInOrder_cons (x.to re fun _ _ _ _ re q => q.use re)
theorem J_inOrder_nil {ys : List Value} {Q : Unit → Loc → Led → Prop} (q : Q () l H) : J w c (assignInOrder [] ys) l H Q := .mk fun _ _ _ re => assignInOrder_nil (re.post q)

-- expressions
theorem J_BinOp {e₁ op e₂ pos} {Q : Value → Loc → Led → Prop} (x : J w c (eval e₁ env) l H (KBin w c env e₂ op Q)) : J w c (eval (.BinOp e₁ op e₂ pos) env) l H Q :=
  .mk fun _ _ _ re => wpAny_BinOp (x.to re fun _ _ _ _ re q => q.to re fun _ _ _ _ re q => q.use re)
theorem J_UnaryOp {op e pos} {Q : Value → Loc → Led → Prop} (x : J w c (eval e env) l H (KUn w c op Q)) : J w c (eval (.UnaryOp op e pos) env) l H Q :=
  .mk fun _ _ _ re => wpAny_UnaryOp (x.to re fun _ _ _ _ re q => q.use re)
theorem J_IfExp {test body orelse pos} {Q : Value → Loc → Led → Prop} (x : J w c (isTrue test env (eval test env)) l H (KIfE w c env body orelse Q)) : J w c (eval (.IfExp test body orelse pos) env) l H Q :=
  .mk fun _ _ _ re => wpAny_IfExp (x.to re fun b _ _ _ re q => by cases b <;> exact J.use q re)
theorem J_Compare1 {e₁ op e₂ pos} {Q : Value → Loc → Led → Prop} (x : J w c (eval e₁ env) l H (KCmp w c env e₂ op Q)) (hm : behindInMarks op e₂ = false := by with_unfolding_all rfl) : J w c (eval (.Compare e₁ [op] [e₂] pos) env) l H Q :=
  .mk fun _ _ _ re => wpAny_Compare1 (x.to re fun _ _ _ _ re q => q.to re fun _ _ _ _ re q => q.use re) hm
theorem J_isTrue_Compare1 {e₁ op e₂ pos whole} {Q : Bool → Loc → Led → Prop} (x : J w c (eval e₁ env) l H (KCmp w c env e₂ op (KTruth w c Q))) (hm : behindInMarks op e₂ = false := by with_unfolding_all rfl) : J w c (isTrue (.Compare e₁ [op] [e₂] pos) env whole) l H Q :=
  .mk fun _ _ _ re => wpAny_isTrue_Compare1 (x.to re fun _ _ _ _ re q => q.to re fun _ _ _ _ re q => q.to re fun _ _ _ _ re q => q.use re) hm
theorem J_isTrue_chain2 {e₁ op₁ op₂ e₂ e₃ pos whole} {Q : Bool → Loc → Led → Prop}
    (x : J w c (eval e₁ env) l H (KChain w c env pos op₁ op₂ e₂ e₃ Q)) (hl : lastMarks [op₁, op₂] [e₂, e₃] = false := by with_unfolding_all rfl) : J w c (isTrue (.Compare e₁ [op₁, op₂] [e₂, e₃] pos) env whole) l H Q :=
  .mk fun _ _ _ re => isTrue_chain (x.to re fun _ _ _ _ re q => q.use re) hl
theorem J_isTrue_Not {e pos whole} {Q : Bool → Loc → Led → Prop} (x : J w c (isTrue e env (eval e env)) l H (KNot Q)) : J w c (isTrue (.UnaryOp .Not e pos) env whole) l H Q :=
  .mk fun _ _ _ re => wpAny_isTrue_Not (x.to re fun _ _ _ _ re q => re.post q)
theorem J_isTrue_BoolOp {op vs pos whole} {Q : Bool → Loc → Led → Prop} (x : J w c (allTrue op vs env) l H Q) : J w c (isTrue (.BoolOp op vs pos) env whole) l H Q := .mk fun _ _ _ re => wpAny_isTrue_BoolOp (x.use re)
theorem J_allAnd_nil {Q : Bool → Loc → Led → Prop} (q : Q true l H) : J w c (allTrue .And [] env) l H Q := .mk fun _ _ _ re => wpAny_allTrue_And_nil (re.post q)
theorem J_allOr_nil {Q : Bool → Loc → Led → Prop} (q : Q false l H) : J w c (allTrue .Or [] env) l H Q := .mk fun _ _ _ re => wpAny_allTrue_Or_nil (re.post q)
theorem J_allAnd_cons {e rest} {Q : Bool → Loc → Led → Prop} (x : J w c (isTrue e env (eval e env)) l H (KAllAnd w c env rest Q)) : J w c (allTrue .And (e :: rest) env) l H Q :=
  .mk fun _ _ _ re => wpAny_allTrue_And_cons (x.to re fun b _ _ _ re q => by cases b with | true => exact J.use q re | false => exact re.post q)
theorem J_allOr_cons {e rest} {Q : Bool → Loc → Led → Prop} (x : J w c (isTrue e env (eval e env)) l H (KAllOr w c env rest Q)) : J w c (allTrue .Or (e :: rest) env) l H Q :=
  .mk fun _ _ _ re => wpAny_allTrue_Or_cons (x.to re fun b _ _ _ re q => by cases b with | false => exact J.use q re | true => exact re.post q)
theorem J_isTrue_plain {e} {whole : Sem Value} {Q : Bool → Loc → Led → Prop} (x : J w c whole l H (KTruth w c Q)) (he : isTrue e env whole = (do let v ← whole; standAt e.pos; holding [v] (truthy v)) := by with_unfolding_all rfl) : J w c (isTrue e env whole) l H Q :=
  .mk fun _ _ _ re => wpAny_isTrue_value (x.to re fun _ _ _ _ re q => q.use re) he
theorem J_And2 {e₁ e₂ pos} {Q : Value → Loc → Led → Prop} (x : J w c (eval e₁ env) l H fun v l₁ H₁ => J w c (truthy v) l₁ H₁ fun b l₂ H₂ => if b then J w c (eval e₂ env) l₂ H₂ Q else Q v l₂ H₂) : J w c (eval (.BoolOp .And [e₁, e₂] pos) env) l H Q :=
  .mk fun _ _ _ re => wpAny_And2 (x.to re fun _ _ _ _ re q => q.to re fun b _ _ _ re q => by cases b with | true => exact J.use q re | false => exact re.post q)
theorem J_Tuple {elts k pos} {Q : Value → Loc → Led → Prop} (x : J w c (spliced (backTo pos (starEach elts env))) l H (KTup w c Q)) : J w c (eval (.Tuple elts k pos) env) l H Q :=
  .mk fun _ _ _ re => Tuple_ (x.to re fun _ _ _ _ re q => q.use re)
theorem J_List {elts pos} {Q : Value → Loc → Led → Prop} (x : J w c (spliced (backTo pos (starEach elts env))) l H (KLst w c Q)) : J w c (eval (.List elts pos) env) l H Q :=
  .mk fun _ _ _ re => List_ (x.to re fun _ _ _ _ re q => q.use re)
theorem J_args_nil {pos} {Q : List Value → Loc → Led → Prop} (q : Q [] l H) : J w c (spliced (backTo pos (starEach [] env))) l H Q := .mk fun _ _ _ re => args_nil (re.post q)
theorem J_args_cons {e rest pos} {Q : List Value → Loc → Led → Prop} (x : J w c (eval e env) l H (KArgs w c env rest pos Q)) (he : starEach (e :: rest) env = (false, eval e env) :: starEach rest env := by with_unfolding_all rfl) : J w c (spliced (backTo pos (starEach (e :: rest) env))) l H Q :=
  .mk fun _ _ _ re => args_cons (x.to re fun _ _ _ _ re q => q.to re fun _ _ _ _ re q => re.post q) he
theorem J_Call {func args pos} {Q : Value → Loc → Led → Prop} (x : J w c (eval func env) l H (KCallW w c env pos args Q))
    (he : eval (.Call func args [] pos) env = (do callWith pos (← eval func env) [] (backTo pos (starEach args env)) (backToKw pos (keywordEach [] env))) := by with_unfolding_all rfl) : J w c (eval (.Call func args [] pos) env) l H Q :=
  .mk fun _ _ _ re => Call_ (x.to re fun _ _ _ _ re q => q.use re) he
theorem J_Method {o name apos pos args} {pl : Sem Bool} {Q : Value → Loc → Led → Prop} (x : J w c (eval o env) l H (KMeth w c env name pl pos args Q))
    (he : eval (.Call (.Attribute o name apos) args [] pos) env = (do
      let ov ← eval o env
      standAt apos.atName
      let (f, first) ← holding [ov] (getMethod ov name pl)
      callWith pos f first (backTo pos (starEach args env)) []) := by with_unfolding_all rfl) : J w c (eval (.Call (.Attribute o name apos) args [] pos) env) l H Q :=
  .mk fun _ _ _ re => MethodCall_ (x.to re fun _ _ _ _ re q => q.to re fun _ _ _ _ re q => q.use re) he
theorem J_callB0 {pos id first} {Q : Value → Loc → Led → Prop} (x : J w c (call (.builtin id) first) l H Q) : J w c (callWith pos (.builtin id) first (backTo pos (starEach [] env)) []) l H Q :=
  .mk fun _ _ _ re => callWith_method0 (x.use re)
theorem J_callB {pos id e rest} {Q : Value → Loc → Led → Prop} (x : J w c (spliced (backTo pos (starEach (e :: rest) env))) l H (KCall w c (.builtin id) Q))
    (he : starEach (e :: rest) env = (false, eval e env) :: starEach rest env := by with_unfolding_all rfl) (hplain : (backTo pos (starEach rest env)).any (·.1) = false := by with_unfolding_all rfl) : J w c (callWith pos (.builtin id) [] (backTo pos (starEach (e :: rest) env)) []) l H Q :=
  .mk fun _ _ _ re => PyProof.Rows.callWith_builtin1 (x.to re fun _ _ _ _ re q => q.use re) he hplain
theorem J_callM {pos id self e rest} {Q : Value → Loc → Led → Prop} (x : J w c (spliced (backTo pos (starEach (e :: rest) env))) l H (KCallS w c (.builtin id) self Q))
    (he : starEach (e :: rest) env = (false, eval e env) :: starEach rest env := by with_unfolding_all rfl) (hplain : (backTo pos (starEach rest env)).any (·.1) = false := by with_unfolding_all rfl) : J w c (callWith pos (.builtin id) [self] (backTo pos (starEach (e :: rest) env)) []) l H Q :=
  .mk fun _ _ _ re => callWith_method1 (x.to re fun _ _ _ _ re q => q.use re) he hplain
theorem J_callT {pos T e rest} {Q : Value → Loc → Led → Prop} (x : J w c (spliced (backTo pos (starEach (e :: rest) env))) l H (KCall w c (.type T) Q))
    (he : starEach (e :: rest) env = (false, eval e env) :: starEach rest env := by with_unfolding_all rfl) (hplain : (backTo pos (starEach rest env)).any (·.1) = false := by with_unfolding_all rfl) : J w c (callWith pos (.type T) [] (backTo pos (starEach (e :: rest) env)) []) l H Q :=
  .mk fun _ _ _ re => PyProof.Rows.callWith_type1 (x.to re fun _ _ _ _ re q => q.use re) he hplain
theorem J_Attr {e attr pos} {Q : Value → Loc → Led → Prop} (x : J w c (eval e env) l H (KGet w c attr Q))
    (he : eval (.Attribute e attr pos) env = (do
      let o ← eval e env
      standAt pos.atName
      let r ← holding [o] (getAttr o attr true)
      letTemporaryGo e o r
      pure r) := by with_unfolding_all rfl) : J w c (eval (.Attribute e attr pos) env) l H Q :=
  .mk fun _ _ _ re => Attribute_any_ (x.to re fun _ _ _ _ re q => q.use re) he
theorem J_Sub {value slice pos} {Q : Value → Loc → Led → Prop} (x : J w c (eval value env) l H (KIdx w c env value slice Q)) : J w c (eval (.Subscript value slice pos) env) l H Q :=
  .mk fun _ _ _ re => Subscript_ (x.to re fun _ _ _ _ re q => q.to re fun _ _ _ _ re q => q.use re)

-- constants
theorem J_int {i k pos} {Q : Value → Loc → Led → Prop} (q : ∀ t, Q (.int i t) l H) : J w c (eval (.Constant (.int i) k pos) env) l H Q := .mk fun _ _ _ re => wpAny_Constant_int (re.tok.post (q _))
theorem J_none {k pos} {Q : Value → Loc → Led → Prop} (q : Q .none l H) : J w c (eval (.Constant .none k pos) env) l H Q := .mk fun _ _ _ re => wpAny_Constant_none (re.post q)
theorem J_bool {b k pos} {Q : Value → Loc → Led → Prop} (q : Q (.bool b) l H) : J w c (eval (.Constant (.bool b) k pos) env) l H Q := .mk fun _ _ _ re => wpAny_Constant_bool (re.post q)
theorem J_str {u : Str} {k pos} {Q : Value → Loc → Led → Prop} (q : ∀ t, Q (.str u t) l H) : J w c (eval (.Constant (.str u) k pos) env) l H Q := .mk fun _ _ _ re => wpAny_Constant_str (re.tok.post (q _))
theorem J_bytes {u : List UInt8} {k pos} {Q : Value → Loc → Led → Prop} (q : ∀ t, Q (.bytes u.toArray t) l H) : J w c (eval (.Constant (.bytes u) k pos) env) l H Q := .mk fun _ _ _ re => Constant_bytes (re.tok.post (q _))
theorem J_truthy_bool {b : Bool} {Q : Bool → Loc → Led → Prop} (q : Q b l H) : J w c (truthy (.bool b)) l H Q := .mk fun _ _ _ re => wpAny_truthy_bool (re.post q)
end
end

-- J2
section
open PySem PySem.W PyProof.Rows PySem.Calls PySem.Spec
noncomputable abbrev LS : List Str := looseW Mine.hd.view_39 [Str.ofString "HeapObject", Str.ofString "Proto"]

/-- the ground that a frame stands on: the text's objects at hB, room for k more frames -/
structure Base (w : World) (c : Cx) (hB : Heap) (mg mb : Str → Option Value) : Prop where
  kin : Frag.In (Mine.hd.heap_39 w.params) hB
  top : TopRead Mine.hd.view_39 LS mg mb hB
  sub : ∀ a o, hB.get? a = some o → c.G a = some o
  above : hB.objs.size ≤ c.L
structure Ok (w : World) (c : Cx) (k : Nat) : Prop where
  base : ∃ hB mg mb, Base w c hB mg mb
  hd : c.A.handled = none
  dep : c.A.depth + k ≤ 900
  un : c.A.units + 8 * k ≤ 9000

theorem Ok.le {w : World} {c : Cx} {k j : Nat} (ok : Ok w c k) (h : j ≤ k) : Ok w c j := ⟨ok.base, ok.hd, by have := ok.dep; omega, by have := ok.un; omega⟩

noncomputable def allOf (hB h : Heap) (L : Addr) : Led := (List.range h.objs.size).filterMap fun a => if a = L then none else if (hB.get? a).isSome then none else (h.get? a).map fun o => (a, o)
theorem mem_all {hB h : Heap} {L a : Addr} {o : Obj} : (a, o) ∈ allOf hB h L ↔ h.get? a = some o ∧ a ≠ L ∧ hB.get? a = none := by
  unfold allOf
  rw [List.mem_filterMap]
  constructor
  · rintro ⟨b, _, e⟩
    split at e
    · cases e
    · rename_i hL
      split at e
      · cases e
      · rename_i hB'
        cases q : h.get? b with
        | none => rw [q] at e; cases e
        | some x => rw [q] at e; cases e; exact ⟨q, hL, by simpa using hB'⟩
  · rintro ⟨e, hL, hn⟩
    refine ⟨a, List.mem_range.mpr (Heap.lt_size e), ?_⟩
    rw [if_neg hL, hn, e]; rfl
theorem news_all (hB h : Heap) (L : Addr) : News hB L h (allOf hB h L) := fun p hp => mem_all.mp hp
theorem nodup_filterMap {f : Nat → Option (Addr × Obj)} (hf : ∀ a p, f a = some p → p.1 = a) : ∀ {l : List Nat}, l.Nodup → ((l.filterMap f).map (·.1)).Nodup
  | [], _ => List.nodup_nil
  | a :: r, n => by
    have n' := List.nodup_cons.mp n
    rw [List.filterMap_cons]
    split
    · exact nodup_filterMap hf n'.2
    · rename_i p e
      rw [List.map_cons]
      refine List.nodup_cons.mpr ⟨fun q => ?_, nodup_filterMap hf n'.2⟩
      obtain ⟨r', hr, hq⟩ := List.mem_map.mp q
      obtain ⟨b, hb, e'⟩ := List.mem_filterMap.mp hr
      have e1 := hf _ _ e
      have e2 := hf _ _ e'
      exact n'.1 (by rw [← e1, ← hq, e2]; exact hb)
theorem nodup_all (hB h : Heap) (L : Addr) : (keys (allOf hB h L)).Nodup := by
  refine nodup_filterMap (fun a p e => ?_) List.nodup_range
  split at e
  · cases e
  · split at e
    · cases e
    · cases q : h.get? a with
      | none => rw [q] at e; cases e
      | some x => rw [q] at e; cases e; rfl
theorem split_all {hB h : Heap} {L a : Addr} {o : Obj} (e : h.get? a = some o) (hL : a ≠ L) (hn : hB.get? a = none) :
    ∃ pre post, allOf hB h L = pre ++ (a, o) :: post ∧ (∀ p ∈ pre, p.1 ≠ a) ∧ ∀ p ∈ post, p.1 ≠ a := by
  obtain ⟨pre, post, e1⟩ := List.append_of_mem (mem_all.mpr ⟨e, hL, hn⟩ : (a, o) ∈ allOf hB h L)
  have nd := nodup_all hB h L
  rw [e1, show keys (pre ++ (a, o) :: post) = keys pre ++ a :: keys post by simp] at nd
  have n2 := List.nodup_append.mp nd
  have n3 := List.nodup_cons.mp n2.2.1
  exact ⟨pre, post, e1, fun p hp => n2.2.2 p.1 (mem_keys hp) a (.head _), fun p hp q => n3.1 (q ▸ mem_keys hp)⟩

section
variable {w : World} {c : Cx} {l l' : Loc} {H H' H₀ : Led} {h₀ h' hB : Heap} {mg mb : Str → Option Value} {α : Type} {t : Sem α} {Q : α → Loc → Led → Prop} {v : α} {s : Shared} {a : Addr} {o o' : Obj} {tk : Nat} {env : Env} {k : Nat}

theorem Base.keepB (B : Base w c hB mg mb) (re : Re c H₀ h₀ l H s) : ∀ b o, hB.get? b = some o → s.heap.get? b = some o := fun b o e => (re.st.kn b o (B.sub b o e)).1
theorem Base.fr (B : Base w c hB mg mb) (re : Re c H₀ h₀ l H s) : ∃ m, Fr hB c.L s.heap m ∧ ∀ x v, l.lookup x = some v → m x = some v := let ⟨m, y, z⟩ := re.st.ns; ⟨m, ⟨y, B.keepB re, B.above⟩, z⟩
theorem Base.kinS (B : Base w c hB mg mb) (re : Re c H₀ h₀ l H s) : Frag.In (Mine.hd.heap_39 w.params) s.heap := B.kin.keeps (B.keepB re)
theorem Base.off (B : Base w c hB mg mb) (re : Re c H₀ h₀ l H s) {p : Addr × Obj} (hp : p ∈ H) : p.1 ≠ c.L ∧ hB.get? p.1 = none := by
  refine ⟨(re.st.led p hp).2.1, ?_⟩
  cases q : hB.get? p.1 with
  | none => rfl
  | some o => exact absurd (mem_keys hp) (re.st.kn _ _ (B.sub _ _ q)).2.2
theorem Base.news1 (B : Base w c hB mg mb) (re : Re c H₀ h₀ l H s) {H₁ : Led} (hs : ∀ p ∈ H₁, p ∈ H) : News hB c.L s.heap H₁ := fun p hp => ⟨(re.st.led p (hs p hp)).1, B.off re (hs p hp)⟩
/-- what is known or of the ledger stands in the heap -/
theorem Re.get (re : Re c H₀ h₀ l H s) (m : (a, o) ∈ H ∨ c.G a = some o) : s.heap.get? a = some o := m.elim (fun m => (re.st.led _ m).1) fun m => (re.st.kn _ _ m).1

/-- from the library's words: all stands but the frame's own and what is named -/
theorem Base.keeps_of (B : Base w c hB mg mb) (re : Re c H₀ h₀ l H s) {m : Str → Option Value} (F : Fr hB c.L h' m) {news : Led} (N : News hB c.L h' news) (hn : ∀ p ∈ allOf hB s.heap c.L, p.1 ≠ a → p ∈ news) : ∀ b ob, s.heap.get? b = some ob → b ≠ a → b ≠ c.L → h'.get? b = some ob := by
  intro b ob e ha hL
  cases q : hB.get? b with
  | some x =>
    have := B.keepB re b x q
    rw [e] at this
    cases this
    exact F.keep b ob q
  | none => exact (N _ (hn (b, ob) (mem_all.mpr ⟨e, hL, q⟩) ha)).1

theorem St.change {h : Heap} (S : St c l H h) (ns : NsP h' c.L l') (u : At a o o' H H') (ho : h'.get? a = some o') (k : ∀ b ob, h.get? b = some ob → b ≠ a → b ≠ c.L → h'.get? b = some ob) : St c l' H' h' ∧ Pres c H h h' ∧ New H H' h := by
  have m := u.mem
  have la := S.led _ m
  have ha : a ∈ keys H := mem_keys m
  refine ⟨⟨ns, fun b ob e => ?_, fun p hp => ?_, by rw [u.keys]; exact S.nd, fun p hp => ?_⟩, fun b ob e hb ho => ?_, fun b hb => .inl (u.keys ▸ hb)⟩
  · have z := S.kn b ob e
    exact ⟨k _ _ z.1 (fun q => z.2.2 (q ▸ ha)) z.2.1.1, z.2.1, by rw [u.keys]; exact z.2.2⟩
  · rcases u.other S.nd p hp with rfl | ⟨h1, h2⟩
    · exact ⟨ho, la.2⟩
    · have z := S.led p h1
      exact ⟨k _ _ z.1 h2 z.2.1, z.2⟩
  · have z := S.bx p hp
    have n := la.2.2 p hp
    exact ⟨z.1.keep (fun ob e => k _ _ e (Ne.symm n.1) z.2.2.1) (fun ob e => k _ _ e (Ne.symm n.2) z.2.2.2), z.2⟩
  · exact k b ob e (fun z => hb (z ▸ ha)) ho.1
/-- a library step that turns one object of the ledger -/
theorem Base.upd (B : Base w c hB mg mb) (re : Re c H₀ h₀ l H s) (u : At a o o' H H')
    (x : ∀ pre post, News hB c.L s.heap (pre ++ (a, o) :: post) → (∀ p ∈ pre, p.1 ≠ a) → (∀ p ∈ post, p.1 ≠ a) → ∀ m, Fr hB c.L s.heap m → (∀ h' tk, Fr hB c.L h' m → News hB c.L h' (pre ++ (a, o') :: post) → Re c H₀ h₀ l H' ⟨h', s.gens, s.drawn, tk, s.os⟩) →
      wpAny (model PR w) c.A t (Post c H₀ h₀ Q) (fun _ _ => False) s) : wpAny (model PR w) c.A t (Post c H₀ h₀ Q) (fun _ _ => False) s := by
  have of := B.off re u.mem
  obtain ⟨pre, post, e, h1, h2⟩ := split_all (hB := hB) (re.st.led _ u.mem).1 of.1 of.2
  obtain ⟨m, F₀, hm⟩ := B.fr re
  refine x pre post (e ▸ news_all _ _ _) h1 h2 m F₀ fun h' tk F N => ?_
  have ks := B.keeps_of re F N (a := a) fun p hp hne => by
    rw [e] at hp
    rcases List.mem_append.mp hp with q | q
    · exact List.mem_append.mpr (.inl q)
    · rcases List.mem_cons.mp q with rfl | q
      · exact absurd rfl hne
      · exact List.mem_append.mpr (.inr (.tail _ q))
  exact re.go (re.st.change ⟨m, F.ns, hm⟩ u (N (a, o') (by simp)).1 fun b ob e' ha hL => ks b ob e' ha hL)

theorem Base.fresh (B : Base w c hB mg mb) (re : Re c H₀ h₀ l H s) (hL : a ≠ c.L) (hn : hB.get? a = none) (hlt : ∀ p ∈ allOf hB s.heap c.L, p.1 < a) : s.heap.get? a = none := by
  cases q : s.heap.get? a with
  | none => rfl
  | some o => exact absurd (hlt (a, o) (mem_all.mpr ⟨q, hL, hn⟩)) (Nat.lt_irrefl _)

-- names
noncomputable def setL : Loc → Str → Value → Loc
  | [], x, v => [(x, v)]
  | (y, u) :: r, x, v => if x == y then (x, v) :: r else (y, u) :: setL r x v
theorem lo_setL : ∀ (l : Loc) (x : Str) (v : Value), lo (setL l x v) = fun y => if y = x then some v else lo l y
  | [], x, v => by
    funext y
    show List.lookup y [(x, v)] = _
    by_cases h : y = x
    · subst h; simp [List.lookup]
    · have : (y == x) = false := beq_eq_false_iff_ne.mpr h
      simp [List.lookup, this, h]
  | (z, u) :: r, x, v => by
    have ih := lo_setL r x v
    funext y
    unfold setL
    split
    · rename_i q
      have q' := beq_iff_eq.mp q
      subst q'
      by_cases h : y = x
      · subst h; simp [List.lookup]
      · have : (y == x) = false := beq_eq_false_iff_ne.mpr h
        simp [List.lookup, this, h]
    · rename_i q
      have q' : x ≠ z := fun e => q (beq_iff_eq.mpr e)
      show List.lookup y ((z, u) :: setL r x v) = _
      rw [List.lookup_cons]
      by_cases h : y = z
      · subst h
        have : (y == y) = true := beq_iff_eq.mpr rfl
        simp only [this]
        rw [if_neg (Ne.symm q')]
        simp [List.lookup]
      · have h1 : (y == z) = false := beq_eq_false_iff_ne.mpr h
        simp only [h1]
        have := congrFun ih y
        simp only [lo] at this
        rw [this]
        simp [lo, List.lookup_cons, h1]
inductive SetL (x : Str) (v : Value) : Loc → Loc → Prop
  | nil : SetL x v [] [(x, v)]
  | here {u r} : SetL x v ((x, u) :: r) ((x, v) :: r)
  | there {y u r r'} : (x == y) = false → SetL x v r r' → SetL x v ((y, u) :: r) ((y, u) :: r')
theorem SetL.eq {x : Str} {v : Value} (e : SetL x v l l') : l' = setL l x v := by
  induction e with
  | nil => rfl
  | here => unfold setL; rw [if_pos (beq_iff_eq.mpr rfl)]
  | there h _ ih => unfold setL; rw [if_neg (by rw [h]; exact Bool.false_ne_true), ih]

theorem J_local {x : Str} {pos : Pos} {v : Value} {Q : Value → Loc → Led → Prop} (hv : l.lookup x = some v) (q : Q v l H) (hL : env.locals = c.L := by with_unfolding_all rfl) (hk : env.scope.kind = .function := by with_unfolding_all rfl) (hl : env.kindOf x = some .local := by with_unfolding_all rfl)
    (hd : (x == ("__debug__" : Str)) = false := by with_unfolding_all decide) : J w c (eval (.Name x pos) env) l H Q :=
  .mk fun _ _ _ re => let ⟨_, y, z⟩ := re.st.ns; wpAny_Name (wpAny_loadName_local hk hl (by rw [hL]; exact y) (z _ _ hv) (re.post q)) hd
theorem J_global {x : Str} {pos : Pos} {v : Value} {Q : Value → Loc → Led → Prop} (ok : Ok w c k) (e : nsIn (Mine.hd.heap_39 w.params) mainGlobals x = some (some v)) (q : Q v l H) (hk : env.scope.kind = .function := by with_unfolding_all rfl) (hx : env.kindOf x = some .globalImplicit := by with_unfolding_all rfl)
    (hg : env.globals = mainGlobals := by with_unfolding_all rfl) (hd : (x == ("__debug__" : Str)) = false := by with_unfolding_all decide) : J w c (eval (.Name x pos) env) l H Q :=
  .mk fun _ _ _ re => by
    obtain ⟨hB, mg, mb, B⟩ := ok.base
    exact Calls.Name_function_global hk hx (Calls.loadGlobal_global (by rw [hg]; exact B.top.g.keeps (B.keepB re)) (mg_of B.kin B.top.g e) (re.post q)) hd
theorem J_builtin {x : Str} {pos : Pos} {v : Value} {Q : Value → Loc → Led → Prop} (ok : Ok w c k) (e : nsIn (Mine.hd.heap_39 w.params) mainGlobals x = some none) (hv : bootBuiltins x = some v) (q : Q v l H) (hn : x ≠ "__name__" := by with_unfolding_all decide) (hk : env.scope.kind = .function := by with_unfolding_all rfl) (hx : env.kindOf x = some .globalImplicit := by with_unfolding_all rfl)
    (hg : env.globals = mainGlobals := by with_unfolding_all rfl) (hb : env.builtins = builtinsNs := by with_unfolding_all rfl) (hd : (x == ("__debug__" : Str)) = false := by with_unfolding_all decide) : J w c (eval (.Name x pos) env) l H Q :=
  .mk fun _ _ _ re => by
    obtain ⟨hB, mg, mb, B⟩ := ok.base
    exact Calls.Name_function_global hk hx (Calls.loadGlobal_builtin (by rw [hg]; exact B.top.g.keeps (B.keepB re)) (mg_none_of B.kin B.top.g e) (by rw [hb]; exact B.top.b.keeps (B.keepB re)) ((B.top.builtins x hn).trans hv) (re.post q)) hd
theorem J_store {x : Str} {v : Value} {Q : Unit → Loc → Led → Prop} (e : SetL x v l l') (q : Q () l' H) (hL : env.locals = c.L := by with_unfolding_all rfl) (hl : env.kindOf x = some .local := by with_unfolding_all rfl)
    (hp : (env.scope.kind == .class || (env.scope.kind == .module && env.locals != env.globals)) = false := by with_unfolding_all rfl) : J w c (storeName env x v) l H Q :=
  .mk fun _ _ _ re => let ⟨m, y, z⟩ := re.st.ns; wpAny_storeName_local hl (by rw [hL]; exact y) (fun h' hn hs => (re.loc (hL ▸ hs) (by
    rw [hL] at hn
    refine ⟨_, hn, fun a u ea => ?_⟩
    have e2 := congrFun (lo_setL l x v) a
    rw [← e.eq] at e2
    have e3 : lo l' a = some u := ea
    rw [e2] at e3
    split at e3
    · rename_i q; rw [if_pos q]; exact e3
    · rename_i q; rw [if_neg q]; exact z _ _ e3)).post q) hp
theorem J_cell {x : Str} {pos : Pos} {ca : Addr} {o : Obj} {v : Value} {Q : Value → Loc → Led → Prop} (hc : env.cells.lookup x = some ca) (m : (ca, o) ∈ H ∨ c.G ca = some o) (ho : o.data = .cell (some v)) (q : Q v l H) (hk : env.scope.kind = .function := by with_unfolding_all rfl) (hl : env.kindOf x = some .cell := by with_unfolding_all rfl)
    (hd : (x == ("__debug__" : Str)) = false := by with_unfolding_all decide) : J w c (eval (.Name x pos) env) l H Q :=
  .mk fun _ _ _ re => wpAny_Name (wpAny_loadName_cell hk hl hc ⟨o, re.get m, ho⟩ (re.post q)) hd
end
end

-- J3
section
open PySem PySem.W PyProof.Rows PySem.Calls PySem.Spec
/-- a call's contract: known heap, box, room, callee, arguments, ledger, what comes back -/
noncomputable def CJ (w : World) (G : Addr → Option Obj) (bx : Option (Addr × Addr)) (k : Nat) (f : Value) (vs : List Value) (H : Led) (Q : Value → Led → Prop) : Prop :=
  ∀ (c : Cx) (l : Loc), c.G = G → c.bx = bx → Ok w c k → ∀ H₀ h₀ s, Re c H₀ h₀ l H s →
    codeAny (model PR w) c.A (.call f ⟨vs, []⟩) (fun r s' => match r with | .ok (.ret v) => Post c H₀ h₀ (fun v l' H' => l' = l ∧ Q v H') v s' | .ok _ => False | .error _ => False) s
theorem CJ.j {w : World} {G : Addr → Option Obj} {bx : Option (Addr × Addr)} {k : Nat} {f : Value} {vs : List Value} {H : Led} {Q : Value → Led → Prop} (x : CJ w G bx k f vs H Q) {c : Cx} {l : Loc} (hG : c.G = G) (hb : c.bx = bx) (ok : Ok w c k) : J w c (call f vs) l H fun v l' H' => l' = l ∧ Q v H' :=
  .mk fun H₀ h₀ s re => wpAny_call (x c l hG hb ok H₀ h₀ s re)
theorem CJ.mono {w : World} {G : Addr → Option Obj} {bx : Option (Addr × Addr)} {k : Nat} {f : Value} {vs : List Value} {H : Led} {Q Q' : Value → Led → Prop} (x : CJ w G bx k f vs H Q) (q : ∀ v H', Q v H' → Q' v H') : CJ w G bx k f vs H Q' := fun c l hG hb ok H₀ h₀ s re =>
  codeAny_mono (x c l hG hb ok H₀ h₀ s re) fun r s' p => by
    cases r with
    | ok f => cases f with
      | ret v => exact Post.mono p fun _ _ y => ⟨y.1, q _ _ y.2⟩
      | _ => exact p
    | error e => exact p
theorem CJ.room {w : World} {G : Addr → Option Obj} {bx : Option (Addr × Addr)} {k j : Nat} {f : Value} {vs : List Value} {H : Led} {Q : Value → Led → Prop} (x : CJ w G bx k f vs H Q) (h : k ≤ j) : CJ w G bx j f vs H Q := fun c l hG hb ok => x c l hG hb (ok.le h)

noncomputable def retOf : Flow → Value | .ret v => v | _ => .none

section
variable {w : World} {c : Cx} {l l' : Loc} {H H' H₀ R : Led} {h₀ h' hB : Heap} {mg mb : Str → Option Value} {α : Type} {t : Sem α} {s : Shared} {a b ca : Addr} {o o' : Obj} {tk : Nat} {env : Env} {k : Nat} {G : Addr → Option Obj} {bx : Option (Addr × Addr)}

theorem mem_hd {p : Addr × Obj} {r : Led} : p ∈ p :: r := List.mem_cons_self
theorem mem_tl {p q : Addr × Obj} {r : Led} (h : p ∈ r) : p ∈ q :: r := List.mem_cons_of_mem _ h
theorem lookup_none {x : Str} : ∀ {l : Loc}, x ∉ l.map (·.1) → l.lookup x = none
  | [], _ => rfl
  | (y, v) :: r, h => by
    have h1 : (x == y) = false := beq_eq_false_iff_ne.mpr fun e => h (e ▸ List.Mem.head _)
    rw [List.lookup_cons, h1]
    exact lookup_none fun q => h (List.Mem.tail _ q)
theorem lookup_rev : ∀ {l : Loc}, (l.map (·.1)).Nodup → (fun x => l.reverse.lookup x) = lo l
  | [], _ => rfl
  | (y, v) :: r, n => by
    have n' := List.nodup_cons.mp n
    have ih := lookup_rev n'.2
    funext x
    have ihx : r.reverse.lookup x = r.lookup x := congrFun ih x
    show List.lookup x ((y, v) :: r).reverse = List.lookup x ((y, v) :: r)
    rw [List.reverse_cons, List.lookup_append, ihx, List.lookup_cons]
    by_cases h : x = y
    · subst h
      rw [lookup_none n'.1]; simp [List.lookup]
    · have h1 : (x == y) = false := beq_eq_false_iff_ne.mpr h
      simp [h1, List.lookup]

theorem CJ_def {f : Addr} {oc : Value} {od : Option Addr} {name qual : Str} {params : Arguments} {body : List Stmt} {scope : Scope} {dV kV doc pm cdv ct : Value} {an : Option Addr} {osl : Array (Option Value)} {vs : List Value} {binds : List (Str × Value)} {Q : Value → Led → Prop}
    (ho : List.lookup f (Mine.hd.heap_39 w.params) = some ⟨oc, od, .func (fnOf name qual params body scope dV kV doc pm an cdv ct), osl⟩)
    (hcd : codeIn (Mine.hd.heap_39 w.params) cdv qual = true)
    (hbind : bindArgs (fnOf name qual params body scope dV kV doc pm an cdv ct) ⟨vs, []⟩ = pure binds) (hloc : ∀ y ∈ binds, scope.names.lookup y.1 = some .local)
    (hnd' : decide ((binds.map (·.1)).Nodup) = true) (x : ∀ c : Cx, c.G = G → c.bx = bx → Ok w c k → J w c (execs body (envOf qual scope c.L f cdv)) binds H fun fl _ H' => Q (retOf fl) H')
    (hcell : ∀ x ∈ scope.names, x.2 ≠ .cell) (hco : scope.isCoroutine = false := by rfl) (hgen : scope.isGenerator = false := by rfl) (hk : scope.kind = .function := by rfl) :
    CJ w G bx (k + 1) (.ref f) vs H Q := by
  rintro c l rfl rfl ok H₀ h₀ s re
  obtain ⟨hB, mg, mb, B⟩ := ok.base
  have hnd := of_decide_eq_true hnd'
  have X := B.kinS re
  refine codeAny_call_def (fd := fnOf name qual params body scope dV kV doc pm an cdv ct) (body := body) (binds := binds) (by have := ok.dep; show c.A.depth < 1000; omega) (X _ _ ho) rfl (B.top.nolimit.keeps (B.keepB re)) (codeRec_of X hcd) rfl (BindsTo.of_eq hbind) hcell hloc (fun h₁ hns hk₁ => ?_) hco hgen hk
  have cur : ∀ a o, s.heap.get? a = some o → a ≠ s.heap.objs.size := fun a o e => Nat.ne_of_lt (Heap.lt_size e)
  let c' : Cx := { c with A := c.A.deeper (envOf qual scope s.heap.objs.size f cdv), L := s.heap.objs.size }
  have offs : ∀ a o, s.heap.get? a = some o → c.off a → c'.off a := fun a o e x => ⟨cur a o e, x.2⟩
  have S₁ : St c' binds H h₁ := ⟨NsP.of (by rw [← lookup_rev hnd]; exact hns), fun a o e => have z := re.st.kn a o e; ⟨hk₁ _ _ z.1, offs _ _ z.1 z.2.1, z.2.2⟩, fun p hp => have z := re.st.led p hp; ⟨hk₁ _ _ z.1, offs _ _ z.1 z.2⟩, re.st.nd, fun p hp => by
    have z := re.st.bx p hp
    refine ⟨z.1.keep (hk₁ _) (hk₁ _), z.2.1, ?_, ?_⟩
    · obtain ⟨_, _, _, _, _, _, _, _, e, _⟩ := z.1; exact cur _ _ e
    · obtain ⟨_, _, _, _, _, _, _, _, _, _, e, _⟩ := z.1; exact cur _ _ e⟩
  have ok' : Ok w c' k := ⟨⟨hB, mg, mb, B.kin, B.top, B.sub, Nat.le_of_lt (Nat.lt_of_le_of_lt B.above re.st.ns.lt)⟩, ok.hd, by have := ok.dep; show c.A.depth + 1 + k ≤ 900; omega, by have := ok.un; show c.A.units + 3 + 8 * k ≤ 9000; omega⟩
  refine wpAny_mono (x c' rfl rfl ok' ⟨h₁, s.gens, s.drawn, s.toks + binds.length, s.os⟩ ⟨re.ok.1, re.ok.2⟩ S₁) (fun fl s' P => ?_) fun _ _ e => e.elim
  obtain ⟨ok₂, l₂, H₂, S₂, P₂, n₂, q⟩ := P
  obtain ⟨oL, eL⟩ := re.st.ns.obj
  have hLk : c.L ∉ keys H := fun z => by
    obtain ⟨p, hp, e⟩ := List.mem_map.mp z
    exact (re.st.led p hp).2.1 e
  have hLo : c'.off c.L := ⟨cur _ _ eL, fun p hp => have z := re.st.bx p hp; ⟨Ne.symm z.2.2.1, Ne.symm z.2.2.2⟩⟩
  have St₂ : St c l H₂ s'.heap := ⟨re.st.ns.at' fun o e => P₂ _ _ (hk₁ _ _ e) hLk hLo, fun a o e => have z := S₂.kn a o e; ⟨z.1, (re.st.kn a o e).2.1, z.2.2⟩, (fun p hp => by
    have z := S₂.led p hp
    refine ⟨z.1, ?_, z.2.2⟩
    rcases n₂ p.1 (mem_keys hp) with y | y
    · obtain ⟨r, hr, e⟩ := List.mem_map.mp y
      rw [← e]; exact (re.st.led r hr).2.1
    · intro e; rw [e, hk₁ _ _ eL] at y; cases y), S₂.nd, fun p hp => ⟨(S₂.bx p hp).1, (re.st.bx p hp).2⟩⟩
  have Pr : Pres c H s.heap s'.heap := fun a o e ha hoff => P₂ a o (hk₁ _ _ e) ha (offs _ _ e hoff)
  have Nw : New H H₂ s.heap := fun a ha => (n₂ a ha).imp id fun y => by
    cases e : s.heap.get? a with
    | none => rfl
    | some o => rw [hk₁ _ _ e] at y; cases y
  have re' : Re c H₀ h₀ l H₂ s' := ⟨⟨ok₂.1, ok₂.2⟩, St₂, Pres.trans re.st re.pr re.nw Pr, New.trans re.pr (fun b hb => by obtain ⟨r, hr, rfl⟩ := List.mem_map.mp hb; exact (St₂.led r hr).2) re.nw Nw⟩
  cases fl <;> exact re'.post ⟨rfl, q⟩

/-- a call in a frame, the rest of the ledger set aside and known to the callee -/
theorem J_call {f : Value} {vs : List Value} {Q : Value → Loc → Led → Prop} {Q' : Value → Led → Prop} (ok : Ok w c k)
    (x : ∀ G', (∀ a o, c.G a = some o → G' a = some o) → (∀ p ∈ R, G' p.1 = some p.2) → (∃ hB mg mb, Base w { c with G := G' } hB mg mb) → CJ w G' c.bx k f vs H Q')
    (q : ∀ v H', Q' v H' → (∀ p ∈ H', ∀ r ∈ R, p.1 ≠ r.1) → Q v l (H' ++ R)) : J w c (call f vs) l (H ++ R) Q := by
  refine J_freeze fun G' hG hR => ?_
  have ok' : Ok w { c with G := G' } k := ⟨by obtain ⟨hB, mg, mb, B⟩ := ok.base; exact ⟨hB, mg, mb, B.kin, B.top, fun a o e => hG a o (B.sub a o e), B.above⟩, ok.hd, ok.dep, ok.un⟩
  refine ((x G' hG hR ok'.base).j (c := { c with G := G' }) rfl rfl ok').mono fun v l' H' z ap => ?_
  rw [z.1]; exact q v H' z.2 ap

-- the box
noncomputable def BoxObj (ca : Addr) (bo : Obj) : Prop := ∃ (at_ : Int) (ta : Tok) (c : Int) (tc : Tok) (n : Nat), bo = listOf #[.int at_ ta, .ref ca, .int c tc] n ∧ -1 ≤ at_
noncomputable def CellsObj (co : Obj) : Prop := ∃ (vs : List Value) (ns : List Int) (n : Nat), co = listOf vs.toArray n ∧ IntsAre vs ns ∧ vs.length ≤ 40
theorem boxAt_iff {h : Heap} : BoxAt h b ca ↔ ∃ bo co, h.get? b = some bo ∧ h.get? ca = some co ∧ BoxObj ca bo ∧ CellsObj co := by
  constructor
  · rintro ⟨at_, ta, c, tc, n, vs, ns, n2, h1, h2, h3, h4, h5⟩
    exact ⟨_, _, h1, h3, ⟨at_, ta, c, tc, n, rfl, h2⟩, ⟨vs, ns, n2, rfl, h4, h5⟩⟩
  · rintro ⟨_, _, h1, h3, ⟨at_, ta, c, tc, n, rfl, h2⟩, ⟨vs, ns, n2, rfl, h4, h5⟩⟩
    exact ⟨at_, ta, c, tc, n, vs, ns, n2, h1, h2, h3, h4, h5⟩

theorem J_box {Q : α → Loc → Led → Prop} (hb : c.bx = some (b, ca))
    (x : ∀ bo co, BoxObj ca bo → CellsObj co → b ≠ ca → J w { c with bx := none } t l ([(b, bo), (ca, co)] ++ H) fun v l' H' => ∃ bo' H₁, BoxObj ca bo' ∧ H' = [(b, bo'), (ca, co)] ++ H₁ ∧ Q v l' H₁) : J w c t l H Q := by
  intro s ok S
  have z := S.bx _ hb
  obtain ⟨bo, co, e1, e2, B1, C1⟩ := boxAt_iff.mp z.1
  have nb : b ∉ keys H := fun q => by obtain ⟨p, hp, e⟩ := List.mem_map.mp q; exact ((S.led p hp).2.2 _ hb).1 e
  have nc : ca ∉ keys H := fun q => by obtain ⟨p, hp, e⟩ := List.mem_map.mp q; exact ((S.led p hp).2.2 _ hb).2 e
  have S₁ : St { c with bx := none } l ([(b, bo), (ca, co)] ++ H) s.heap := ⟨S.ns, fun a o e => by
      have y := S.kn a o e
      refine ⟨y.1, ⟨y.2.1.1, fun p hp => by cases hp⟩, fun q => ?_⟩
      have n2 := y.2.1.2 _ hb
      rcases List.mem_cons.mp q with q | q
      · exact n2.1 q
      · rcases List.mem_cons.mp q with q | q
        · exact n2.2 q
        · exact y.2.2 q, fun p hp => by
      rcases List.mem_cons.mp hp with rfl | hp
      · exact ⟨e1, z.2.2.1, fun p hp => by cases hp⟩
      · rcases List.mem_cons.mp hp with rfl | hp
        · exact ⟨e2, z.2.2.2, fun p hp => by cases hp⟩
        · have y := S.led p hp
          exact ⟨y.1, y.2.1, fun p hp => by cases hp⟩, by
      refine List.nodup_cons.mpr ⟨fun q => ?_, List.nodup_cons.mpr ⟨nc, S.nd⟩⟩
      rcases List.mem_cons.mp q with q | q
      · exact z.2.1 q
      · exact nb q, fun p hp => by cases hp⟩
  refine wpAny_mono (x bo co B1 C1 z.2.1 s ⟨ok.1, ok.2⟩ S₁) (fun v s' P => ?_) fun _ _ e => e
  obtain ⟨ok', l', H', S', P', n', bo', H₁, B', rfl, q⟩ := P
  have eb := (S'.led (b, bo') (.head _)).1
  have ec := (S'.led (ca, co) (.tail _ (.head _))).1
  have nd := List.nodup_cons.mp S'.nd
  have nd2 := List.nodup_cons.mp nd.2
  have hoff : ∀ p ∈ H₁, p.1 ≠ b ∧ p.1 ≠ ca := fun p hp => ⟨fun e => nd.1 (List.Mem.tail _ (e ▸ List.mem_map_of_mem hp : b ∈ H₁.map (·.1))), fun e => nd2.1 (e ▸ List.mem_map_of_mem hp : ca ∈ H₁.map (·.1))⟩
  refine ⟨⟨ok'.1, ok'.2⟩, l', H₁, ⟨S'.ns, fun a o e => have y := S'.kn a o e; ⟨y.1, (S.kn a o e).2.1, fun q => y.2.2 (.tail _ (.tail _ q))⟩, fun p hp => have y := S'.led p (.tail _ (.tail _ hp)); ⟨y.1, y.2.1, fun r hr => ?_⟩, nd2.2, fun p hp => ?_⟩, fun a o e ha ho => P' a o e (fun q => ?_) ⟨ho.1, fun p hp => by cases hp⟩, fun a ha => ?_, q⟩
  · rw [hb] at hr; cases hr; exact hoff p hp
  · rw [hb] at hp; cases hp
    exact ⟨boxAt_iff.mpr ⟨_, _, eb, ec, B', C1⟩, z.2⟩
  · have n2 := ho.2 _ hb
    rcases List.mem_cons.mp q with q | q
    · exact n2.1 q
    · rcases List.mem_cons.mp q with q | q
      · exact n2.2 q
      · exact ha q
  · rcases n' a (.tail _ (.tail _ ha)) with y | y
    · obtain ⟨p, hp, rfl⟩ := List.mem_map.mp ha
      rcases List.mem_cons.mp y with y | y
      · exact absurd y (hoff p hp).1
      · rcases List.mem_cons.mp y with y | y
        · exact absurd y (hoff p hp).2
        · exact .inl y
    · exact .inr y

/-- the box made: from here on it stands aside -/
theorem J_inbox {bo co : Obj} {Q : α → Loc → Led → Prop} (hb : c.bx = none) (B : BoxObj ca bo) (C : CellsObj co)
    (x : J w { c with bx := some (b, ca) } t l H fun v l' H' => ∀ bo' co', BoxObj ca bo' → CellsObj co' → Q v l' ((b, bo') :: (ca, co') :: H')) : J w c t l ((b, bo) :: (ca, co) :: H) Q := by
  intro s ok S
  have z1 := S.led (b, bo) (.head _)
  have z2 := S.led (ca, co) (.tail _ (.head _))
  have nd := List.nodup_cons.mp S.nd
  have nd2 := List.nodup_cons.mp nd.2
  have hne : b ≠ ca := fun q => nd.1 (q ▸ .head _)
  have S₁ : St { c with bx := some (b, ca) } l H s.heap := ⟨S.ns, fun a o e => by
      have y := S.kn a o e
      refine ⟨y.1, ⟨y.2.1.1, fun p hp => ?_⟩, fun q => y.2.2 (.tail _ (.tail _ q))⟩
      cases hp
      exact ⟨fun q => y.2.2 (q ▸ .head _), fun q => y.2.2 (q ▸ .tail _ (.head _))⟩, fun p hp => by
      have y := S.led p (.tail _ (.tail _ hp))
      refine ⟨y.1, y.2.1, fun r hr => ?_⟩
      cases hr
      have mk : p.1 ∈ H.map (·.1) := List.mem_map_of_mem hp
      exact ⟨fun q => nd.1 (List.Mem.tail _ (by have q' : p.1 = b := q; rw [q'] at mk; exact mk)), fun q => nd2.1 (by have q' : p.1 = ca := q; rw [q'] at mk; exact mk)⟩, nd2.2, fun p hp => by
      cases hp
      exact ⟨boxAt_iff.mpr ⟨_, _, z1.1, z2.1, B, C⟩, hne, z1.2.1, z2.2.1⟩⟩
  refine wpAny_mono (x s ⟨ok.1, ok.2⟩ S₁) (fun v s' P => ?_) fun _ _ e => e
  obtain ⟨ok', l', H', S', P', n', q⟩ := P
  obtain ⟨bo', co', e1, e2, B', C'⟩ := boxAt_iff.mp (S'.bx _ rfl).1
  have off' : ∀ p ∈ H', p.1 ≠ b ∧ p.1 ≠ ca := fun p hp => (S'.led p hp).2.2 _ rfl
  refine ⟨⟨ok'.1, ok'.2⟩, l', (b, bo') :: (ca, co') :: H', ⟨S'.ns, fun a o e => ?_, fun p hp => ?_, ?_, fun p hp => by rw [hb] at hp; cases hp⟩, fun a o e ha ho => ?_, fun a ha => ?_, q bo' co' B' C'⟩
  · have y := S'.kn a o e
    refine ⟨y.1, (S.kn a o e).2.1, fun q => ?_⟩
    have n2 := y.2.1.2 _ rfl
    rcases List.mem_cons.mp q with q | q
    · exact n2.1 q
    · rcases List.mem_cons.mp q with q | q
      · exact n2.2 q
      · exact y.2.2 q
  · rcases List.mem_cons.mp hp with rfl | hp
    · exact ⟨e1, z1.2⟩
    · rcases List.mem_cons.mp hp with rfl | hp
      · exact ⟨e2, z2.2⟩
      · have y := S'.led p hp
        exact ⟨y.1, y.2.1, fun r hr => by rw [hb] at hr; cases hr⟩
  · refine List.nodup_cons.mpr ⟨fun q => ?_, List.nodup_cons.mpr ⟨fun q => ?_, S'.nd⟩⟩
    · rcases List.mem_cons.mp q with q | q
      · exact hne q
      · obtain ⟨p, hp, e⟩ := List.mem_map.mp q; exact (off' p hp).1 e
    · obtain ⟨p, hp, e⟩ := List.mem_map.mp q; exact (off' p hp).2 e
  · refine P' a o e (fun q => ha (.tail _ (.tail _ q))) ⟨ho.1, fun p hp => ?_⟩
    cases hp
    exact ⟨fun q => ha (q ▸ .head _), fun q => ha (q ▸ .tail _ (.head _))⟩
  · rcases List.mem_cons.mp ha with q | q
    · exact .inl (q ▸ .head _)
    · rcases List.mem_cons.mp q with q | q
      · exact .inl (q ▸ .tail _ (.head _))
      · exact (n' a q).imp (fun z => .tail _ (.tail _ z)) id

-- ints
theorem J_add {x y : Int} {t u : Tok} {Q : Value → Loc → Led → Prop} (q : ∀ t, Q (.int (x + y) t) l H) : J w c (binaryOp .Add (.int x t) (.int y u)) l H Q := .mk fun _ _ _ re => PyProof.Rows.add_int (re.tok.post (q _))
theorem J_subI {x y : Int} {t u : Tok} {Q : Value → Loc → Led → Prop} (q : ∀ t, Q (.int (x - y) t) l H) : J w c (binaryOp .Sub (.int x t) (.int y u)) l H Q := .mk fun _ _ _ re => PyProof.Rows.sub_int (re.tok.post (q _))
theorem J_mul {x y : Int} {t u : Tok} {Q : Value → Loc → Led → Prop} (q : ∀ t, Q (.int (x * y) t) l H) (hx : Builtin.Int.intBits x ≤ 64 := by decide) : J w c (binaryOp .Mult (.int x t) (.int y u)) l H Q := .mk fun _ _ _ re => PyProof.Rows.mul_int (re.tok.post (q _)) (IntMulOk.of_left hx)
theorem J_mod {x y : Int} {t u : Tok} {Q : Value → Loc → Led → Prop} (hy : y ≠ 0) (q : ∀ t, Q (.int (x.fmod y) t) l H) : J w c (binaryOp .Mod (.int x t) (.int y u)) l H Q := .mk fun _ _ _ re => PyProof.Rows.mod_int' hy (re.tok.post (q _))
theorem J_fdiv {x y : Int} {t u : Tok} {Q : Value → Loc → Led → Prop} (hy : y ≠ 0) (q : ∀ t, Q (.int (x.fdiv y) t) l H) (hl : y.natAbs.log2 < 9000 := by decide) : J w c (binaryOp .FloorDiv (.int x t) (.int y u)) l H Q := .mk fun _ _ _ re => PyProof.Rows.floordiv_int hy (re.tok.post (q _)) (.inl (PyProof.noPylong_of_log2 hl))
theorem J_lt {x y : Int} {t u : Tok} {Q : Value → Loc → Led → Prop} (q : Q (.bool (decide (x < y))) l H) : J w c (compareOp .Lt (.int x t) (.int y u)) l H Q := .mk fun _ _ _ re => PyProof.Rows.lt_int (re.post q)
theorem J_gt {x y : Int} {t u : Tok} {Q : Value → Loc → Led → Prop} (q : Q (.bool (decide (y < x))) l H) : J w c (compareOp .Gt (.int x t) (.int y u)) l H Q := .mk fun _ _ _ re => PyProof.Rows.gt_int (re.post q)
theorem J_le {x y : Int} {t u : Tok} {Q : Value → Loc → Led → Prop} (q : Q (.bool (decide (x ≤ y))) l H) : J w c (compareOp .LtE (.int x t) (.int y u)) l H Q := .mk fun _ _ _ re => PyProof.Rows.le_int (re.post q)
theorem J_eqI {x y : Int} {t u : Tok} {Q : Value → Loc → Led → Prop} (q : Q (.bool (x == y)) l H) : J w c (compareOp .Eq (.int x t) (.int y u)) l H Q := .mk fun _ _ _ re => PyProof.Rows.eq_int (re.post q)
theorem J_neI {x y : Int} {t u : Tok} {Q : Value → Loc → Led → Prop} (q : Q (.bool (x != y)) l H) : J w c (compareOp .NotEq (.int x t) (.int y u)) l H Q := .mk fun _ _ _ re => PyProof.Rows.ne_int (re.post q)

-- lists
noncomputable abbrev lst (vs : List Value) (n : Nat) : Obj := listOf vs.toArray n
noncomputable abbrev tup (vs : List Value) : Obj := { cls := .type "tuple", data := .seq vs.toArray }
theorem isList_of {h : Heap} {vs : List Value} {n : Nat} (e : h.get? a = some (lst vs n)) : h.IsList a vs.toArray := ⟨_, e, rfl, n, rfl⟩
theorem isTup_of {h : Heap} {vs : List Value} (e : h.get? a = some (tup vs)) : IsTup h a vs.toArray := ⟨_, e, rfl, 0, rfl⟩
theorem J_newList {vs : List Value} {Q : Value → Loc → Led → Prop} (hz : vs.length ≤ 1000) (q : ∀ a, (∀ p ∈ H, p.1 ≠ a) → Q (.ref a) l ((a, lst vs 0) :: H)) : J w c (newList vs) l H Q :=
  .mk fun _ _ s re => wpAny_newObj_type ((re.push (lst vs 0)).post (q _ fun p hp => Nat.ne_of_lt (Heap.lt_size (re.st.led p hp).1))) (by show vs.toArray.size ≤ sizeLine; rw [List.size_toArray]; exact Nat.le_trans hz (by decide))
theorem J_newTuple {vs : List Value} {Q : Value → Loc → Led → Prop} (hz : vs.length ≤ 1000) (q : ∀ a, (∀ p ∈ H, p.1 ≠ a) → Q (.ref a) l ((a, tup vs) :: H)) : J w c (newTuple vs) l H Q :=
  .mk fun _ _ s re => wpAny_newObj_type ((re.push (tup vs)).post (q _ fun p hp => Nat.ne_of_lt (Heap.lt_size (re.st.led p hp).1))) (by show vs.toArray.size ≤ sizeLine; rw [List.size_toArray]; exact Nat.le_trans hz (by decide))
theorem J_len {vs : List Value} {n : Nat} {Q : Value → Loc → Led → Prop} (m : (a, lst vs n) ∈ H ∨ c.G a = some (lst vs n)) (hz : vs.length ≤ 1000) (q : ∀ t, Q (.int vs.length t) l H) : J w c (call (.builtin "len") [.ref a]) l H Q :=
  .mk fun _ _ s re => call_len_list (isList_of (re.get m)) (by rw [List.size_toArray]; omega) (by rw [List.size_toArray]; exact re.tok.post (q _))
theorem J_itemL {value slice : Expr} {vs : List Value} {n : Nat} {i : Int} {t : Tok} {v : Value} {Q : Value → Loc → Led → Prop} (m : (a, lst vs n) ∈ H ∨ c.G a = some (lst vs n)) (h0 : 0 ≤ i) (h1 : i < 2 ^ 63) (hv : vs[i.toNat]? = some v) (q : Q v l H)
    (hs : subscripted slice false (.ref a) (.int i t) = operate [.ref a, .int i t] (getItem (.ref a) (.int i t)) := by with_unfolding_all rfl) : J w c (subscriptTail value slice (.ref a) (.int i t)) l H Q :=
  .mk fun _ _ s re => tail_any (isList_of (re.get m)).typeIs slot_list_getitem.lookup (wpAny_getItem_list (isList_of (re.get m)) h0 h1 (by simpa using hv) (re.post q)) hs
theorem J_itemT {value slice : Expr} {vs : List Value} {i : Int} {t : Tok} {j : Nat} {v : Value} {Q : Value → Loc → Led → Prop} (m : (a, tup vs) ∈ H ∨ c.G a = some (tup vs)) (h0 : -(2 ^ 63) ≤ i) (h1 : i < 2 ^ 63) (hj : seqIndex? i vs.length = some j) (hv : vs[j]? = some v) (q : Q v l H)
    (hs : subscripted slice false (.ref a) (.int i t) = operate [.ref a, .int i t] (getItem (.ref a) (.int i t)) := by with_unfolding_all rfl) : J w c (subscriptTail value slice (.ref a) (.int i t)) l H Q :=
  .mk fun _ _ s re => item_tupleT (isTup_of (re.get m)) h0 h1 hj hv (re.post q) hs
theorem mapSeq_set {its : Array Value} {n : Nat} {i : Nat} {v : Value} : Obj.mapSeq (fun x => x.setIfInBounds i v) (listOf its n) = listOf (its.setIfInBounds i v) n := by
  unfold Obj.mapSeq; simp
theorem J_setL {vs : List Value} {n : Nat} {i : Int} {t : Tok} {v : Value} {Q : Unit → Loc → Led → Prop} (u : At a (lst vs n) (lst (vs.set i.toNat v) n) H H') (h0 : 0 ≤ i) (h1 : i < vs.length) (hz : vs.length ≤ 1000) (q : Q () l H') : J w c (setItem (.ref a) (.int i t) v) l H Q :=
  .mk fun _ _ s re => by
    have e := (re.st.led _ u.mem).1
    have e2 : Obj.mapSeq (fun x => x.setIfInBounds i.toNat v) (lst vs n) = lst (vs.set i.toNat v) n := by rw [mapSeq_set]; simp [lst]
    refine ki_setAt e h0 (by omega) (by rw [List.size_toArray]; exact h1) ((re.upd u (Heap.SameBut.update ..) ?_).post q)
    rw [Heap.get?_update_self _ e (by rw [e2]; rfl), e2]
theorem J_append {vs : List Value} {n : Nat} {v : Value} {Q : Value → Loc → Led → Prop} (u : At a (lst vs n) (lst (vs ++ [v]) (n + 1)) H H') (hz : vs.length ≤ 1000) (q : Q .none l H') : J w c (call (.builtin "list.append") [.ref a, v]) l H Q :=
  .mk fun _ _ s re => append_at (re.st.led _ u.mem).1 (fun h' hs ho => (re.upd u hs (by rw [ho]; simp [lst])).post q) (by rw [List.size_toArray]; exact Nat.le_trans hz (by decide))
end
end

-- J4
section
open PySem PySem.W PyProof.Rows PySem.Calls PySem.Spec
/-- one entry of a ledger, by its place, with the ledger as a function of what stands there -/
inductive AtF (a : Addr) (o : Obj) : Led → (Obj → Led) → Prop
  | head {t : Led} : AtF a o ((a, o) :: t) (fun o' => (a, o') :: t)
  | tail {p : Addr × Obj} {t : Led} {F : Obj → Led} : AtF a o t F → AtF a o (p :: t) (fun o' => p :: F o')
  | left {t r : Led} {F : Obj → Led} : AtF a o t F → AtF a o (t ++ r) (fun o' => F o' ++ r)
  | right {r t : Led} {F : Obj → Led} : AtF a o t F → AtF a o (r ++ t) (fun o' => r ++ F o')
theorem AtF.to {a : Addr} {o : Obj} {H : Led} {F : Obj → Led} (u : AtF a o H F) (o' : Obj) : At a o o' H (F o') := by
  induction u with
  | head => exact .head
  | tail _ ih => exact .tail ih
  | left _ ih => exact .left ih
  | right _ ih => exact .right ih

inductive EntsAre (w : World) : List DictEntry → Loc → Prop
  | nil : EntsAre w [] []
  | cons {es : List DictEntry} {fs : Loc} {x : Str} {t : Tok} {v : Value} : EntsAre w es fs → EntsAre w (⟨PyData.keyHash w.params x, .str x t, v⟩ :: es) ((x, v) :: fs)
/-- an object's dict by its fields -/
noncomputable def IsI (w : World) (o : Obj) (fs : Loc) : Prop := ∃ es n, o = dictOf es n ∧ EntsAre w es fs

theorem EntsAre.find {w : World} {x : Str} : ∀ {es : List DictEntry} {fs : Loc}, EntsAre w es fs → (es.find? (·.key.isStr x)).map (·.val) = fs.lookup x
  | _, _, .nil => rfl
  | _, _, .cons (x := y) (v := v) h => by
    rw [List.find?_cons, List.lookup_cons]
    have e : (Value.isStr (.str y ‹_›) x) = (x == y) := by
      show (y == x) = (x == y)
      by_cases q : x = y
      · subst q; rfl
      · rw [beq_eq_false_iff_ne.mpr q, beq_eq_false_iff_ne.mpr (Ne.symm q)]
    dsimp only
    rw [e]
    cases (x == y) with
    | true => rfl
    | false => exact h.find
theorem EntsAre.noRef {w : World} : ∀ {es : List DictEntry} {fs : Loc}, EntsAre w es fs → es.any (·.refKey) = false
  | _, _, .nil => rfl
  | _, _, .cons h => by rw [List.any_cons, h.noRef]; rfl
theorem EntsAre.get {w : World} {x : Str} {es : List DictEntry} {fs : Loc} (h : EntsAre w es fs) : getL x es = some (fs.lookup x) := by
  unfold getL
  rw [← h.find, h.noRef]
  cases es.find? (·.key.isStr x) <;> rfl
theorem EntsAre.put {w : World} {x : Str} {t : Tok} {v : Value} : ∀ {es : List DictEntry} {fs : Loc}, EntsAre w es fs → EntsAre w (putL x (PyData.keyHash w.params x) (.str x t) v es) (setL fs x v)
  | _, _, .nil => .cons .nil
  | _, _, .cons (x := y) (v := u) h => by
    unfold putL setL
    have e : (Value.isStr (.str y ‹_›) x) = (x == y) := by
      show (y == x) = (x == y)
      by_cases q : x = y
      · subst q; rfl
      · rw [beq_eq_false_iff_ne.mpr q, beq_eq_false_iff_ne.mpr (Ne.symm q)]
    dsimp only
    rw [e]
    cases q : (x == y) with
    | true => rw [if_pos rfl, if_pos rfl, beq_iff_eq.mp q]; exact .cons h
    | false => rw [if_neg Bool.false_ne_true, if_neg Bool.false_ne_true]; exact .cons h.put
theorem EntsAre.length {w : World} {es : List DictEntry} {fs : Loc} (h : EntsAre w es fs) : es.length = fs.length := by
  induction h with
  | nil => rfl
  | cons _ ih => rw [List.length_cons, List.length_cons, ih]
theorem setL_length (x : Str) (v : Value) : ∀ l : Loc, (setL l x v).length ≤ l.length + 1
  | [] => Nat.le_refl _
  | (y, u) :: r => by
    unfold setL
    split
    · exact Nat.le_succ _
    · exact Nat.succ_le_succ (setL_length x v r)

section
variable {w : World} {c : Cx} {l l' : Loc} {H H' H₀ R : Led} {h₀ h' hB : Heap} {mg mb : Str → Option Value} {α : Type} {t : Sem α} {s : Shared} {a b ca : Addr} {o o' : Obj} {tk : Nat} {env : Env} {k : Nat} {G : Addr → Option Obj} {bx : Option (Addr × Addr)}

theorem Re.inst (re : Re c H₀ h₀ l H s) {x C dx : Addr} {od : Obj} (m1 : (x, instObj C dx) ∈ H ∨ c.G x = some (instObj C dx)) (m2 : (dx, od) ∈ H ∨ c.G dx = some od) : InstAt s.heap x (instObj C dx) C (some od) := ⟨re.get m1, rfl, rfl, re.get m2⟩

theorem J_getAttr {x C dx : Addr} {od : Obj} {fs : Loc} {name : Str} {v : Value} {attr : Option Value} {expr : Bool} {Q : Value → Loc → Led → Prop} (ok : Ok w c k) (m1 : (x, instObj C dx) ∈ H ∨ c.G x = some (instObj C dx)) (m2 : (dx, od) ∈ H ∨ c.G dx = some od) (hd : IsI w od fs) (hv : fs.lookup name = some v)
    (hg : plainGet (Mine.hd.heap_39 w.params) C name = true) (hh : hasDictIn (Mine.hd.heap_39 w.params) C = true) (ha : findIn (Mine.hd.heap_39 w.params) (.ref C) name = some attr) (hn : noGet (Mine.hd.heap_39 w.params) attr = true) (hv' : handedIn v = true) (q : Q v l H) : J w c (getAttr (.ref x) name expr) l H Q :=
  .mk fun _ _ s re => by
    obtain ⟨hB, mg, mb, B⟩ := ok.base
    obtain ⟨es, n, rfl, he⟩ := hd
    obtain ⟨m, F, _⟩ := B.fr re
    exact get_own F B.kin (re.inst m1 m2) hg hh ha hn (by rw [he.get, hv]) hv' (re.tok.post q)
theorem J_setAttr {x C dx : Addr} {od : Obj} {fs fs' : Loc} {name : Str} {v : Value} {F : Obj → Led} {Q : Unit → Loc → Led → Prop} (ok : Ok w c k) (m1 : (x, instObj C dx) ∈ H ∨ c.G x = some (instObj C dx)) (u : AtF dx od H F) (hd : IsI w od fs) (e : SetL name v fs fs') (hz : fs.length ≤ 900)
    (hs : findIn (Mine.hd.heap_39 w.params) (.ref C) "__setattr__" = some (some (.builtin "object.__setattr__"))) (hp : plainOver (Mine.hd.heap_39 w.params) C = true) (ht : takerIn (Mine.hd.heap_39 w.params) C name = some none) (hh : hasDictIn (Mine.hd.heap_39 w.params) C = true)
    (q : ∀ od', IsI w od' fs' → Q () l (F od')) : J w c (setAttr (.ref x) name v) l H Q :=
  .mk fun _ _ s re => by
    obtain ⟨hB, mg, mb, B⟩ := ok.base
    obtain ⟨es, n, rfl, he⟩ := hd
    have ei := he.put (x := name) (t := s.toks + 1) (v := v)
    rw [← e.eq] at ei
    refine B.upd re (u.to (dictOf (putL name (PyData.keyHash w.params name) (.str name (s.toks + 1)) v es) (putN name es n))) fun pre post N h1 h2 m F back => ?_
    have dup : Upd dx (dictOf es n) (dictOf (putL name (PyData.keyHash w.params name) (.str name (s.toks + 1)) v es) (putN name es n)) (pre ++ (dx, dictOf es n) :: post) (pre ++ (dx, dictOf (putL name (PyData.keyHash w.params name) (.str name (s.toks + 1)) v es) (putN name es n)) :: post) := by
      clear N back
      induction pre with
      | nil => exact .head h2
      | cons p r ih => exact .tail (h1 p (.head _)) (ih fun p hp => h1 p (.tail _ hp))
    refine set_dict F B.kin N (re.inst m1 (.inl (u.to (dictOf es n)).mem)) rfl hs hp ht hh (by rw [he.get]; rfl) rfl dup ?_ fun h' F' N' => (back h' _ F' N').post (q _ ⟨_, _, rfl, ei⟩)
    have := ei.length
    have h3 := setL_length name v fs
    rw [← e.eq] at h3
    omega
theorem J_getMeth {x C dx : Addr} {od : Obj} {fs : Loc} {name : Str} {f : Addr} {pl : Sem Bool} {Q : Value × List Value → Loc → Led → Prop} (ok : Ok w c k) (m1 : (x, instObj C dx) ∈ H ∨ c.G x = some (instObj C dx)) (m2 : (dx, od) ∈ H ∨ c.G dx = some od) (hd : IsI w od fs) (hv : fs.lookup name = none)
    (hg : plainGet (Mine.hd.heap_39 w.params) C name = true) (hf : findIn (Mine.hd.heap_39 w.params) (.ref C) name = some (some (.ref f))) (ht : isFn (Mine.hd.heap_39 w.params) (.ref f) = true) (q : Q (.ref f, [.ref x]) l H) : J w c (getMethod (.ref x) name pl) l H Q :=
  .mk fun _ _ s re => by
    obtain ⟨hB, mg, mb, B⟩ := ok.base
    obtain ⟨es, n, rfl, he⟩ := hd
    obtain ⟨m, F, _⟩ := B.fr re
    exact method_inst F B.kin (re.inst m1 m2) hg hf ht (by rw [he.get, hv]) (re.post q)
theorem J_getMethCls {C : Addr} {name : Str} {mc f : Value} {pl : Sem Bool} {Q : Value × List Value → Loc → Led → Prop} (ok : Ok w c k)
    (hg : specialIn (Mine.hd.heap_39 w.params) (.ref C) "__getattribute__" = some (some (.builtin "type.__getattribute__"))) (hm : typeIn (Mine.hd.heap_39 w.params) (.ref C) = some mc) (hr : readsIn (Mine.hd.heap_39 w.params) C mc = true) (e : findCls (Mine.hd.heap_39 w.params) (.ref C) mc name = some (.val f)) (hh : handedIn f = true)
    (q : Q (f, []) l H) : J w c (getMethod (.ref C) name pl) l H Q :=
  .mk fun _ _ s re => by
    obtain ⟨hB, mg, mb, B⟩ := ok.base
    obtain ⟨m, F, _⟩ := B.fr re
    exact method_of_cls F B.kin hg (cls_val F B.kin hm hr e hh (re.tok.post q))
theorem J_callD {pos : Pos} {f : Value} {e : Expr} {rest : List Expr} {Q : Value → Loc → Led → Prop} (ok : Ok w c k) (hk : keepIn (Mine.hd.heap_39 w.params) f = true) (x : J w c (spliced (backTo pos (starEach (e :: rest) env))) l H (KCall w c f Q))
    (he : starEach (e :: rest) env = (false, eval e env) :: starEach rest env := by with_unfolding_all rfl) (hplain : (backTo pos (starEach rest env)).any (·.1) = false := by with_unfolding_all rfl) : J w c (callWith pos f [] (backTo pos (starEach (e :: rest) env)) []) l H Q :=
  .mk fun _ _ s re => by
    obtain ⟨hB, mg, mb, B⟩ := ok.base
    exact callWith_K B.kin hk (x.to re fun _ _ _ _ re q => ⟨B.kinS re, q.use re⟩) he hplain
theorem J_callDM {pos : Pos} {f self : Value} {e : Expr} {rest : List Expr} {Q : Value → Loc → Led → Prop} (ok : Ok w c k) (hk : keepIn (Mine.hd.heap_39 w.params) f = true) (x : J w c (spliced (backTo pos (starEach (e :: rest) env))) l H (KCallS w c f self Q))
    (he : starEach (e :: rest) env = (false, eval e env) :: starEach rest env := by with_unfolding_all rfl) (hplain : (backTo pos (starEach rest env)).any (·.1) = false := by with_unfolding_all rfl) : J w c (callWith pos f [self] (backTo pos (starEach (e :: rest) env)) []) l H Q :=
  .mk fun _ _ s re => by
    obtain ⟨hB, mg, mb, B⟩ := ok.base
    exact callWith_K B.kin hk (x.to re fun _ _ _ _ re q => ⟨B.kinS re, q.use re⟩) he hplain
theorem J_callD0 {pos : Pos} {f : Value} {Q : Value → Loc → Led → Prop} (ok : Ok w c k) (hk : keepIn (Mine.hd.heap_39 w.params) f = true) (x : J w c (call f []) l H Q) : J w c (callWith pos f [] (backTo pos (starEach [] env)) []) l H Q :=
  .mk fun _ _ s re => by
    obtain ⟨hB, mg, mb, B⟩ := ok.base
    exact callWith_K0 (B.kinS re) hk (x.use re)

theorem handled_under (A : Around) (cd : Code) : (A.under cd).handled = A.handled := rfl

/-- an object made: its __init__ by a contract over the new object -/
theorem J_new {C fI : Addr} {vs : List Value} {Q : Value → Loc → Led → Prop} (ok : Ok w c (k + 1)) (hm : makesIn (Mine.hd.heap_39 w.params) C = true) (hi : findIn (Mine.hd.heap_39 w.params) (.ref C) "__init__" = some (some (.ref fI))) (hf : typeIn (Mine.hd.heap_39 w.params) (.ref fI) = some (.type "function"))
    (x : ∀ x dx, x ≠ dx → (∀ p ∈ H, p.1 ≠ x ∧ p.1 ≠ dx) → (c.G x = none ∧ c.G dx = none) → CJ w c.G c.bx k (.ref fI) (.ref x :: vs) ((x, instObj C dx) :: (dx, dictOf [] 0) :: H) fun v H' => v = .none ∧ Q (.ref x) l H') : J w c (call (.ref C) vs) l H Q :=
  .mk fun H₀ h₀ s re => by
    obtain ⟨hB, mg, mb, B⟩ := ok.base
    have X := B.kinS re
    obtain ⟨hh, g, d, t, os⟩ := s
    refine wpAny_call (make_core (makes_of X hm) (looks_findIn X hi) (fun self => bind_fn X self hf) (.inl rfl) ?_)
    have f1 := re.st.fresh (Heap.none_size hh)
    have re1 := re.push (tk := t) emptyDict
    have f2 := re1.st.fresh (Heap.none_size (hh.push emptyDict))
    have re2 := re1.push (tk := t) (instObj C hh.objs.size)
    rw [Heap.size_push] at f2
    simp only [Heap.size_push] at re2
    have hx : hh.objs.size + 1 ≠ hh.objs.size := by omega
    have ok' : Ok w { c with A := c.A.under (.builtin "type.__call__" ⟨.ref C :: vs, []⟩) } k := ⟨⟨hB, mg, mb, B.kin, B.top, B.sub, B.above⟩, ok.hd, by have := ok.dep; show (c.A.under (.builtin "type.__call__" ⟨.ref C :: vs, []⟩)).depth + k ≤ 900; rw [depth_under_make]; omega, by have := ok.un; have := PyProof.Rows.units_under_make c.A C vs; show (c.A.under (.builtin "type.__call__" ⟨.ref C :: vs, []⟩)).units + 8 * k ≤ 9000; omega⟩
    have z := x (hh.objs.size + 1) hh.objs.size hx (fun p hp => ⟨fun e => f2.2.1 (e ▸ List.Mem.tail _ (mem_keys hp)), fun e => f1.2.1 (e ▸ mem_keys hp)⟩) ⟨f2.2.2, f1.2.2⟩
    have re3 : Re { c with A := c.A.under (.builtin "type.__call__" ⟨.ref C :: vs, []⟩) } H₀ h₀ l ((hh.objs.size + 1, instObj C hh.objs.size) :: (hh.objs.size, dictOf [] 0) :: H) ⟨(hh.push emptyDict).push (instObj C hh.objs.size), g, d, t, os⟩ := ⟨⟨re2.ok.1, re2.ok.2⟩, ⟨re2.st.ns, re2.st.kn, re2.st.led, re2.st.nd, re2.st.bx⟩, re2.pr, re2.nw⟩
    refine codeAny_mono (z { c with A := c.A.under (.builtin "type.__call__" ⟨.ref C :: vs, []⟩) } l rfl rfl ok' H₀ h₀ _ re3) fun r s' p => ?_
    cases r with
    | error e => exact p.elim
    | ok fl => cases fl with
      | ret v =>
        obtain ⟨ok₂, l₂, H₂, S₂, P₂, n₂, e1, e2, q1⟩ := p
        subst e1
        exact ⟨e2, ⟨ok₂.1, ok₂.2⟩, l₂, H₂, ⟨S₂.ns, S₂.kn, S₂.led, S₂.nd, S₂.bx⟩, P₂, n₂, q1⟩
      | _ => exact p.elim
end
end

-- J5
section
open PySem PySem.W PyProof.Rows PySem.Calls PySem.Spec
/-- what hands a loop its items -/
structure Trn (w : World) (A : Around) (target : Expr) (I : Addr) (fp wr : List Addr) (n : Nat) (P : Nat → Value → Led → Prop) (St_ : Nat → Heap → Prop) : Prop where
  sub : ∀ b ∈ wr, b ∈ fp
  alive : ∀ i h, St_ i h → ∀ b ∈ fp, (h.get? b).isSome
  frame : ∀ i h h', St_ i h → (∀ b ∈ fp, ∀ o, h.get? b = some o → h'.get? b = some o) → St_ i h'
  item : ∀ i (s : Shared) (Q : Value → Shared → Prop) (E : Value → Shared → Prop), i < n → St_ i s.heap →
    (∀ v K h' tk, P i v K → (∀ p ∈ K, h'.get? p.1 = some p.2 ∧ s.heap.get? p.1 = none) → (keys K).Nodup → St_ (i + 1) h' → (∀ b o, b ∉ wr → s.heap.get? b = some o → h'.get? b = some o) → Q v { s with heap := h', toks := tk }) →
    wpAny (model PR w) A (pyNext (.ref I)) (fun r s₁ => match r with
      | none => False
      | some v => wpAny (model PR w) A (letOwnedTupleGo target (.ref I) v) (fun _ s₂ => Q v s₂) E s₁) E s
  done : ∀ (s : Shared) (Q : Option Value → Shared → Prop) (E : Value → Shared → Prop), St_ n s.heap →
    (∀ h' tk, (∀ b o, b ∉ wr → s.heap.get? b = some o → h'.get? b = some o) → Q none { s with heap := h', toks := tk }) → wpAny (model PR w) A (pyNext (.ref I)) Q E s
  self : ∀ i (s : Shared) (Q : Value → Shared → Prop) (E : Value → Shared → Prop), St_ i s.heap → Q (.ref I) s → wpAny (model PR w) A (pyIter (.ref I)) Q E s

structure FpOk (c : Cx) (H : Led) (H₀ : Led) (h₀ : Heap) (fp wr : List Addr) : Prop where
  fp : ∀ b ∈ fp, b ∉ keys H ∧ c.off b
  wr : ∀ b ∈ wr, c.G b = none ∧ (b ∈ keys H₀ ∨ h₀.get? b = none)

noncomputable def Source (w : World) (c : Cx) (target : Expr) (xv : Value) (l : Loc) (H H' : Led) (n : Nat) (P : Nat → Value → Led → Prop) : Prop :=
  ∀ s, SOk c s → St c l H s.heap → wpAny (model PR w) c.A (pyIter xv) (fun it s' => ∃ I fp wr St_, it = .ref I ∧ Trn w c.A target I fp wr n P St_ ∧ St_ 0 s'.heap ∧ Re c H s.heap l H' s' ∧ FpOk c H' H s.heap fp wr) (fun _ _ => False) s

section
variable {w : World} {c : Cx} {l l' : Loc} {H H' H₀ R : Led} {h₀ h' h : Heap} {α β : Type} {t : Sem α} {s : Shared} {a b : Addr} {o o' : Obj} {tk : Nat} {env : Env} {k n : Nat} {fp wr : List Addr} {target : Expr} {P : Nat → Value → Led → Prop}

noncomputable def ext (c : Cx) (K : Led) : Cx := { c with G := Gu c.G K }

/-- the iterator has moved: what the frame knows stands -/
theorem Re.moved (re : Re c H₀ h₀ l H s) (F : FpOk c H H₀ h₀ fp wr) (sub : ∀ b ∈ wr, b ∈ fp) (hk : ∀ b o, b ∉ wr → s.heap.get? b = some o → h'.get? b = some o) : Re c H₀ h₀ l H { s with heap := h', toks := tk } := by
  have nw : ∀ b, b ∈ wr → b ∉ keys H ∧ c.off b := fun b hb => have z := F.fp b (sub b hb); ⟨z.1, z.2⟩
  refine ⟨⟨re.ok.1, re.ok.2⟩, ⟨?_, fun a o e => ?_, fun p hp => ?_, re.st.nd, fun p hp => ?_⟩, fun a o e ha ho => ?_, re.nw⟩
  · exact re.st.ns.at' fun o e => hk _ _ (fun q => (nw _ q).2.1 rfl) e
  · have z := re.st.kn a o e
    exact ⟨hk _ _ (fun q => by rw [(F.wr a q).1] at e; cases e) z.1, z.2⟩
  · have z := re.st.led p hp
    exact ⟨hk _ _ (fun q => (nw _ q).1 (mem_keys hp)) z.1, z.2⟩
  · have z := re.st.bx p hp
    exact ⟨z.1.keep (fun ob e => hk _ _ (fun q => ((nw _ q).2.2 p hp).1 rfl) e) (fun ob e => hk _ _ (fun q => ((nw _ q).2.2 p hp).2 rfl) e), z.2⟩
  · refine hk _ _ (fun q => ?_) (re.pr a o e ha ho)
    rcases (F.wr a q).2 with y | y
    · exact ha y
    · rw [e] at y; cases y
/-- a turn's tree, with what is new known, in a frame of its own or the same -/
theorem J.turn {c' : Cx} {K : Led} {lc : Loc} {t : Sem α} {Q : α → Loc → Led → Prop} {E : Value → Shared → Prop} {R : α → Shared → Prop}
    (x : J w c' t lc H Q) (hA : c'.A = c.A) (hG : c'.G = Gu c.G K) (hb : c'.bx = c.bx) (ho : c'.os = c.os)
    (re : Re c H₀ h₀ l H s) (hK : ∀ p ∈ K, s.heap.get? p.1 = some p.2 ∧ p.1 ∉ keys H ∧ c.off p.1 ∧ p.1 ≠ c'.L) (ns : NsP s.heap c'.L lc)
    (hL : c'.L = c.L ∨ (c'.L ∉ keys H ∧ c.off c'.L ∧ c.G c'.L = none ∧ (h₀.get? c'.L = none ∨ c'.L ∈ keys H₀)))
    (k : ∀ v s' lc' H', (lc' = lc' → NsP s'.heap c'.L lc') → (c'.L ≠ c.L → Re c H₀ h₀ l H' s') → (c'.L = c.L → Re c H₀ h₀ lc' H' s') → Pres c' H s.heap s'.heap → New H H' s.heap → Q v lc' H' → R v s') :
    wpAny (model PR w) c.A t R E s := by
  have offc : ∀ a, a ≠ c'.L → c.off a → c'.off a := fun a h x => ⟨h, fun p hp => x.2 p (hb ▸ hp)⟩
  have neL : ∀ a, a ∈ keys H ∨ (∃ o, c.G a = some o) → a ≠ c'.L := fun a h e => by
    rcases hL with q | q
    · rw [q] at e
      rcases h with h | ⟨o, h⟩
      · obtain ⟨p, hp, e'⟩ := List.mem_map.mp h
        exact (re.st.led p hp).2.1 (e'.trans e)
      · exact (re.st.kn a o h).2.1.1 e
    · rcases h with h | ⟨o, h⟩
      · exact q.1 (e ▸ h)
      · rw [e, q.2.2.1] at h; cases h
  have S : St c' lc H s.heap := by
    refine ⟨ns, fun a o e => ?_, fun p hp => ?_, re.st.nd, fun p hp => ?_⟩
    · rw [hG] at e
      rcases Gu_cases e with m | e
      · have z := hK _ m
        exact ⟨z.1, offc _ z.2.2.2 z.2.2.1, z.2.1⟩
      · have z := re.st.kn a o e
        exact ⟨z.1, offc _ (neL a (.inr ⟨o, e⟩)) z.2.1, z.2.2⟩
    · have z := re.st.led p hp
      exact ⟨z.1, offc _ (neL _ (.inl (mem_keys hp))) z.2⟩
    · rw [hb] at hp
      have z := re.st.bx p hp
      refine ⟨z.1, z.2.1, fun e => ?_, fun e => ?_⟩
      · rcases hL with q | q
        · exact z.2.2.1 (e.trans q)
        · exact (q.2.1.2 p hp).1 e.symm
      · rcases hL with q | q
        · exact z.2.2.2 (e.trans q)
        · exact (q.2.1.2 p hp).2 e.symm
  have y := x s ⟨re.ok.1, re.ok.2.trans ho.symm⟩ S
  rw [hA] at y
  refine wpAny_mono y (fun v s' P => ?_) fun _ _ e => e.elim
  obtain ⟨ok', l', H', S', p', n', q⟩ := P
  have ok2 : SOk c s' := ⟨ok'.1, ok'.2.trans ho⟩
  have pr : Pres c H₀ h₀ s'.heap := fun a o e ha hoff => by
    have e1 := re.pr a o e ha hoff
    refine p' a o e1 (fun z => ?_) (offc a (fun z => ?_) hoff)
    · rcases re.nw a z with y | y
      · exact ha y
      · rw [e] at y; cases y
    · rcases hL with q | q
      · exact hoff.1 (z.trans q)
      · rcases q.2.2.2 with y | y
        · rw [z, y] at e; cases e
        · exact ha (z ▸ y)
  have led' : ∀ p ∈ H', s'.heap.get? p.1 = some p.2 ∧ c.off p.1 := fun p hp => by
    have z := S'.led p hp
    refine ⟨z.1, ?_, fun r hr => z.2.2 r (hb.symm ▸ hr)⟩
    rcases n' p.1 (mem_keys hp) with y | y
    · obtain ⟨r, hr, e⟩ := List.mem_map.mp y
      rw [← e]; exact (re.st.led r hr).2.1
    · intro e
      obtain ⟨ob, eL⟩ := re.st.ns.obj
      rw [e, eL] at y; cases y
  have nw : New H₀ H' h₀ := New.trans re.pr (fun b hb => by obtain ⟨r, hr, rfl⟩ := List.mem_map.mp hb; exact (led' r hr).2) re.nw n'
  have kn' : ∀ a o, c.G a = some o → s'.heap.get? a = some o ∧ c.off a ∧ a ∉ keys H' := fun a o e => by
    have z := re.st.kn a o e
    refine ⟨p' a o z.1 z.2.2 (offc a (neL a (.inr ⟨o, e⟩)) z.2.1), z.2.1, fun q => ?_⟩
    rcases n' a q with y | y
    · exact z.2.2 y
    · rw [z.1] at y; cases y
  have bx' : ∀ p, c.bx = some p → BoxAt s'.heap p.1 p.2 ∧ p.1 ≠ p.2 ∧ p.1 ≠ c.L ∧ p.2 ≠ c.L := fun p hp => ⟨(S'.bx p (hb.symm ▸ hp)).1, (re.st.bx p hp).2⟩
  refine k v s' l' H' (fun _ => S'.ns) (fun hne => ?_) (fun e => ?_) p' n' q
  · refine ⟨ok2, ⟨?_, kn', led', S'.nd, bx'⟩, pr, nw⟩
    refine re.st.ns.at' fun o eL => p' _ _ eL (fun z => ?_) (⟨Ne.symm hne, fun p hp => ?_⟩)
    · obtain ⟨p, hp, e⟩ := List.mem_map.mp z
      exact (re.st.led p hp).2.1 e
    · have z := re.st.bx p (hb ▸ hp)
      exact ⟨Ne.symm z.2.2.1, Ne.symm z.2.2.2⟩
  · exact ⟨ok2, ⟨e ▸ S'.ns, kn', led', S'.nd, bx'⟩, pr, nw⟩

theorem FpOk.after (F : FpOk c H H₀ h₀ fp wr) (hs : ∀ b ∈ fp, (h.get? b).isSome) (n' : New H H' h) : FpOk c H' H₀ h₀ fp wr := by
  refine ⟨fun b hb' => ?_, F.wr⟩
  have z := F.fp b hb'
  obtain ⟨ob, e⟩ := Option.isSome_iff_exists.mp (hs b hb')
  refine ⟨fun q => ?_, z.2⟩
  rcases n' b q with y | y
  · exact z.1 y
  · rw [e] at y; cases y
theorem FpOk.same {c' : Cx} (F : FpOk c H H₀ h₀ fp wr) (hb : c'.bx = c.bx) (hL : ∀ b ∈ fp, b ≠ c'.L) (p' : Pres c' H h h') : ∀ b ∈ fp, ∀ o, h.get? b = some o → h'.get? b = some o := fun b hb' o e => by
  have z := F.fp b hb'
  exact p' b o e z.1 ⟨hL b hb', fun p hp => z.2.2 p (hb ▸ hp)⟩

/-- a for over a source, by what holds between the turns -/
theorem J_For {iter : Expr} {body : List Stmt} {pos : Pos} {Q : Flow → Loc → Led → Prop}
    (x : J w c (eval iter env) l H fun xv l₁ H₁ => ∃ n P H₂, ∃ Inv : Nat → Loc → Led → Prop, Source w c target xv l₁ H₁ H₂ n P ∧ Inv 0 l₁ H₂ ∧
      (∀ i v K l₃ H₃, i < n → P i v K → Inv i l₃ H₃ → ∀ G', (∀ a o, c.G a = some o → G' a = some o) → (∀ p ∈ K, G' p.1 = some p.2) → J w { c with G := G' } (assign target env v) l₃ H₃ fun _ l₄ H₄ => J w { c with G := G' } (execs body env) l₄ H₄ fun f l₅ H₅ => match f with
        | .next | .cont => Inv (i + 1) l₅ H₅
        | .brk => Q .next l₅ H₅
        | .ret u => Q (.ret u) l₅ H₅) ∧
      ∀ l₃ H₃, Inv n l₃ H₃ → Q .next l₃ H₃)
    (hs : ∀ x, foldedSetIterable iter env x = pure x := by intro _; rfl) : J w c (exec (.For target iter body [] pos) env) l H Q :=
  .mk fun H₀ h₀ s re => wpAny_For (x.to re fun xv s₁ l₁ H₁ re₁ q => by
    obtain ⟨n, P, H₂, Inv, src, i0, turn, done⟩ := q
    refine wpAny_mono (src s₁ re₁.ok re₁.st) (fun it s₂ y => ?_) fun _ _ e => e.elim
    obtain ⟨I, fp, wr, St_, rfl, W, st0, re₂, F⟩ := y
    refine codeAny_forLoop_any (fun k s' => ∃ i l₃ H₃, k = n - i + 1 ∧ i ≤ n ∧ Re c H₁ s₁.heap l₃ H₃ s' ∧ St_ i s'.heap ∧ FpOk c H₃ H₁ s₁.heap fp wr ∧ Inv i l₃ H₃) ?_ (n - 0 + 1) ⟨0, l₁, H₂, rfl, Nat.zero_le _, re₂, st0, F, i0⟩
    rintro k s' ⟨i, l₃, H₃, rfl, hi, re₃, st, F₃, iv⟩
    by_cases hlt : i < n
    · refine wpAny_mono (W.item i s' (fun v s₂ => wpAny (model PR w) c.A (assign target env v) (fun _ s₂ => wpAny (model PR w) c.A (execs body env) (fun f s₃ => match f with
            | .next | .cont => ∃ m, m < n - i + 1 ∧ ∃ i l₃ H₃, m = n - i + 1 ∧ i ≤ n ∧ Re c H₁ s₁.heap l₃ H₃ s₃ ∧ St_ i s₃.heap ∧ FpOk c H₃ H₁ s₁.heap fp wr ∧ Inv i l₃ H₃
            | .brk => Post c H₀ h₀ Q .next s₃
            | .ret v => Post c H₀ h₀ Q (.ret v) s₃) (fun _ _ => False) s₂) (fun _ _ => False) s₂) (fun _ _ => False) hlt st fun v K h₁ tk₁ hP hK nd st' hk => ?_) (fun r s₂ y => ?_) fun _ _ e => e.elim
      · have re₄ := re₃.moved (tk := tk₁) F₃ W.sub hk
        · have hKs : ∀ p ∈ K, h₁.get? p.1 = some p.2 ∧ p.1 ∉ keys H₃ ∧ c.off p.1 ∧ p.1 ≠ c.L := fun p hp => by
            have z := hK p hp
            have f := re₃.st.fresh z.2
            exact ⟨z.1, f.2.1, f.1, f.1.1⟩
          have nK : ∀ p ∈ K, c.G p.1 = none := fun p hp => (re₃.st.fresh (hK p hp).2).2.2
          have T := turn i v K l₃ H₃ hlt hP iv (Gu c.G K) (fun a o e => Gu_up (fun q => by obtain ⟨p, hp, e'⟩ := List.mem_map.mp q; rw [← e', nK p hp] at e; cases e) e) fun p hp => Gu_mem nd hp
          have ne : ∀ b ∈ fp, b ≠ c.L := fun b hb => (F₃.fp b hb).2.1
          refine T.turn (c := c) (K := K) rfl rfl rfl rfl re₄ hKs re₄.st.ns (.inl rfl) fun _ s₅ l₅ H₅ _ _ y5 p₅ n₅ q₅ => ?_
          have re₅ := y5 rfl
          have F₅ := F₃.after (W.alive _ _ st') n₅
          have st₅ := W.frame _ _ _ st' (F₃.same (c' := { c with G := Gu c.G K }) rfl ne p₅)
          have hKs5 : ∀ p ∈ K, s₅.heap.get? p.1 = some p.2 ∧ p.1 ∉ keys H₅ ∧ c.off p.1 ∧ p.1 ≠ c.L := fun p hp => by
            have z := hKs p hp
            exact ⟨p₅ _ _ z.1 z.2.1 z.2.2.1, (fun q => (n₅ _ q).elim z.2.1 fun y => by rw [z.1] at y; cases y), z.2.2⟩
          refine J.turn (c := c) (K := K) q₅ rfl rfl rfl rfl re₅ hKs5 re₅.st.ns (.inl rfl) fun f s₆ l₆ H₆ _ _ y6 p₆ n₆ q₆ => ?_
          have re₆ := y6 rfl
          have fin : Inv (i + 1) l₆ H₆ → ∃ m, m < n - i + 1 ∧ ∃ i l₃ H₃, m = n - i + 1 ∧ i ≤ n ∧ Re c H₁ s₁.heap l₃ H₃ s₆ ∧ St_ i s₆.heap ∧ FpOk c H₃ H₁ s₁.heap fp wr ∧ Inv i l₃ H₃ := fun iv' =>
            ⟨n - (i + 1) + 1, by omega, i + 1, l₆, H₆, rfl, hlt, re₆, W.frame _ _ _ st₅ (F₅.same (c' := { c with G := Gu c.G K }) rfl ne p₆), F₅.after (W.alive _ _ st₅) n₆, iv'⟩
          cases f with
          | next => exact fin q₆
          | cont => exact fin q₆
          | brk => exact Post.after re₁.st re₁.pr re₁.nw (re₆.post q₆)
          | ret v => exact Post.after re₁.st re₁.pr re₁.nw (re₆.post q₆)
      · cases r with
        | none => exact y.elim
        | some v => exact wpAny_mono y (fun _ s₃ z => wpAny_mono z (fun _ s₄ z => wpAny_mono z (fun f s₅ z => by cases f <;> exact z) fun _ _ e => e.elim) fun _ _ e => e.elim) fun _ _ e => e.elim
    · obtain rfl : i = n := by omega
      refine W.done s' _ _ st fun h₁ tk₁ hk => wpAny_execs_nil ?_
      exact Post.after re₁.st re₁.pr re₁.nw ((re₃.moved (tk := tk₁) F₃ W.sub hk).post (done l₃ H₃ iv))) hs
end
end

-- J6
section
open PySem PySem.W PyProof.Rows PySem.Calls PySem.Spec
noncomputable abbrev tests (ifs : List Expr) (env : Env) : Sem Bool := forIn ifs true fun c r => if r = true then do let ok ← isTrue c env (eval c env); pure (ForInStep.yield ok) else pure (ForInStep.yield r)

theorem compLoop_gen {w : World} {A : Around} {R : Result → Shared → Prop} {s : Shared} {elt target iter : Expr} {ifs : List Expr} {scope : Scope} {pos : Pos} {it acc : Value} {env : Env} (I : Nat → Shared → Prop)
    (turn : ∀ n s, I n s → wpAny (model PR w) A (pyNext it) (fun r s₁ => match r with
      | none => R (.ok .next) s₁
      | some v => wpAny (model PR w) A (letOwnedTupleGo target it v) (fun _ s₁ => wpAny (model PR w) A (assign target env v) (fun _ s₂ =>
          wpAny (model PR w) A (tests ifs env) (fun ok s₃ =>
            if ok = true then wpAny (model PR w) A (eval elt env) (fun x s₄ =>
              wpAny (model PR w) A (call (.builtin "list.append") [acc, x]) (fun _ s₅ => ∃ m, m < n ∧ I m s₅) (fun _ _ => False) s₄) (fun _ _ => False) s₃
            else ∃ m, m < n ∧ I m s₃) (fun _ _ => False) s₂) (fun _ _ => False) s₁) (fun _ _ => False) s₁) (fun _ _ => False) s)
    (n : Nat) (h : I n s) :
    codeAny (model PR w) A (.compLoop (.ListComp elt [⟨target, iter, ifs, 0⟩] scope pos) 0 it acc env) R s := by
  refine codeAny_loop rfl I (fun n s hI => ?_) n h
  show wpAny _ A ((compTurn (.ListComp elt [⟨target, iter, ifs, 0⟩] scope pos) 0 it acc env).onRaise (fun x => do noteFrame x env; theTreesLotGoes x)) _ _ s
  refine wpAny_noted ?_
  rw [compTurn_list]
  refine wpAny_bind (wpAny_standAt (wpAny_bind (wpAny_mono (turn n s hI) (fun r s₁ h₁ => ?_) fun _ _ h' => h'.elim)))
  cases r with
  | none => exact wpAny_pure h₁
  | some v =>
    refine wpAny_bind (wpAny_mono h₁ (fun _ s₁ h₁ => ?_) fun _ _ h' => h'.elim)
    refine wpAny_bind (wpAny_mono h₁ (fun _ s₂ h₂ => wpAny_bind (wpAny_mono h₂ (fun ok s₃ h₃ => ?_) fun _ _ h' => h'.elim)) fun _ _ h' => h'.elim)
    cases ok with
    | false => exact wpAny_pure ⟨rfl, h₃⟩
    | true =>
      exact wpAny_bind (wpAny_bind (wpAny_mono h₃ (fun x s₄ h₄ => wpAny_bind (wpAny_mono h₄ (fun _ s₅ h₅ => wpAny_pure (wpAny_pure ⟨rfl, h₅⟩)) fun _ _ h' => h'.elim)) fun _ _ h' => h'.elim))

theorem append_lst {w : World} {A : Around} {E : Value → Shared → Prop} {s : Shared} {D : Addr} {ys : List Value} {m : Nat} {x : Value} {Q : Value → Shared → Prop} (e : s.heap.get? D = some (lst ys m)) (hz : ys.length ≤ 1000)
    (h : ∀ h', Heap.SameBut D s.heap h' → h'.get? D = some (lst (ys ++ [x]) (m + 1)) → Q .none { s with heap := h' }) : wpAny (model PR w) A (call (.builtin "list.append") [.ref D, x]) Q E s :=
  append_at e (fun h' hs ho => h h' hs (by rw [ho]; simp [lst])) (by rw [List.size_toArray]; exact Nat.le_trans hz (by decide))

section
variable {w : World} {c : Cx} {l l' : Loc} {H H' H₀ R : Led} {h₀ h' h : Heap} {α β : Type} {t : Sem α} {s : Shared} {a b : Addr} {o o' : Obj} {tk : Nat} {env : Env} {k n : Nat} {fp wr : List Addr} {target : Expr} {P : Nat → Value → Led → Prop}

structure CompOk (w : World) (c : Cx) (env : Env) (target elt : Expr) (ifs : List Expr) (scope : Scope) (cl : List (Str × Addr)) (names : List Str) (n : Nat) (P : Nat → Value → Led → Prop) (B : Nat → List Value → Prop) (Inv : Nat → List Value → Led → Prop) : Prop where
  asg : ∀ i v K, i < n → P i v K → ∃ vals, B i vals ∧ vals.length = names.length ∧ ∀ G' C H, (∀ a o, c.G a = some o → G' a = some o) → (∀ p ∈ K, G' p.1 = some p.2) → c.A.handled = none →
    J w { c with G := G', L := C } (assign target (compEnvC scope cl C env) v) [] H fun _ l₄ H₄ => l₄ = names.zip vals ∧ H₄ = H
  turn : ∀ i vals ys H₃ G' C, i < n → B i vals → Inv i ys H₃ → (∀ a o, c.G a = some o → G' a = some o) → (∀ k, Ok w c k → Ok w { c with G := G', L := C } k) →
    J w { c with G := G', L := C } (tests ifs (compEnvC scope cl C env)) (names.zip vals) H₃ fun ok l₅ H₅ =>
      if ok = true then J w { c with G := G', L := C } (eval elt (compEnvC scope cl C env)) l₅ H₅ (fun y _ H₆ => Inv (i + 1) (ys ++ [y]) H₆) else Inv (i + 1) ys H₅

theorem comp_core {elt iter : Expr} {ifs : List Expr} {scope : Scope} {cl : List (Str × Addr)} {pos : Pos} {names : List Str} {B : Nat → List Value → Prop} {Inv : Nat → List Value → Led → Prop} {I : Addr} {St_ : Nat → Heap → Prop} {RR : Value → Addr → Result → Shared → Prop} {s₁ s₂ : Shared} {E : Value → Shared → Prop} {H₁ : Led}
    (hcell : ∀ y ∈ scope.names, y.2 ≠ .cell) (hkind : scope.kind = .function)
    (W : Trn w c.A target I fp wr n P St_) (st0 : St_ 0 s₂.heap) (re : Re c H₁ s₁.heap l H s₂) (F : FpOk c H H₁ s₁.heap fp wr) (hn : n ≤ 900)
    (C : CompOk w c env target elt ifs scope cl names n P B Inv) (hh : c.A.handled = none) (i0 : Inv 0 [] H) (hlen : ∀ i ys H, Inv i ys H → ys.length ≤ i)
    (fin : ∀ D C ys m H₃ s₃ m₃, Re c H₁ s₁.heap l ((D, lst ys m) :: H₃) s₃ → s₃.heap.Ns C m₃ → C ∉ keys ((D, lst ys m) :: H₃) → c.off C → (s₁.heap.get? C = none ∨ C ∈ keys H₁) → c.G C = none → Inv n ys H₃ → RR (.ref D) C (.ok .next) s₃) :
    wpAny (model PR w) c.A (newList []) (fun acc s₃ => wpAny (model PR w) c.A (newFunctionEnv scope env.globals cl [] env.qual none .none (some env)) (fun cenv s₄ =>
      codeAny (model PR w) c.A (.compStart (.ListComp elt [⟨target, iter, ifs, 0⟩] scope pos) 0 (.ref I) acc { cenv with scope := relabel scope env }) (RR acc cenv.locals) s₄) E s₃) E s₂ := by
  refine wpAny_newObj_type (wpAny_newFunctionEnv hcell (by intro y hy; simp at hy) (fun h₁ hns₁ hsb₁ => ?_) hkind)
  dsimp only at hns₁ hsb₁ ⊢
  have D0 := Heap.none_size s₂.heap
  have hDo : (s₂.heap.push (lst [] 0)).get? s₂.heap.objs.size = some (lst [] 0) := Heap.get?_push_size _ rfl
  generalize hD : s₂.heap.objs.size = D at *
  generalize hH2 : s₂.heap.push { cls := .type "list", dict := none, data := .seq ([] : List Value).toArray } = H2 at hns₁ hsb₁ ⊢
  have hDo : H2.get? D = some (lst [] 0) := by rw [← hH2]; exact hDo
  have C0 := Heap.none_size H2
  have up2 : ∀ b o, s₂.heap.get? b = some o → H2.get? b = some o := fun b o e => by rw [← hH2]; exact Heap.get?_push_of_some _ e
  generalize hC : H2.objs.size = Ca at *
  have up1 : ∀ b o, H2.get? b = some o → h₁.get? b = some o := fun b o e => hsb₁.extBut b o (fun q => by rw [q, C0] at e; cases e) (Heap.get?_push_of_some _ e)
  have up : ∀ b o, s₂.heap.get? b = some o → h₁.get? b = some o := fun b o e => up1 b o (up2 b o e)
  have hDC : D ≠ Ca := fun q => by rw [q, C0] at hDo; cases hDo
  have hCs : s₂.heap.get? Ca = none := by
    cases q : s₂.heap.get? Ca with
    | none => rfl
    | some o => rw [up2 _ _ q] at C0; cases C0
  have fD := re.st.fresh D0
  have fC := re.st.fresh hCs
  have s1C : ∀ a, s₂.heap.get? a = none → s₁.heap.get? a = none ∨ a ∈ keys H₁ := fun a e => by
    by_cases z : a ∈ keys H₁
    · exact .inr z
    · left
      cases q : s₁.heap.get? a with
      | none => rfl
      | some o =>
        rw [re.pr a o q z (re.st.fresh e).1] at e; cases e
  have re₁ : Re c H₁ s₁.heap l H { s₂ with heap := h₁, toks := s₂.toks + ([] : List (Str × Value)).length } := re.keep up
  have F₁ := F
  have st₁ : St_ 0 h₁ := W.frame _ _ _ st0 fun b _ o e => up b o e
  have D1 : h₁.get? D = some (lst [] 0) := up1 _ _ hDo
  have fpD : ∀ b ∈ fp, b ≠ D := fun b hb q => by have := W.alive _ _ st0 b hb; rw [q, D0] at this; cases this
  have fpC : ∀ b ∈ fp, b ≠ Ca := fun b hb q => by have := W.alive _ _ st0 b hb; rw [q, hCs] at this; cases this
  have loop : ∀ s₃ : Shared, s₃ = { s₂ with heap := h₁, toks := s₂.toks + ([] : List (Str × Value)).length } →
      codeAny (model PR w) c.A (.compLoop (.ListComp elt [⟨target, iter, ifs, 0⟩] scope pos) 0 (.ref I) (.ref D) (compEnvC scope cl Ca env))
        (RR (.ref D) Ca) s₃ := by
    rintro s₃ rfl
    refine compLoop_gen (fun k s' => ∃ i H₃ ys m, k = n - i + 1 ∧ i ≤ n ∧ Re c H₁ s₁.heap l H₃ s' ∧ St_ i s'.heap ∧ FpOk c H₃ H₁ s₁.heap fp wr ∧ Inv i ys H₃ ∧ D ∉ keys H₃ ∧ Ca ∉ keys H₃ ∧ s'.heap.get? D = some (lst ys m) ∧ NsP s'.heap Ca []) ?_ (n - 0 + 1)
      ⟨0, H, [], 0, rfl, Nat.zero_le _, re₁, st₁, F₁, i0, fD.2.1, fC.2.1, D1, NsP.of hns₁⟩
    rintro k s' ⟨i, H₃, ys, m, rfl, hi, re₃, st, F₃, iv, hD3, hC3, eD, nsC⟩
    have eCo : ∃ ob, s'.heap.get? Ca = some ob := nsC.obj
    by_cases hlt : i < n
    · refine wpAny_mono (W.item i s' (fun v s₂ => wpAny (model PR w) c.A (assign target (compEnvC scope cl Ca env) v) (fun _ s₂ => wpAny (model PR w) c.A (tests ifs (compEnvC scope cl Ca env)) (fun ok s₃ =>
            if ok = true then wpAny (model PR w) c.A (eval elt (compEnvC scope cl Ca env)) (fun x s₄ =>
              wpAny (model PR w) c.A (call (.builtin "list.append") [.ref D, x]) (fun _ s₅ => ∃ m, m < n - i + 1 ∧ ∃ i H₃ ys m', m = n - i + 1 ∧ i ≤ n ∧ Re c H₁ s₁.heap l H₃ s₅ ∧ St_ i s₅.heap ∧ FpOk c H₃ H₁ s₁.heap fp wr ∧ Inv i ys H₃ ∧ D ∉ keys H₃ ∧ Ca ∉ keys H₃ ∧ s₅.heap.get? D = some (lst ys m') ∧ NsP s₅.heap Ca []) (fun _ _ => False) s₄) (fun _ _ => False) s₃
            else ∃ m, m < n - i + 1 ∧ ∃ i H₃ ys m', m = n - i + 1 ∧ i ≤ n ∧ Re c H₁ s₁.heap l H₃ s₃ ∧ St_ i s₃.heap ∧ FpOk c H₃ H₁ s₁.heap fp wr ∧ Inv i ys H₃ ∧ D ∉ keys H₃ ∧ Ca ∉ keys H₃ ∧ s₃.heap.get? D = some (lst ys m') ∧ NsP s₃.heap Ca []) (fun _ _ => False) s₂) (fun _ _ => False) s₂) (fun _ _ => False) hlt st fun v K h₁ tk₁ hP hK nd st' hk => ?_) (fun r s₂ y => ?_) fun _ _ e => e.elim
      · have re₄ := re₃.moved (tk := tk₁) F₃ W.sub hk
        have hDw : D ∉ wr := fun q => fpD _ (W.sub _ q) rfl
        have hCw : Ca ∉ wr := fun q => fpC _ (W.sub _ q) rfl
        have nsC4 : NsP h₁ Ca [] := nsC.at' fun o e => hk _ o hCw e
        have eD4 := hk _ _ hDw eD
        have hKs : ∀ p ∈ K, h₁.get? p.1 = some p.2 ∧ p.1 ∉ keys H₃ ∧ c.off p.1 ∧ p.1 ≠ Ca := fun p hp => by
          have z := hK p hp
          have f := re₃.st.fresh z.2
          obtain ⟨ob, e⟩ := eCo
          exact ⟨z.1, f.2.1, f.1, fun q => by rw [← q, z.2] at e; cases e⟩
        have nK : ∀ p ∈ K, c.G p.1 = none := fun p hp => (re₃.st.fresh (hK p hp).2).2.2
        have upG : ∀ a o, c.G a = some o → Gu c.G K a = some o := fun a o e => Gu_up (fun q => by obtain ⟨p, hp, e'⟩ := List.mem_map.mp q; rw [← e', nK p hp] at e; cases e) e
        obtain ⟨vals, hB, hvl, asg⟩ := C.asg i v K hlt hP
        have neC : Ca ≠ c.L := fun q => by
          obtain ⟨ob, e⟩ := re.st.ns.obj
          rw [← q, hCs] at e; cases e
        have hLC : Ca = c.L ∨ (Ca ∉ keys H₃ ∧ c.off Ca ∧ c.G Ca = none ∧ (s₁.heap.get? Ca = none ∨ Ca ∈ keys H₁)) := .inr ⟨hC3, fC.1, fC.2.2, s1C _ hCs⟩
        have T1 := asg (Gu c.G K) Ca H₃ upG (fun p hp => Gu_mem nd hp) hh
        let c' : Cx := { c with G := Gu c.G K, L := Ca }
        have hDoff : D ≠ c'.L ∧ ∀ p, c.bx = some p → D ≠ p.1 ∧ D ≠ p.2 := ⟨hDC, fD.1.2⟩
        refine T1.turn (c := c) (K := K) rfl rfl rfl rfl re₄ hKs nsC4 hLC fun _ s₅ l₅ H₅ ns5 y5 _ p₅ n₅ q₅ => ?_
        obtain ⟨rfl, rfl⟩ := q₅
        have re₅ := y5 neC
        have ns5 := ns5 rfl
        have st₅ := W.frame _ _ _ st' (F₃.same (c' := c') rfl fpC p₅)
        have hKs5 : ∀ p ∈ K, s₅.heap.get? p.1 = some p.2 ∧ p.1 ∉ keys H₅ ∧ c.off p.1 ∧ p.1 ≠ Ca := fun p hp => by
          have z := hKs p hp
          exact ⟨p₅ _ _ z.1 z.2.1 ⟨z.2.2.2, z.2.2.1.2⟩, z.2⟩
        have eD5 : s₅.heap.get? D = some (lst ys m) := p₅ _ _ eD4 hD3 hDoff
        have F₅ := F₃.after (W.alive _ _ st') n₅
        have okk : ∀ k, Ok w c k → Ok w c' k := fun k ok => ⟨by
          obtain ⟨hB, mg, mb, B⟩ := ok.base
          refine ⟨hB, mg, mb, B.kin, B.top, fun a o e => upG a o (B.sub a o e), ?_⟩
          show hB.objs.size ≤ Ca
          have : hB.objs.size ≤ s₂.heap.objs.size := by
            refine Nat.le_trans B.above (Nat.le_of_lt re.st.ns.lt)
          rw [hD] at this
          have hlt2 : D < H2.objs.size := Heap.lt_size hDo
          omega, ok.hd, ok.dep, ok.un⟩
        refine J.turn (c := c) (K := K) (C.turn i vals ys H₅ (Gu c.G K) Ca hlt hB iv upG okk) rfl rfl rfl rfl re₅ hKs5 ns5 hLC fun ok s₆ l₆ H₆ ns6 y6 _ p₆ n₆ q₆ => ?_
        have re₆ := y6 neC
        have ns6 := ns6 rfl
        have st₆ := W.frame _ _ _ st₅ (F₅.same (c' := c') rfl fpC p₆)
        have F₆ := F₅.after (W.alive _ _ st₅) n₆
        have eD6 : s₆.heap.get? D = some (lst ys m) := p₆ _ _ eD5 hD3 hDoff
        have notin : ∀ a (H H' : Led) (h : Heap), a ∉ keys H → (h.get? a).isSome → New H H' h → a ∉ keys H' := fun a H H' h h1 h2 h3 q => by
          rcases h3 a q with y | y
          · exact h1 y
          · rw [y] at h2; cases h2
        have isC5 : (s₅.heap.get? Ca).isSome := by obtain ⟨ob, e⟩ := ns5.obj; rw [e]; rfl
        have isC6 : (s₆.heap.get? Ca).isSome := by obtain ⟨ob, e⟩ := ns6.obj; rw [e]; rfl
        have hD6 := notin D _ _ _ hD3 (by rw [eD5]; rfl) n₆
        have hC6 := notin Ca _ _ _ hC3 isC5 n₆
        cases ok with
        | false => exact ⟨n - (i + 1) + 1, by omega, i + 1, H₆, ys, m, rfl, hlt, re₆, st₆, F₆, q₆, hD6, hC6, eD6, ns6.less fun _ _ e => by cases e⟩
        | true =>
          have hKs6 : ∀ p ∈ K, s₆.heap.get? p.1 = some p.2 ∧ p.1 ∉ keys H₆ ∧ c.off p.1 ∧ p.1 ≠ Ca := fun p hp => by
            have z := hKs5 p hp
            exact ⟨p₆ _ _ z.1 z.2.1 ⟨z.2.2.2, z.2.2.1.2⟩, notin _ _ _ _ z.2.1 (by rw [z.1]; rfl) n₆, z.2.2⟩
          have hLC6 : Ca = c.L ∨ (Ca ∉ keys H₆ ∧ c.off Ca ∧ c.G Ca = none ∧ (s₁.heap.get? Ca = none ∨ Ca ∈ keys H₁)) := .inr ⟨hC6, fC.1, fC.2.2, s1C _ hCs⟩
          refine J.turn (c := c) (c' := c') (K := K) q₆ rfl rfl rfl rfl re₆ hKs6 ns6 hLC6 fun y s₇ l₇ H₇ ns7 y7 _ p₇ n₇ q₇ => ?_
          have re₇ := y7 neC
          have ns7 := ns7 rfl
          have st₇ := W.frame _ _ _ st₆ (F₆.same (c' := c') rfl fpC p₇)
          have F₇ := F₆.after (W.alive _ _ st₆) n₇
          have eD7 : s₇.heap.get? D = some (lst ys m) := p₇ _ _ eD6 hD6 hDoff
          have hD7 := notin D _ _ _ hD6 (by rw [eD6]; rfl) n₇
          have hC7 := notin Ca _ _ _ hC6 isC6 n₇
          have hl := hlen _ _ _ iv
          refine append_lst eD7 (by omega) fun h₈ hs₈ ho₈ => ?_
          have hb8 : ∀ b o, b ≠ D → s₇.heap.get? b = some o → h₈.get? b = some o := fun b o hb e => (hs₈.2 b hb).trans e
          have re₈ : Re c H₁ s₁.heap l H₇ { s₇ with heap := h₈ } := by
            refine ⟨⟨re₇.ok.1, re₇.ok.2⟩, ⟨re₇.st.ns.sameBut hs₈ (fun q => fD.1.1 q.symm), fun a o e => ?_, fun p hp => ?_, re₇.st.nd, fun p hp => ?_⟩, fun a o e ha ho => ?_, re₇.nw⟩
            · have z := re₇.st.kn a o e
              exact ⟨hb8 _ _ (fun q => by rw [q, fD.2.2] at e; cases e) z.1, z.2⟩
            · have z := re₇.st.led p hp
              exact ⟨hb8 _ _ (fun q => hD7 (q ▸ mem_keys hp)) z.1, z.2⟩
            · have z := re₇.st.bx p hp
              have n := fD.1.2 p hp
              exact ⟨z.1.keep (fun ob e => hb8 _ _ (Ne.symm n.1) e) (fun ob e => hb8 _ _ (Ne.symm n.2) e), z.2⟩
            · refine hb8 _ _ (fun q => ?_) (re₇.pr a o e ha ho)
              rcases s1C D D0 with y | y
              · rw [q, y] at e; cases e
              · exact ha (q ▸ y)
          exact ⟨n - (i + 1) + 1, by omega, i + 1, H₇, ys ++ [y], m + 1, rfl, hlt, re₈, W.frame _ _ _ st₇ (fun b hb o e => hb8 b o (fpD b hb) e), F₇, q₇, hD7, hC7, ho₈, (ns7.less fun _ _ e => by cases e).sameBut hs₈ (Ne.symm hDC)⟩
      · cases r with
        | none => exact y.elim
        | some v => exact wpAny_mono y (fun _ s₃ z => z) fun _ _ e => e.elim
    · obtain rfl : i = n := by omega
      refine W.done s' _ _ st fun h₂ tk₂ hk => ?_
      have hDw : D ∉ wr := fun q => fpD _ (W.sub _ q) rfl
      have hCw : Ca ∉ wr := fun q => fpC _ (W.sub _ q) rfl
      have re₄ := re₃.moved (tk := tk₂) F₃ W.sub hk
      have eD4 := hk _ _ hDw eD
      have nsC4 : NsP h₂ Ca [] := nsC.at' fun o e => hk _ o hCw e
      have s1D : s₁.heap.get? D = none ∨ D ∈ keys H₁ := s1C D D0
      obtain ⟨mC, nsC5, _⟩ := nsC4
      refine fin D Ca ys m H₃ _ mC ⟨⟨re₄.ok.1, re₄.ok.2⟩, ⟨re₄.st.ns, fun a o e => ?_, fun p hp => ?_, List.nodup_cons.mpr ⟨hD3, re₄.st.nd⟩, re₄.st.bx⟩, re₄.pr, fun a ha => ?_⟩ nsC5 ?_ fC.1 (s1C Ca hCs) fC.2.2 iv
      · have z := re₄.st.kn a o e
        refine ⟨z.1, z.2.1, fun q => ?_⟩
        rcases List.mem_cons.mp q with q | q
        · have q' : a = D := q
          rw [q', fD.2.2] at e; cases e
        · exact z.2.2 q
      · rcases List.mem_cons.mp hp with rfl | hp
        · exact ⟨eD4, fD.1⟩
        · exact re₄.st.led p hp
      · rcases List.mem_cons.mp ha with q | q
        · have q' : a = D := q
          rw [q']; exact s1D.symm
        · exact re₄.nw a q
      · intro q
        rcases List.mem_cons.mp q with q | q
        · exact hDC q.symm
        · exact hC3 q
  exact codeAny_compStart_list (loop _ rfl) (W.self 0 _ _ _ st₁ (loop _ rfl))

theorem Re.butC {H₁ : Led} {h₁ : Heap} {C : Addr} (re : Re c H₁ h₁ l H s) (hC : C ∉ keys H) (off : c.off C) (hn : h₁.get? C = none ∨ C ∈ keys H₁) (hG : c.G C = none) (hs : Heap.SameBut C s.heap h') : Re c H₁ h₁ l H { s with heap := h' } := by
  have hb : ∀ b o, b ≠ C → s.heap.get? b = some o → h'.get? b = some o := fun b o hb e => (hs.2 b hb).trans e
  refine ⟨⟨re.ok.1, re.ok.2⟩, ⟨re.st.ns.sameBut hs (fun q => off.1 q.symm), fun a o e => ?_, fun p hp => ?_, re.st.nd, fun p hp => ?_⟩, fun a o e ha ho => ?_, re.nw⟩
  · have z := re.st.kn a o e
    exact ⟨hb _ _ (fun q => by rw [q, hG] at e; cases e) z.1, z.2⟩
  · have z := re.st.led p hp
    exact ⟨hb _ _ (fun q => hC (q ▸ mem_keys hp)) z.1, z.2⟩
  · have z := re.st.bx p hp
    have n := off.2 p hp
    exact ⟨z.1.keep (fun ob e => hb _ _ (Ne.symm n.1) e) (fun ob e => hb _ _ (Ne.symm n.2) e), z.2⟩
  · refine hb _ _ (fun q => ?_) (re.pr a o e ha ho)
    rcases hn with y | y
    · rw [q, y] at e; cases e
    · exact ha (q ▸ y)

theorem relabel_eq {scope : Scope} : Env.scope { env with scope := scope } = scope := rfl

@[reducible] noncomputable def KComp (w : World) (c : Cx) (env : Env) (target elt : Expr) (ifs : List Expr) (scope : Scope) (cl : List (Str × Addr)) (names : List Str) (Q : Value → Loc → Led → Prop) : Value → Loc → Led → Prop := fun xv l₁ H₁ => ∃ n P H₂ B, ∃ Inv : Nat → List Value → Led → Prop, n ≤ 900 ∧ Source w c target xv l₁ H₁ H₂ n P ∧ Inv 0 [] H₂ ∧ (∀ i ys H, Inv i ys H → ys.length ≤ i) ∧
      CompOk w c env target elt ifs scope cl names n P B Inv ∧ ∀ D ys m H₃, Inv n ys H₃ → Q (.ref D) l₁ ((D, lst ys m) :: H₃)
/-- a list made by a comprehension -/
theorem J_ListComp {elt iter : Expr} {ifs : List Expr} {scope : Scope} {pos : Pos} {Q : Value → Loc → Led → Prop} (cl : List (Str × Addr)) (names : List Str)
    (hh : c.A.handled = none)
    (x : J w c (eval iter env) l H (KComp w c env target elt ifs scope cl names Q))
    (hclos : closureFor scope env = pure cl := by with_unfolding_all rfl) (hcell : ∀ y ∈ scope.names, y.2 ≠ .cell := by decide) (hkind : scope.kind = .function := by rfl)
    (hnames : ∀ y ∈ scope.names, y.2 = .local → scope.names.lookup y.1 = some .local := by decide)
    (hs : ∀ x, foldedSetIterable iter env x = pure x := by intro _; rfl) :
    J w c (eval (.ListComp elt [⟨target, iter, ifs, 0⟩] scope pos) env) l H Q :=
  .mk fun H₀ h₀ s re => by
    rw [eval_ListComp]
    refine wpAny_comprehension_free (use := none) rfl hs hclos hkind hnames (x.to re fun xv s₁ l₁ H₁ re₁ q => ?_)
    obtain ⟨n, P, H₂, B, Inv, hn, src, i0, hlen, C, fin⟩ := q
    refine wpAny_mono (src s₁ re₁.ok re₁.st) (fun it s₂ y => ?_) fun _ _ e => e.elim
    obtain ⟨I, fp, wr, St_, rfl, W, st0, re₂, F⟩ := y
    refine comp_core (RR := fun acc C => compPost (model PR w) c.A (fun _ _ => False) none (Post c H₀ h₀ Q) acc C) hcell hkind W st0 re₂ F hn C hh i0 hlen fun D C ys m H₃ s₃ m₃ re₃ ns hC off hn hG iv => ?_
    exact ⟨m₃, ns, fun h' hs' => Post.after re₁.st re₁.pr re₁.nw ((re₃.butC hC off hn hG hs').post (fin D ys m H₃ iv))⟩
/-- a list made by a comprehension and stored under a name at once -/
theorem J_Assign_ListComp {elt iter : Expr} {ifs : List Expr} {scope : Scope} {pos spos py : Pos} {y : Str} {Q : Flow → Loc → Led → Prop} (cl : List (Str × Addr)) (names : List Str)
    (hh : c.A.handled = none)
    (x : J w c (eval iter env) l H (KComp w c env target elt ifs scope cl names (KStore w c env y Q)))
    (hsw : swapsWith (.ListComp elt [⟨target, iter, ifs, 0⟩] scope pos) (some (.Name y py)) spos.line env = pure true := by with_unfolding_all rfl)
    (hclos : closureFor scope env = pure cl := by with_unfolding_all rfl) (hcell : ∀ y ∈ scope.names, y.2 ≠ .cell := by decide) (hkind : scope.kind = .function := by rfl)
    (hnames : ∀ y ∈ scope.names, y.2 = .local → scope.names.lookup y.1 = some .local := by decide)
    (hs : ∀ x, foldedSetIterable iter env x = pure x := by intro _; rfl) :
    J w c (exec (.Assign [.Name y py] (.ListComp elt [⟨target, iter, ifs, 0⟩] scope pos) spos) env) l H Q :=
  .mk fun H₀ h₀ s re => by
    rw [exec_Assign_Name_used _ _ _ _ hsw]
    refine wpAny_bind (wpAny_standAt (wpAny_bind ?_))
    show wpAny _ c.A (do let _ ← comprehension (.ListComp elt [⟨target, iter, ifs, 0⟩] scope pos) scope env _ (newList []) false (eval iter env) (some (assign (.Name y py) env))) _ _ s
    refine wpAny_bind (wpAny_mono (wpAny_comprehension_free (use := some (assign (.Name y py) env)) (Q := fun _ s' => Post c H₀ h₀ Q .next s') rfl hs hclos hkind hnames (x.to re fun xv s₁ l₁ H₁ re₁ q => ?_)) (fun _ s' hq => wpAny_pure (wpAny_pure hq)) fun _ _ e => e)
    obtain ⟨n, P, H₂, B, Inv, hn, src, i0, hlen, C, fin⟩ := q
    refine wpAny_mono (src s₁ re₁.ok re₁.st) (fun it s₂ z => ?_) fun _ _ e => e.elim
    obtain ⟨I, fp, wr, St_, rfl, W, st0, re₂, F⟩ := z
    refine comp_core (RR := fun acc C => compPost (model PR w) c.A (fun _ _ => False) (some (assign (.Name y py) env)) (fun _ s' => Post c H₀ h₀ Q .next s') acc C) hcell hkind W st0 re₂ F hn C hh i0 hlen fun D C ys m H₃ s₃ m₃ re₃ ns hC off hn hG iv => ?_
    have neC : C ≠ c.L := off.1
    refine wpAny_mono (PyProof.Rows.assign_Name (wpAny_mono ((fin D ys m H₃ iv) s₃ re₃.ok re₃.st) (fun v s' p => p) fun _ _ e => e)) (fun _ s₄ p => ?_) fun _ _ e => e
    obtain ⟨ok4, l₄, H₄, S₄, p₄, n₄, q₄⟩ := p
    have re₄ : Re c H₁ s₁.heap l₄ H₄ s₄ := ⟨ok4, S₄, Pres.trans re₃.st re₃.pr re₃.nw p₄, New.trans re₃.pr (fun b hb => by obtain ⟨r, hr, rfl⟩ := List.mem_map.mp hb; exact (S₄.led r hr).2) re₃.nw n₄⟩
    have hC' : C ∉ keys H₄ := fun q => by
      rcases n₄ C q with y | y
      · exact hC y
      · obtain ⟨ob, _, _, e, _⟩ := ns
        rw [e] at y; cases y
    refine ⟨m₃, ns.at' fun o e => p₄ _ o e hC off, fun h' hs' => Post.after re₁.st re₁.pr re₁.nw ((re₄.butC hC' off hn hG hs').post q₄)⟩
end
end

-- J7
section
open PySem PySem.W PyProof.Rows PySem.Calls PySem.Spec
noncomputable abbrev rng (a b : Int) (t u v : Tok) : Obj := { cls := .type "range", data := .fields #[.int a t, .int b u, .int 1 v] }
noncomputable def IsIt (a : Addr) (o : Obj) : Prop := o.cls = .type "list_iterator" ∧ o.data = .fields #[.ref a, .int 0 0]
noncomputable def IsEn (it : Addr) (o : Obj) : Prop := ∀ h : Heap, ∀ e, h.get? e = some o → IsEnum h e it 0 .none
noncomputable abbrev revO (a : Addr) (n : Nat) : Obj := revObj a ((n : Int) - 1)

section
variable {w : World} {c : Cx} {l l' : Loc} {H H' H₀ R : Led} {h₀ h' h : Heap} {α β : Type} {t : Sem α} {s : Shared} {a b : Addr} {o o' : Obj} {tk : Nat} {env : Env} {k n : Nat} {fp wr : List Addr} {target : Expr} {P : Nat → Value → Led → Prop}

theorem Trn.of {A : Around} {I : Addr} {Pv : Nat → Value → Prop} {St_ : Nat → Heap → Prop} (W : Walks PR w A I fp wr n Pv St_) (al : ∀ i h, St_ i h → ∀ b ∈ fp, (h.get? b).isSome)
    (hgo : ∀ i v (s : Shared) (Q : Unit → Shared → Prop) (E : Value → Shared → Prop), St_ i s.heap → Q () s → wpAny (model PR w) A (letOwnedTupleGo target (.ref I) v) Q E s) :
    Trn w A target I fp wr n (fun i v K => Pv i v ∧ K = []) St_ where
  sub := W.sub
  alive := al
  frame := W.frame
  item := fun i s Q E hi st h => W.item i s _ E hi st fun v h' tk hP st' hk => hgo (i + 1) v _ _ E st' (h v [] h' tk ⟨hP, rfl⟩ (fun p hp => by cases hp) List.nodup_nil st' hk)
  done := W.done
  self := W.self

theorem St.ne_new (S : St c l H h) (m : c.G a = some o) : a ≠ h.objs.size := Nat.ne_of_lt (Heap.lt_size (S.kn _ _ m).1)

theorem Source.list {vs : List Value} {m : Nat} (hh : c.A.handled = none) (e : c.G a = some (lst vs m)) : Source w c target (.ref a) l H H vs.length (fun i v K => vs[i]? = some v ∧ K = []) := fun s ok S => by
  have hl := isList_of (S.kn _ _ e).1
  refine wpAny_pyIter_list hl ?_
  have re : Re c H s.heap l H s := ⟨ok, S, Pres.refl, New.refl⟩
  have f := S.fresh (Heap.none_size s.heap)
  have ne := S.ne_new e
  have W := Walks.list (prog := PR) (w := w) (A := c.A) hh s.heap.objs.size a ne vs.toArray
  have W2 : Trn w c.A target s.heap.objs.size [s.heap.objs.size, a] [s.heap.objs.size] vs.length (fun i v K => vs[i]? = some v ∧ K = []) (fun i h => h.IsListIter s.heap.objs.size a i ∧ h.IsList a vs.toArray) := by
    have := Trn.of (target := target) W (fun i h st b hb => by
      rcases List.mem_cons.mp hb with rfl | hb
      · obtain ⟨o, e, _⟩ := st.1; rw [e]; rfl
      · rw [List.mem_singleton.mp hb]; obtain ⟨o, e, _⟩ := st.2; rw [e]; rfl) (fun i v s Q E st q => letGo_listiter st.1 q)
    rw [List.size_toArray] at this
    refine ⟨this.sub, this.alive, this.frame, fun i s Q E hi st h => this.item i s Q E hi st fun v K h' tk hP => h v K h' tk ?_, this.done, this.self⟩
    exact ⟨by simpa using hP.1, hP.2⟩
  refine ⟨_, _, _, _, rfl, W2, ⟨⟨_, Heap.get?_push_size _ rfl, rfl, rfl⟩, hl.at fun o e => Heap.get?_push_of_some _ e⟩, re.keep fun _ _ e => Heap.get?_push_of_some _ e, ⟨fun b hb => ?_, fun b hb => ?_⟩⟩
  · rcases List.mem_cons.mp hb with rfl | hb
    · exact ⟨f.2.1, f.1⟩
    · rw [List.mem_singleton.mp hb]
      have z := S.kn _ _ e
      exact ⟨z.2.2, z.2.1⟩
  · rw [List.mem_singleton.mp hb]
    exact ⟨f.2.2, .inr (Heap.none_size _)⟩

theorem Source.range {x y : Int} {t u v : Tok} (hh : c.A.handled = none) (m : (a, rng x y t u v) ∈ H ∨ c.G a = some (rng x y t u v)) (hn : (y - x).toNat = n) (h1 : -(2 ^ 62) ≤ x) (h2 : x < 2 ^ 62) (h3 : -(2 ^ 62) ≤ y) (h4 : y < 2 ^ 62)
    (ht : ∀ it v, letOwnedTupleGo target it v = pure ()) : Source w c target (.ref a) l H H n (fun i v K => ∃ t, v = .int (x + i) t ∧ K = []) := fun s ok S => by
  have re : Re c H s.heap l H s := ⟨ok, S, Pres.refl, New.refl⟩
  have e := re.get m
  refine wpAny_pyIter_range e (small_one h1 h2 h3 h4) ?_
  have f := S.fresh (Heap.none_size s.heap)
  have W := PyProof.Rows.LCg.range_walks (prog := PR) (w := w) (A := c.A) (I := s.heap.objs.size) hh x n
  have W2 : Trn w c.A target s.heap.objs.size [s.heap.objs.size] [s.heap.objs.size] n (fun i v K => ∃ t, v = .int (x + i) t ∧ K = []) (fun i h => IsRangeIter h s.heap.objs.size (x + (i : Nat) * 1) ((n : Int) - (i : Nat)) 1) := by
    have := Trn.of (target := target) W (fun i h st b hb => by
      rw [List.mem_singleton.mp hb]
      have st' : h.get? _ = some _ := st
      rw [st']; rfl) (fun i v s Q E st q => by rw [ht]; exact wpAny_pure q)
    refine ⟨this.sub, this.alive, this.frame, fun i s Q E hi st h => this.item i s Q E hi st fun v K h' tk hP => h v K h' tk ?_, this.done, this.self⟩
    obtain ⟨⟨t, e⟩, e'⟩ := hP
    exact ⟨t, e, e'⟩
  refine ⟨_, _, _, _, rfl, W2, ?_, re.keep fun _ _ e => Heap.get?_push_of_some _ e, ⟨fun b hb => ?_, fun b hb => ?_⟩⟩
  · show IsRangeIter _ _ _ _ _
    have : Builtin.Range.rangeSize x y 1 = (n : Int) - ((0 : Nat) : Int) := by
      unfold Builtin.Range.rangeSize
      subst hn
      simp only [show (1 : Int) > 0 by decide, if_true, Int.ediv_one]
      split <;> omega
    rw [this]
    have : x = x + ((0 : Nat) : Int) * 1 := by omega
    rw [← this]
    exact Heap.get?_push_size _ rfl
  · rw [List.mem_singleton.mp hb]; exact ⟨f.2.1, f.1⟩
  · rw [List.mem_singleton.mp hb]
    exact ⟨f.2.2, .inr (Heap.none_size _)⟩

theorem Source.enum {vs : List Value} {m : Nat} {e it : Addr} {oe oi : Obj} {elts : List Expr} {kk : Nat} {tp : Pos} (hh : c.A.handled = none) (ea : c.G a = some (lst vs m)) (he : IsEn it oe) (hi : IsIt a oi) :
    Source w c (.Tuple elts kk tp) (.ref e) l ((e, oe) :: (it, oi) :: H) H vs.length (fun i v K => ∃ T t x o, vs[i]? = some x ∧ v = .ref T ∧ K = [(T, o)] ∧ o.cls = .type "tuple" ∧ ∃ n, o.data = .seq #[.int i t, x] n) := fun s ok S => by
  have hl := isList_of (S.kn _ _ ea).1
  have z := S.led (e, oe) (.head _)
  have z2 := S.led (it, oi) (.tail _ (.head _))
  have za := S.kn _ _ ea
  have nd := List.nodup_cons.mp S.nd
  have nd2 := List.nodup_cons.mp nd.2
  have hE := he _ _ z.1
  refine wpAny_pyIter_enum hE ?_
  have eit : e ≠ it := fun q => nd.1 (q ▸ .head _)
  have ae : a ≠ e := fun q => za.2.2 (q ▸ .head _)
  have ai : a ≠ it := fun q => za.2.2 (q ▸ .tail _ (.head _))
  have W := WalksT.enumerate (prog := PR) (w := w) (A := c.A) hh e it a eit ae ai vs.toArray
  rw [List.size_toArray] at W
  have re : Re c ((e, oe) :: (it, oi) :: H) s.heap l H s := ⟨ok, ⟨S.ns, fun a o e => have z := S.kn a o e; ⟨z.1, z.2.1, fun q => z.2.2 (.tail _ (.tail _ q))⟩, fun p hp => S.led p (.tail _ (.tail _ hp)), nd2.2, S.bx⟩, Pres.refl, fun a ha => .inl (.tail _ (.tail _ ha))⟩
  have nG : ∀ b, b ∈ keys ((e, oe) :: (it, oi) :: H) → c.G b = none := fun b hb => by
    cases q : c.G b with
    | none => rfl
    | some o => exact absurd hb (S.kn b o q).2.2
  have W2 : Trn w c.A (.Tuple elts kk tp) e [e, it, a] [e, it] vs.length (fun i v K => ∃ T t x o, vs[i]? = some x ∧ v = .ref T ∧ K = [(T, o)] ∧ o.cls = .type "tuple" ∧ ∃ n, o.data = .seq #[.int i t, x] n)
      (fun i h => (∃ old, IsEnum h e it i old) ∧ h.IsListIter it a i ∧ h.IsList a vs.toArray) := by
    refine ⟨W.sub, fun i h st b hb => ?_, W.frame, fun i s Q E hi st h => ?_, W.done, W.self⟩
    · obtain ⟨⟨old, h1⟩, ⟨_, h2, _⟩, ⟨_, h3, _⟩⟩ := st
      have h1' : ∃ o, h.get? e = some o := ⟨_, h1⟩
      obtain ⟨o1, h1'⟩ := h1'
      rcases List.mem_cons.mp hb with rfl | hb
      · rw [h1']; rfl
      · rcases List.mem_cons.mp hb with rfl | hb
        · rw [h2]; rfl
        · rw [List.mem_singleton.mp hb, h3]; rfl
    · refine wpAny_mono (W.item i s (fun r s₁ => match r with
      | none => False
      | some v => wpAny (model PR w) c.A (letOwnedTupleGo (.Tuple elts kk tp) (.ref e) v) (fun _ s₂ => Q v s₂) E s₁) E hi st fun T vals h1 tk hP hsz hIT hM hk => ?_) (fun r s₁ q => by cases r <;> exact q) fun _ _ e => e
      refine W.go elts kk tp i T _ _ E hM fun h2 st2 hk2 => ?_
      obtain ⟨t, x, hx, rfl⟩ := hP
      obtain ⟨ot, eT, hc, nn, hd⟩ := hIT
      have Tw := W.apart _ _ _ hM
      refine h (.ref T) [(T, ot)] h2 tk ⟨T, t, x, ot, by simpa using hx, rfl, rfl, hc, nn, hd⟩ (fun p hp => ?_) (by simp) st2 fun b o hb e => hk2 b o hb (hk b o hb e)
      rw [List.mem_singleton.mp hp]
      refine ⟨hk2 _ _ Tw eT, ?_⟩
      cases q : s.heap.get? T with
      | none => rfl
      | some o => exact absurd (Heap.lt_size q) (Nat.not_lt.mpr hsz)
  refine ⟨e, [e, it, a], [e, it], _, rfl, W2, ⟨⟨_, hE⟩, ⟨_, z2.1, hi.1, hi.2⟩, hl⟩, re, ⟨fun b hb => ?_, fun b hb => ?_⟩⟩
  · rcases List.mem_cons.mp hb with rfl | hb
    · exact ⟨fun q => nd.1 (.tail _ q), z.2⟩
    · rcases List.mem_cons.mp hb with rfl | hb
      · exact ⟨nd2.1, z2.2⟩
      · rw [List.mem_singleton.mp hb]; exact ⟨fun q => za.2.2 (.tail _ (.tail _ q)), za.2.1⟩
  · rcases List.mem_cons.mp hb with rfl | hb
    · exact ⟨nG _ (.head _), .inl (.head _)⟩
    · rw [List.mem_singleton.mp hb]; exact ⟨nG _ (.tail _ (.head _)), .inl (.tail _ (.head _))⟩

theorem Source.rev {vs : List Value} {m : Nat} {e : Addr} (hh : c.A.handled = none) (ea : c.G a = some (lst vs m)) (ht : ∀ it v, letOwnedTupleGo target it v = pure ()) :
    Source w c target (.ref e) l ((e, revO a vs.length) :: H) H vs.length (fun i v K => vs[vs.length - 1 - i]? = some v ∧ K = []) := fun s ok S => by
  have hl := isList_of (S.kn _ _ ea).1
  have z := S.led (e, revO a vs.length) (.head _)
  have za := S.kn _ _ ea
  have nd := List.nodup_cons.mp S.nd
  have hE : s.heap.IsRevIter e a ((vs.length : Int) - 1) := ⟨_, z.1, rfl, rfl⟩
  refine wpAny_pyIter_revIter hE ?_
  have ae : a ≠ e := fun q => za.2.2 (q ▸ .head _)
  have W := Walks.listRev (prog := PR) (w := w) (A := c.A) hh e a ae vs.toArray
  have re : Re c ((e, revO a vs.length) :: H) s.heap l H s := ⟨ok, ⟨S.ns, fun a o e => have z := S.kn a o e; ⟨z.1, z.2.1, fun q => z.2.2 (.tail _ q)⟩, fun p hp => S.led p (.tail _ hp), nd.2, S.bx⟩, Pres.refl, fun a ha => .inl (.tail _ ha)⟩
  have nG : ∀ b, b ∈ keys ((e, revO a vs.length) :: H) → c.G b = none := fun b hb => by
    cases q : c.G b with
    | none => rfl
    | some o => exact absurd hb (S.kn b o q).2.2
  have W2 : Trn w c.A target e [e, a] [e] vs.length (fun i v K => vs[vs.length - 1 - i]? = some v ∧ K = []) (fun i h => i ≤ vs.length ∧ h.IsRevIter e a ((vs.length : Int) - 1 - (i : Int)) ∧ h.IsList a vs.toArray) := by
    have := Trn.of (target := target) W (fun i h st b hb => by
      obtain ⟨_, ⟨_, e1, _⟩, ⟨_, e2, _⟩⟩ := st
      rcases List.mem_cons.mp hb with rfl | hb
      · rw [e1]; rfl
      · rw [List.mem_singleton.mp hb, e2]; rfl) (fun i v s Q E st q => by rw [ht]; exact wpAny_pure q)
    rw [List.size_toArray] at this
    refine ⟨this.sub, this.alive, this.frame, fun i s Q E hi st h => this.item i s Q E hi st fun v K h' tk hP => h v K h' tk ?_, this.done, this.self⟩
    exact ⟨by simpa using hP.1, hP.2⟩
  refine ⟨e, [e, a], [e], _, rfl, W2, ⟨Nat.zero_le _, by simpa using hE, hl⟩, re, ⟨fun b hb => ?_, fun b hb => ?_⟩⟩
  · rcases List.mem_cons.mp hb with rfl | hb
    · exact ⟨nd.1, z.2⟩
    · rw [List.mem_singleton.mp hb]; exact ⟨fun q => za.2.2 (.tail _ q), za.2.1⟩
  · rw [List.mem_singleton.mp hb]; exact ⟨nG _ (.head _), .inl (.head _)⟩

-- the calls that make them
theorem J_range1 {x : Int} {t : Tok} {Q : Value → Loc → Led → Prop} (q : ∀ r t u v, (∀ p ∈ H, p.1 ≠ r) → Q (.ref r) l ((r, rng 0 x t u v) :: H)) : J w c (call (.type "range") [.int x t]) l H Q :=
  .mk fun _ _ s re => call_range_1 ((re.push (rng 0 x s.toks t (s.toks + 1))).post (q _ _ _ _ fun p hp => Nat.ne_of_lt (Heap.lt_size (re.st.led p hp).1)))
theorem J_range2 {x y : Int} {t u : Tok} {Q : Value → Loc → Led → Prop} (q : ∀ r t u v, (∀ p ∈ H, p.1 ≠ r) → Q (.ref r) l ((r, rng x y t u v) :: H)) : J w c (call (.type "range") [.int x t, .int y u]) l H Q :=
  .mk fun _ _ s re => call_range_2 ((re.push (rng x y t u s.toks)).post (q _ _ _ _ fun p hp => Nat.ne_of_lt (Heap.lt_size (re.st.led p hp).1)))
theorem J_enumerate {vs : List Value} {m : Nat} {Q : Value → Loc → Led → Prop} (ma : (a, lst vs m) ∈ H ∨ c.G a = some (lst vs m)) (q : ∀ e it oe oi, IsEn it oe → IsIt a oi → Q (.ref e) l ((e, oe) :: (it, oi) :: H)) : J w c (call (.type "enumerate") [.ref a]) l H Q :=
  .mk fun H₀ h₀ s re => call_enumerate_list (isList_of (re.get ma)) fun h' he hit hsz hk => by
    have hit' : ∃ oi, h'.get? s.heap.objs.size = some oi ∧ IsIt a oi := by obtain ⟨o, e, r1, r2⟩ := hit; exact ⟨o, e, r1, r2⟩
    obtain ⟨oi, ei, hi⟩ := hit'
    have he' : ∃ oe, h'.get? (s.heap.objs.size + 1) = some oe ∧ IsEn s.heap.objs.size oe := ⟨_, he, fun h e q => q⟩
    obtain ⟨oe, ee, hoe⟩ := he'
    have n1 := Heap.none_size s.heap
    have n2 : s.heap.get? (s.heap.objs.size + 1) = none := by
      cases q : s.heap.get? (s.heap.objs.size + 1) with
      | none => rfl
      | some o => exact absurd (Heap.lt_size q) (Nat.not_lt.mpr (Nat.le_succ _))
    have f1 := re.st.fresh n1
    have f2 := re.st.fresh n2
    have re1 := re.keep (tk := s.toks) hk
    refine Re.post (s := ⟨h', s.gens, s.drawn, s.toks, s.os⟩) (l := l) (H := (s.heap.objs.size + 1, oe) :: (s.heap.objs.size, oi) :: H) ⟨re1.ok, ⟨re1.st.ns, fun b o e => ?_, fun p hp => ?_, ?_, re1.st.bx⟩, re1.pr, fun b hb => ?_⟩ (q _ _ oe oi hoe hi)
    · have z := re1.st.kn b o e
      refine ⟨z.1, z.2.1, fun q => ?_⟩
      rcases List.mem_cons.mp q with q | q
      · have q' : b = s.heap.objs.size + 1 := q
        rw [q', f2.2.2] at e; cases e
      · rcases List.mem_cons.mp q with q | q
        · have q' : b = s.heap.objs.size := q
          rw [q', f1.2.2] at e; cases e
        · exact z.2.2 q
    · rcases List.mem_cons.mp hp with rfl | hp
      · exact ⟨ee, f2.1⟩
      · rcases List.mem_cons.mp hp with rfl | hp
        · exact ⟨ei, f1.1⟩
        · exact re1.st.led p hp
    · refine List.nodup_cons.mpr ⟨fun q => ?_, List.nodup_cons.mpr ⟨f1.2.1, re.st.nd⟩⟩
      rcases List.mem_cons.mp q with q | q
      · have q' : s.heap.objs.size + 1 = s.heap.objs.size := q
        omega
      · exact f2.2.1 q
    · have h0 : ∀ b, s.heap.get? b = none → b ∈ keys H₀ ∨ h₀.get? b = none := fun b e => by
        by_cases z : b ∈ keys H₀
        · exact .inl z
        · right
          cases q : h₀.get? b with
          | none => rfl
          | some o => rw [re.pr b o q z (re.st.fresh e).1] at e; cases e
      rcases List.mem_cons.mp hb with q | q
      · have q' : b = s.heap.objs.size + 1 := q
        exact q' ▸ h0 _ n2
      · rcases List.mem_cons.mp q with q | q
        · have q' : b = s.heap.objs.size := q
          exact q' ▸ h0 _ n1
        · exact re.nw b q
theorem J_reversed {vs : List Value} {m : Nat} {Q : Value → Loc → Led → Prop} (ma : (a, lst vs m) ∈ H ∨ c.G a = some (lst vs m)) (q : ∀ e, (∀ p ∈ H, p.1 ≠ e) → Q (.ref e) l ((e, revO a vs.length) :: H)) : J w c (call (.type "reversed") [.ref a]) l H Q :=
  .mk fun H₀ h₀ s re => call_reversed_list (isList_of (re.get ma)) (by
    have := (re.push (tk := s.toks) (revO a vs.length)).post (q s.heap.objs.size fun p hp => Nat.ne_of_lt (Heap.lt_size (re.st.led p hp).1))
    rw [List.size_toArray]
    exact this)

-- a while, by what holds between the turns and a measure
theorem J_While {test : Expr} {body : List Stmt} {pos : Pos} {Q : Flow → Loc → Led → Prop} (Inv : Nat → Loc → Led → Prop) (n : Nat) (i0 : Inv n l H)
    (turn : ∀ n l H, Inv n l H → J w c (isTrue test env (eval test env)) l H fun b l₁ H₁ => if b then J w c (execs body env) l₁ H₁ (fun f l₂ H₂ => match f with
        | .next | .cont => ∃ m, m < n ∧ Inv m l₂ H₂
        | .brk => Q .next l₂ H₂
        | .ret v => Q (.ret v) l₂ H₂) else Q .next l₁ H₁) : J w c (exec (.While test body [] pos) env) l H Q :=
  .mk fun H₀ h₀ s re => wpAny_While (codeAny_whileLoop (fun n s' => ∃ l' H', Re c H₀ h₀ l' H' s' ∧ Inv n l' H') (fun n s' ⟨l', H', re', iv⟩ => by
    refine wpAny_mono ((turn n l' H' iv).to (R := fun b s₂ => if b then wpAny (model PR w) c.A (execs body env) (fun f s₃ => match f with
            | .next | .cont => ∃ m, m < n ∧ ∃ l' H', Re c H₀ h₀ l' H' s₃ ∧ Inv m l' H'
            | .brk => Post c H₀ h₀ Q .next s₃
            | .ret v => Post c H₀ h₀ Q (.ret v) s₃) (fun _ _ => False) s₂ else Post c H₀ h₀ Q .next s₂) re' fun b s₂ l₂ H₂ re₂ q => ?_) (fun b s₂ q => ?_) fun _ _ e => e.elim
    · cases b with
      | false => exact re₂.post q
      | true =>
        refine J.to q re₂ fun f s₃ l₃ H₃ re₃ q => ?_
        cases f with
        | next => obtain ⟨m, hm, iv⟩ := q; exact ⟨m, hm, l₃, H₃, re₃, iv⟩
        | cont => obtain ⟨m, hm, iv⟩ := q; exact ⟨m, hm, l₃, H₃, re₃, iv⟩
        | brk => exact re₃.post q
        | ret v => exact re₃.post q
    · cases b with
      | false => exact wpAny_execs_nil q
      | true => exact wpAny_mono q (fun f s₃ q => by cases f <;> exact q) fun _ _ e => e.elim) n ⟨l, H, re, i0⟩)

-- tuples taken apart
theorem J_assign_Tuple {elts : List Expr} {kk : Nat} {pos : Pos} {T : Addr} {o : Obj} {vs : List Value} {j : Nat} {Q : Unit → Loc → Led → Prop} (hh : c.A.handled = none) (m : (T, o) ∈ H ∨ c.G T = some o) (hc : o.cls = .type "tuple") (hd : o.data = .seq vs.toArray j)
    (x : J w c (assignInOrder ((assignEach elts env).map (·.2)) vs) l H Q) (hn : (assignEach elts env).length = vs.length := by with_unfolding_all rfl) (hstar : (assignEach elts env).findIdx? (·.1) = none := by with_unfolding_all rfl) : J w c (assign (.Tuple elts kk pos) env (.ref T)) l H Q :=
  .mk fun _ _ s re => assign_Tuple_tuple hh ⟨o, re.get m, hc, _, hd⟩ (by rw [List.size_toArray]; exact hn) hstar fun h' he => J.use x (re.keep fun b ob e => he b ob (Nat.ne_of_lt (Heap.lt_size e)) e)
theorem J_unpack {T : Addr} {o : Obj} {vs : List Value} {j n : Nat} {Q : List Value → Loc → Led → Prop} (hh : c.A.handled = none) (m : (T, o) ∈ H ∨ c.G T = some o) (hc : o.cls = .type "tuple") (hd : o.data = .seq vs.toArray j) (hn : n = vs.length) (q : Q vs l H) : J w c (unpackItems (.ref T) n none) l H Q :=
  .mk fun _ _ s re => by
    subst hn
    have := unpackItems_tuple (prog := PR) (w := w) (A := c.A) (s := s) (E := fun _ _ => False) (Q := Post c _ _ Q) hh ⟨o, re.get m, hc, _, hd⟩ fun h' he => (re.keep (tk := s.toks) fun b ob e => he b ob (Nat.ne_of_lt (Heap.lt_size e)) e).post (by simpa using q)
    rw [List.size_toArray] at this
    exact this
end
end

-- J8
section
open PySem PySem.W PyProof.Rows PySem.Calls PySem.Spec PySem.SeqAt
-- plain values
inductive AT
  | none
  | bool (b : Bool)
  | int (i : Int)
  | bytes (b : Array UInt8)
  deriving DecidableEq
noncomputable def AT.kind : AT → Nat
  | .none => 0
  | .bool _ => 1
  | .int _ => 2
  | .bytes _ => 3
inductive AtomV : Value → AT → Prop
  | none : AtomV .none .none
  | bool (b : Bool) : AtomV (.bool b) (.bool b)
  | int (i : Int) (t : Tok) : AtomV (.int i t) (.int i)
  | bytes (b : Array UInt8) (t : Tok) : AtomV (.bytes b t) (.bytes b)
inductive Atoms : List Value → List AT → Prop
  | nil : Atoms [] []
  | cons {v d vs ds} : AtomV v d → Atoms vs ds → Atoms (v :: vs) (d :: ds)

theorem Atoms.length {vs ds} (h : Atoms vs ds) : vs.length = ds.length := by
  induction h with
  | nil => rfl
  | cons _ _ ih => simp [ih]
theorem Atoms.snoc {vs ds v d} (h : Atoms vs ds) (x : AtomV v d) : Atoms (vs ++ [v]) (ds ++ [d]) := by
  induction h with
  | nil => exact .cons x .nil
  | cons y _ ih => exact .cons y ih
theorem Atoms.get {vs : List Value} {ds : List AT} (h : Atoms vs ds) : ∀ {i : Nat} {v : Value}, vs[i]? = some v → ∃ d, ds[i]? = some d ∧ AtomV v d := by
  induction h with
  | nil => intro i v e; simp at e
  | cons y _ ih =>
    intro i v e
    cases i with
    | zero => simp at e; subst e; exact ⟨_, rfl, y⟩
    | succ i => simpa using ih (by simpa using e)
theorem Atoms.getD {vs : List Value} {ds : List AT} (h : Atoms vs ds) {i : Nat} {d : AT} (e : ds[i]? = some d) : ∃ v, vs[i]? = some v ∧ AtomV v d := by
  have hi : i < ds.length := by
    rcases Nat.lt_or_ge i ds.length with q | q
    · exact q
    · rw [List.getElem?_eq_none q] at e; cases e
  have hi2 : i < vs.length := by rw [h.length]; exact hi
  obtain ⟨d', e', x⟩ := h.get (List.getElem?_eq_getElem hi2)
  rw [e] at e'; cases e'
  exact ⟨_, List.getElem?_eq_getElem hi2, x⟩
theorem Atoms.set {vs ds v d} (h : Atoms vs ds) (x : AtomV v d) : ∀ i : Nat, Atoms (vs.set i v) (ds.set i d) := by
  induction h with
  | nil => intro i; exact .nil
  | cons y r ih =>
    intro i
    cases i with
    | zero => exact .cons x r
    | succ i => exact .cons y (ih i)
theorem Atoms.append {vs ds us es} (h : Atoms vs ds) (h' : Atoms us es) : Atoms (vs ++ us) (ds ++ es) := by
  induction h with
  | nil => exact h'
  | cons y _ ih => exact .cons y ih
theorem Atoms.take {vs ds} (h : Atoms vs ds) : ∀ k, Atoms (vs.take k) (ds.take k) := by
  induction h with
  | nil => intro k; simp; exact .nil
  | cons y r ih => intro k; cases k with
    | zero => exact .nil
    | succ k => exact .cons y (ih k)
theorem Atoms.ints {vs : List Value} {ns : List Int} : Atoms vs (ns.map .int) ↔ IntsAre vs ns := by
  constructor
  · intro h
    generalize e : ns.map AT.int = ds at h
    induction h generalizing ns with
    | nil => cases ns with
      | nil => exact .nil
      | cons _ _ => cases e
    | cons x r ih => cases ns with
      | nil => cases e
      | cons n ns =>
        simp only [List.map_cons, List.cons.injEq] at e
        obtain ⟨rfl, e⟩ := e
        cases x
        exact .cons _ _ (ih e)
  · intro h
    induction h with
    | nil => exact .nil
    | cons n t _ ih => exact .cons (.int n t) ih

theorem byteList_eq {b c : Array UInt8} : (b.toList == c.toList) = decide (b = c) := by
  by_cases h : b = c
  · subst h; simp
  · have : b.toList ≠ c.toList := fun e => h (by cases b; cases c; simpa using e)
    simp [h, this]

theorem RcAt.bytes {A : Around} {s : Shared} (b c : Array UInt8) (t u : Tok) : RcAt A s (.bytes b t) (.bytes c u) (decide (b = c)) := fun prog w E Q h =>
  show wpAny (model prog w) A (compareOp .Eq (.bytes b t) (.bytes c u)) Q E s from eq_bytes (by rw [byteList_eq]; exact h)
theorem EqAt.of_rc {A : Around} {s : Shared} {v u : Value} {k : Bool} (h : RcAt A s v u k) (hs : v = u → k = true) (hf : ∀ f t g r, (v, u) ≠ (.float f t, .float g r)) : EqAt A s v u k := fun prog w E Q hq => by
  unfold eqBool
  refine wpAny_holding ?_
  refine wpAny_ite_split (fun hab => ?_) (fun hab => ?_)
  · have e := hs (eq_of_beq hab)
    subst e
    exact wpAny_bind (wpAny_rule (wpAny_pure hq))
  · have fin := wpAny_bind (f := fun x => truthOfDropped x) (h prog w E _ (wpAny_truthy_bool hq))
    split
    · rename_i f t g r e
      exact absurd e (hf _ _ _ _)
    · exact fin
theorem atom_rc {A : Around} {s : Shared} {v u : Value} {d e : AT} (x : AtomV v d) (y : AtomV u e) (hk : d.kind = e.kind) : RcAt A s v u (decide (d = e)) := by
  cases x <;> cases y <;> first | cases hk | skip
  · exact RcAt.none_none
  · rename_i a b
    have := RcAt.bool_bool (A := A) (s := s) a b
    rwa [show (a == b) = decide (AT.bool a = AT.bool b) by cases a <;> cases b <;> rfl] at this
  · rename_i a t b u
    have := RcAt.int_int (A := A) (s := s) a t b u
    rwa [show (a == b) = decide (AT.int a = AT.int b) by by_cases h : a = b <;> simp [h]] at this
  · rename_i a t b u
    have := RcAt.bytes (A := A) (s := s) a b t u
    rwa [show decide (a = b) = decide (AT.bytes a = AT.bytes b) by by_cases h : a = b <;> simp [h]] at this
theorem atom_eq {A : Around} {s : Shared} {v u : Value} {d e : AT} (x : AtomV v d) (y : AtomV u e) (hk : d.kind = e.kind) : EqAt A s v u (decide (d = e)) := by
  refine EqAt.of_rc (atom_rc x y hk) (fun q => ?_) (fun f t g r q => ?_)
  · subst q
    cases x <;> cases y <;> simp
  · cases x <;> cases q
theorem RcNeAt.bytes {A : Around} {s : Shared} (b c : Array UInt8) (t u : Tok) : RcNeAt A s (.bytes b t) (.bytes c u) (!decide (b = c)) := fun prog w E Q h =>
  show wpAny (model prog w) A (compareOp .NotEq (.bytes b t) (.bytes c u)) Q E s from ne_bytes (by rw [bne, byteList_eq]; exact h)

theorem atom_ne {A : Around} {s : Shared} {v u : Value} {d e : AT} (x : AtomV v d) (y : AtomV u e) (hk : d.kind = e.kind) : RcNeAt A s v u (!decide (d = e)) := by
  cases x <;> cases y <;> first | cases hk | skip
  · exact RcNeAt.none_none
  · rename_i a b
    have := RcNeAt.bool_bool (A := A) (s := s) a b
    rwa [show (a == b) = decide (AT.bool a = AT.bool b) by cases a <;> cases b <;> rfl] at this
  · rename_i a t b u
    have := RcNeAt.int_int (A := A) (s := s) a t b u
    rwa [show (a == b) = decide (AT.int a = AT.int b) by by_cases h : a = b <;> simp [h]] at this
  · rename_i a t b u
    have := RcNeAt.bytes (A := A) (s := s) a b t u
    rwa [show decide (a = b) = decide (AT.bytes a = AT.bytes b) by by_cases h : a = b <;> simp [h]] at this

theorem all_range {α : Type} [DecidableEq α] {ds es : List α} (h : ds.length = es.length) : (List.range ds.length).all (fun j => decide (ds[j]? = es[j]?)) = decide (ds = es) := by
  rw [Bool.eq_iff_iff]
  simp only [List.all_eq_true, List.mem_range, decide_eq_true_eq]
  constructor
  · intro H
    apply List.ext_getElem? 
    intro i
    by_cases hi : i < ds.length
    · exact H i hi
    · rw [List.getElem?_eq_none (by omega), List.getElem?_eq_none (by omega)]
  · rintro rfl i _; rfl
noncomputable def SameKinds (ds es : List AT) : Prop := ∀ (i : Nat) (d e : AT), ds[i]? = some d → es[i]? = some e → d.kind = e.kind

theorem atoms_eqAt {A : Around} {s : Shared} {vs us : List Value} {ds es : List AT} (X : Atoms vs ds) (Y : Atoms us es) (hk : SameKinds ds es) :
    ∀ j (h1 : j < vs.toArray.size) (h2 : j < us.toArray.size), EqAt A s vs.toArray[j] us.toArray[j] (decide (ds[j]? = es[j]?)) := by
  intro j h1 h2
  have h1' : j < vs.length := by simpa using h1
  have h2' : j < us.length := by simpa using h2
  obtain ⟨d, e1, x⟩ := X.get (List.getElem?_eq_getElem h1')
  obtain ⟨e, e2, y⟩ := Y.get (List.getElem?_eq_getElem h2')
  rw [e1, e2]
  have := atom_eq (A := A) (s := s) x y (hk j d e e1 e2)
  simpa using this

section
variable {w : World} {c : Cx} {l l' : Loc} {H H' H₀ R : Led} {h₀ h' h : Heap} {α β : Type} {s : Shared} {a b : Addr} {o o' : Obj} {tk : Nat} {env : Env} {k n m : Nat} {vs us : List Value} {ds es : List AT} {Q : Value → Loc → Led → Prop}

theorem Ok.units {j : Nat} (ok : Ok w c j) : c.A.units < cLine := by
  have := ok.un
  have := cLine_is
  omega
theorem Ok.units64 {j : Nat} (ok : Ok w c j) : c.A.units + 64 < cLine := by
  have := ok.un
  have := cLine_is
  omega

theorem J_eqAtom {v u : Value} {d e : AT} (x : AtomV v d) (y : AtomV u e) (hk : d.kind = e.kind) (q : Q (.bool (decide (d = e))) l H) : J w c (compareOp .Eq v u) l H Q :=
  .mk fun _ _ s re => show wpAny (model PR w) c.A (richCompare .Eq v u) _ _ s from atom_rc x y hk PR w _ _ (re.post q)
theorem J_neAtom {v u : Value} {d e : AT} (x : AtomV v d) (y : AtomV u e) (hk : d.kind = e.kind) (q : Q (.bool (!decide (d = e))) l H) : J w c (compareOp .NotEq v u) l H Q :=
  .mk fun _ _ s re => show wpAny (model PR w) c.A (richCompare .NotEq v u) _ _ s from atom_ne x y hk PR w _ _ (re.post q)

theorem J_eqLists {j : Nat} (ok : Ok w c j) (ma : (a, lst vs n) ∈ H ∨ c.G a = some (lst vs n)) (mb : (b, lst us m) ∈ H ∨ c.G b = some (lst us m)) (X : Atoms vs ds) (Y : Atoms us es) (hk : ds.length = es.length → SameKinds ds es)
    (q : Q (.bool (decide (ds = es))) l H) : J w c (compareOp .Eq (.ref a) (.ref b)) l H Q :=
  .mk fun _ _ s re => by
    have la := isList_of (re.get ma)
    have lb := isList_of (re.get mb)
    have xl := X.length
    have yl := Y.length
    by_cases hl : ds.length = es.length
    · refine eq_listAt (e := fun j => decide (ds[j]? = es[j]?)) la lb (by simp; omega) ok.units (atoms_eqAt X Y (hk hl)) (re.post ?_)
      rw [List.size_toArray, xl, all_range hl]; exact q
    · refine eq_list_lengthsAt la lb (by simp; omega) ok.units (re.post ?_)
      rwa [show decide (ds = es) = false by rw [decide_eq_false_iff_not]; rintro rfl; exact hl rfl] at q
theorem J_neLists {j : Nat} (ok : Ok w c j) (ma : (a, lst vs n) ∈ H ∨ c.G a = some (lst vs n)) (mb : (b, lst us m) ∈ H ∨ c.G b = some (lst us m)) (X : Atoms vs ds) (Y : Atoms us es) (hk : ds.length = es.length → SameKinds ds es)
    (q : Q (.bool (!decide (ds = es))) l H) : J w c (compareOp .NotEq (.ref a) (.ref b)) l H Q :=
  .mk fun _ _ s re => by
    have la := isList_of (re.get ma)
    have lb := isList_of (re.get mb)
    have xl := X.length
    have yl := Y.length
    show wpAny (model PR w) c.A (richCompare .NotEq _ _) _ _ s
    by_cases hl : ds.length = es.length
    · refine RcNeAt.lists (e := fun j => decide (ds[j]? = es[j]?)) la lb (by simp; omega) ok.units (atoms_eqAt X Y (hk hl)) PR w _ _ (re.post ?_)
      rw [List.size_toArray, xl, all_range hl]; exact q
    · refine RcNeAt.lists_lengths la lb (by simp; omega) ok.units PR w _ _ (re.post ?_)
      rwa [show decide (ds = es) = false by rw [decide_eq_false_iff_not]; rintro rfl; exact hl rfl] at q
theorem J_neLen {j : Nat} (ok : Ok w c j) (ma : (a, lst vs n) ∈ H ∨ c.G a = some (lst vs n)) (mb : (b, lst us m) ∈ H ∨ c.G b = some (lst us m)) (hu : us = [])
    (q : Q (.bool (!decide (vs.length = 0))) l H) : J w c (compareOp .NotEq (.ref a) (.ref b)) l H Q :=
  .mk fun _ _ s re => by
    subst hu
    have la := isList_of (re.get ma)
    have lb := isList_of (re.get mb)
    show wpAny (model PR w) c.A (richCompare .NotEq _ _) _ _ s
    by_cases hl : vs.length = 0
    · have hv : vs = [] := List.length_eq_zero_iff.mp hl
      subst hv
      refine RcNeAt.lists (e := fun _ => true) la lb rfl ok.units (fun j h1 => absurd h1 (Nat.not_lt_zero _)) PR w _ _ (re.post ?_)
      simpa using q
    · refine RcNeAt.lists_lengths la lb (by simp; intro e; exact hl (by simp [e])) ok.units PR w _ _ (re.post ?_)
      rwa [show decide (vs.length = 0) = false by rw [decide_eq_false_iff_not]; exact hl] at q
theorem J_eqTups {j : Nat} (ok : Ok w c j) (ma : (a, tup vs) ∈ H ∨ c.G a = some (tup vs)) (mb : (b, tup us) ∈ H ∨ c.G b = some (tup us)) (X : Atoms vs ds) (Y : Atoms us es) (hl : ds.length = es.length) (hk : SameKinds ds es)
    (q : Q (.bool (decide (ds = es))) l H) : J w c (compareOp .Eq (.ref a) (.ref b)) l H Q :=
  .mk fun _ _ s re => by
    have xl := X.length
    have yl := Y.length
    refine eq_tupleAt (e := fun j => decide (ds[j]? = es[j]?)) (isTup_of (re.get ma)) (isTup_of (re.get mb)) ok.units (atoms_eqAt X Y hk) (re.post ?_)
    have : min vs.toArray.size us.toArray.size = ds.length := by simp; omega
    rw [this, all_range hl, show (vs.toArray.size == us.toArray.size) = true by simp; omega, Bool.and_true]; exact q
theorem J_neTups {j : Nat} (ok : Ok w c j) (ma : (a, tup vs) ∈ H ∨ c.G a = some (tup vs)) (mb : (b, tup us) ∈ H ∨ c.G b = some (tup us)) (X : Atoms vs ds) (Y : Atoms us es) (hl : ds.length = es.length) (hk : SameKinds ds es)
    (q : Q (.bool (!decide (ds = es))) l H) : J w c (compareOp .NotEq (.ref a) (.ref b)) l H Q :=
  .mk fun _ _ s re => by
    have xl := X.length
    have yl := Y.length
    show wpAny (model PR w) c.A (richCompare .NotEq _ _) _ _ s
    refine RcNeAt.tuples (e := fun j => decide (ds[j]? = es[j]?)) (isTup_of (re.get ma)) (isTup_of (re.get mb)) ok.units (atoms_eqAt X Y hk) PR w _ _ (re.post ?_)
    have : min vs.toArray.size us.toArray.size = ds.length := by simp; omega
    rw [this, all_range hl, show (vs.toArray.size == us.toArray.size) = true by simp; omega, Bool.and_true]; exact q

-- lists of lists of ints
inductive LL (K : Addr → Obj → Prop) : List Value → List (List Int) → Prop
  | nil : LL K [] []
  | cons {a vs m ns us nss} : K a (lst vs m) → IntsAre vs ns → LL K us nss → LL K (.ref a :: us) (ns :: nss)
theorem LL.mono {K K' : Addr → Obj → Prop} (hm : ∀ a o, K a o → K' a o) {vs nss} (h : LL K vs nss) : LL K' vs nss := by
  induction h with
  | nil => exact .nil
  | cons k i _ ih => exact .cons (hm _ _ k) i ih
theorem LL.length {K : Addr → Obj → Prop} {vs nss} (h : LL K vs nss) : vs.length = nss.length := by
  induction h with
  | nil => rfl
  | cons _ _ _ ih => simp [ih]
theorem LL.snoc {K : Addr → Obj → Prop} {vs nss a us m ns} (h : LL K vs nss) (k : K a (lst us m)) (i : IntsAre us ns) : LL K (vs ++ [.ref a]) (nss ++ [ns]) := by
  induction h with
  | nil => exact .cons k i .nil
  | cons k' i' _ ih => exact .cons k' i' ih
theorem LL.reads {h : Heap} {vs nss} (x : LL (fun a o => h.get? a = some o) vs nss) : ∃ as, ReadsAll h vs (nss.map fun ns => PyData.list (ns.map PyData.int)) as := by
  induction x with
  | nil => exact ⟨_, .nil⟩
  | cons k i _ ih =>
    obtain ⟨as, r⟩ := ih
    exact ⟨_, .cons (reads_of_ints (isList_of k) i) r⟩
theorem sameLL : ∀ ns ms : List (List Int), PySem.Spec.sameAll (ns.map fun ns => PyData.list (ns.map PyData.int)) (ms.map fun ns => PyData.list (ns.map PyData.int)) = decide (ns = ms)
  | [], [] => by simp [PySem.Spec.sameAll]
  | [], _ :: _ => by simp [PySem.Spec.sameAll]
  | _ :: _, [] => by simp [PySem.Spec.sameAll]
  | n :: r, k :: q => by
    simp only [List.map_cons, PySem.Spec.sameAll, PySem.Spec.same, same_ints, sameLL r q]
    by_cases h : n = k <;> by_cases h' : r = q <;> simp [h, h']
theorem layLL : ∀ ns : List (List Int), PyData.canLayAll0 (ns.map fun ns => PyData.list (ns.map PyData.int)) = true
  | [] => by simp [PyData.canLayAll0]
  | n :: r => by simp [PyData.canLayAll0, PyData.canLay0, canLayAll0_ints, layLL r]
theorem depLL : ∀ ns : List (List Int), PyData.depthAll (ns.map fun ns => PyData.list (ns.map PyData.int)) ≤ 3
  | [] => by simp [PyData.depthAll]
  | n :: r => by
    have := depLL r
    have := PySem.W.depthAll_ints n
    simp only [List.map_cons, PyData.depthAll, PyData.depth]
    omega
theorem shapedLL (ns : List (List Int)) : shaped (.list (ns.map fun ns => PyData.list (ns.map PyData.int))) = true := by
  have h1 := depLL ns
  have h2 : PyData.depth (.list (ns.map fun ns => PyData.list (ns.map PyData.int))) ≤ 64 := by simp only [PyData.depth]; omega
  show (PyData.canLay0 _ && decide (PyData.depth _ ≤ 64)) = true
  rw [Bool.and_eq_true]
  exact ⟨by simp only [PyData.canLay0]; exact layLL ns, decide_eq_true h2⟩
theorem noMixLL : ∀ ns ms : List (List Int), noMixAll (ns.map fun ns => PyData.list (ns.map PyData.int)) (ms.map fun ns => PyData.list (ns.map PyData.int)) = true
  | [], [] => by simp [noMixAll]
  | [], _ :: _ => by simp [noMixAll]
  | _ :: _, [] => by simp [noMixAll]
  | n :: r, k :: q => by simp [noMixAll, noMix, noMix_ints, noMixLL r q]
theorem J_neLL {j : Nat} {nss mss : List (List Int)} (ok : Ok w c j) (ma : (a, lst vs n) ∈ H ∨ c.G a = some (lst vs n)) (mb : (b, lst us m) ∈ H ∨ c.G b = some (lst us m))
    (X : LL (fun a o => (a, o) ∈ H ∨ c.G a = some o) vs nss) (Y : LL (fun a o => (a, o) ∈ H ∨ c.G a = some o) us mss)
    (q : Q (.bool (!decide (nss = mss))) l H) : J w c (compareOp .NotEq (.ref a) (.ref b)) l H Q :=
  .mk fun _ _ s re => by
    obtain ⟨as, ra⟩ := (X.mono (K' := fun a o => s.heap.get? a = some o) fun a o k => re.get k).reads
    obtain ⟨bs, rb⟩ := (Y.mono (K' := fun a o => s.heap.get? a = some o) fun a o k => re.get k).reads
    refine ne_dataH_same (reads_list_at (re.get ma) rfl rfl (by simpa using ra)) (reads_list_at (re.get mb) rfl rfl (by simpa using rb)) (shapedLL nss) (shapedLL mss) ok.units64 (by simp only [noMix]; exact noMixLL nss mss) (re.post ?_)
    simp only [PySem.Spec.same]; rw [sameLL]; exact q
end
end

-- J9
section
open PySem PySem.W PyProof.Rows PySem.Calls PySem.Spec PySem.SeqAt
section
variable {w : World} {c : Cx} {l l' : Loc} {H H' H₀ R : Led} {h₀ h' h : Heap} {α β : Type} {s : Shared} {a b : Addr} {o o' : Obj} {tk : Nat} {env : Env} {k n m : Nat} {vs us : List Value} {Q : Value → Loc → Led → Prop}

theorem J_handled {α : Type} {t : Sem α} {j : Nat} {Q : α → Loc → Led → Prop} (_ : Ok w c j) (x : J w c t l H Q) : J w c t l H Q := x

-- what is no more needed is let go
theorem J_drop {α : Type} {t : Sem α} {Q : α → Loc → Led → Prop} (x : J w c t l H fun v l' H' => ∃ H₁, (∀ p ∈ H₁, p ∈ H') ∧ ((keys H').Nodup → (keys H₁).Nodup) ∧ Q v l' H₁) : J w c t l H Q := fun s ok S =>
  wpAny_mono (x s ok S) (fun v s' P => by
    obtain ⟨ok', l', H', S', p', n', H₁, hs, hn, q⟩ := P
    have sub : ∀ a ∈ keys H₁, a ∈ keys H' := fun a ha => by
      obtain ⟨p, hp, rfl⟩ := List.mem_map.mp ha
      exact mem_keys (hs p hp)
    exact ⟨ok', l', H₁, ⟨S'.ns, fun a o e => have z := S'.kn a o e; ⟨z.1, z.2.1, fun q => z.2.2 (sub a q)⟩, fun p hp => S'.led p (hs p hp), hn S'.nd, S'.bx⟩, p', fun a ha => n' a (sub a ha), q⟩) fun _ _ e => e

theorem J_abs {x : Int} {t : Tok} (q : ∀ y t, Q (.int y t) l H) : J w c (call (.builtin "abs") [.int x t]) l H Q := .mk fun _ _ s re => call_abs_int fun u tk => re.tok.post (q _ u)
theorem intsItems {vs : List Value} {ns : List Int} (h : IntsAre vs ns) : ∃ xs, vs.toArray = intItems xs := by
  obtain ⟨xs, e⟩ := h.allInts.items
  exact ⟨xs, e⟩
theorem J_sum {ns : List Int} (hh : c.A.handled = none) (ma : (a, lst vs n) ∈ H ∨ c.G a = some (lst vs n)) (X : IntsAre vs ns) (q : ∀ t, Q (.int ns.sum t) l H) : J w c (call (.builtin "sum") [.ref a]) l H Q :=
  .mk fun _ _ s re => by
    obtain ⟨xs, e⟩ := X.allInts.items
    have hl := isList_of (re.get ma)
    rw [e] at hl
    refine sum_intListG hh hl fun h' tk t' hk => ?_
    have e2 : preSum (numAt xs) xs.size = ns.sum := by
      rw [preSum_eq, List.take_of_length_le (by simp)]
      have := X.numsOf
      rw [← show vs.toArray.toList = vs from rfl, e, nums_intItems] at this
      rw [← this]
    rw [e2]
    exact (re.keep hk).post (q t')
theorem J_list (ma : (a, lst vs n) ∈ H ∨ c.G a = some (lst vs n)) (hz : vs.length ≤ 1000) (q : ∀ b m, (∀ p ∈ H, p.1 ≠ b) → Q (.ref b) l ((b, lst vs m) :: H)) : J w c (call (.type "list") [.ref a]) l H Q :=
  .mk fun _ _ s re => call_list_seq (hsz := by rw [List.size_toArray]; exact Nat.le_trans hz (by decide)) a (.inl rfl) (re.get ma) rfl rfl fun h' c' hk hD => (re.alloc hk (Heap.none_size _) hD).post (q _ c' fun p hp => Nat.ne_of_lt (Heap.lt_size (re.st.led p hp).1))
theorem J_bytesOf {ns : List Int} (hh : c.A.handled = none) (ma : (a, lst vs n) ∈ H ∨ c.G a = some (lst vs n)) (X : IntsAre vs ns) (hr : ∀ n ∈ ns, 0 ≤ n ∧ n < 256) (hz : vs.length ≤ 1000) (q : ∀ t, Q (.bytes (byteArr ns) t) l H) : J w c (call (.type "bytes") [.ref a]) l H Q :=
  .mk fun _ _ s re => call_bytes_ints (isList_of (re.get ma)) X hr (Nat.le_trans hz (by decide)) hh fun h' t k hk => (re.keep hk).post (q t)
theorem J_addBytes {x y : Array UInt8} {t u : Tok} (hz : x.size + y.size ≤ 1000) (q : ∀ t, Q (.bytes (x ++ y) t) l H) : J w c (binaryOp .Add (.bytes x t) (.bytes y u)) l H Q :=
  .mk fun _ _ s re => KBy.add_bytes (Nat.le_trans hz (by decide)) fun t' k => re.tok.post (q t')
theorem J_isNone {v : Value} {d : AT} (x : AtomV v d) (q : Q (.bool (d == .none)) l H) : J w c (compareOp .Is v .none) l H Q :=
  .mk fun _ _ s re => by
    cases x with
    | none => exact wpAny_is_plain (by rfl) (re.post q)
    | bool b => exact wpAny_is_plain (by rfl) (re.post q)
    | int i t => exact wpAny_is_plain (by rfl) (re.post q)
    | bytes b t => exact wpAny_is_plain (by rfl) (re.post q)
theorem isi_bytes_bool {s : Shared} {A : Around} {E : Value → Shared → Prop} {b : Array UInt8} {u : Tok} {Q : Value → Shared → Prop} (h : Q (.bool false) { s with toks := s.toks + 1 }) : wpAny (model PR w) A (call (.builtin "isinstance") [.bytes b u, .type "bool"]) Q E s :=
  call_isinstance (S := fun _ R s => R (.ok (.ret (.bool false))) { s with toks := s.toks + 1 }) (fun _ _ _ _ s hs => by
    obtain ⟨h, g, d, t, os⟩ := s
    exact isinstance_outer (isinstance_nested_false_bytes (by decide +kernel) F.isi_meta_bool F.sub_bytes_bool hs)) h
theorem isi_bytes_bytes {s : Shared} {A : Around} {E : Value → Shared → Prop} {b : Array UInt8} {u : Tok} {Q : Value → Shared → Prop} (h : Q (.bool true) s) : wpAny (model PR w) A (call (.builtin "isinstance") [.bytes b u, .type "bytes"]) Q E s :=
  call_isinstance (isinstance_true (Tx := "bytes") F.isi_meta_bytes F.sub_bytes_bytes) ⟨rfl, h⟩
theorem J_isBool {v : Value} {d : AT} (x : AtomV v d) (hn : d ≠ .none) (q : Q (.bool (d.kind == 1)) l H) : J w c (call (.builtin "isinstance") [v, .type "bool"]) l H Q :=
  .mk fun _ _ s re => by
    cases x with
    | none => exact absurd rfl hn
    | bool b => exact PySem.IsiPair.bool_bool (re.post q)
    | int i t => exact PySem.IsiPair.int_bool (re.tok.post q)
    | bytes b t => exact isi_bytes_bool (re.tok.post q)
theorem J_isBytes {v : Value} {d : AT} (x : AtomV v d) (hn : d ≠ .none) (hb : d.kind ≠ 1) (q : Q (.bool (d.kind == 3)) l H) : J w c (call (.builtin "isinstance") [v, .type "bytes"]) l H Q :=
  .mk fun _ _ s re => by
    cases x with
    | none => exact absurd rfl hn
    | bool b => exact absurd rfl hb
    | int i t => exact PySem.IsiPair.int_bytes (re.tok.post q)
    | bytes b t => exact isi_bytes_bytes (re.post q)
theorem J_getPop {Q : Value × List Value → Loc → Led → Prop} {pl : Sem Bool} (ma : (a, lst vs n) ∈ H ∨ c.G a = some (lst vs n)) (q : Q (.builtin "list.pop", [.ref a]) l H) : J w c (getMethod (.ref a) "pop" pl) l H Q :=
  .mk fun _ _ s re => Copied.getMethod_pop_at (re.get ma) rfl rfl (re.post q)
theorem J_getAppend {Q : Value × List Value → Loc → Led → Prop} {pl : Sem Bool} (ma : (a, lst vs n) ∈ H ∨ c.G a = some (lst vs n)) (q : Q (.builtin "list.append", [.ref a]) l H) : J w c (getMethod (.ref a) "append" pl) l H Q :=
  .mk fun _ _ s re => getMethod_builtin ⟨_, re.get ma, rfl⟩ PySem.F.plainAttrs_list slot_list_append PySem.F.type_list_append (fun a e => by cases e; exact ⟨_, re.get ma, rfl⟩) (re.post q)
theorem J_pop {v : Value} {F : Obj → Led} (u : AtF a (lst (vs ++ [v]) n) H F) (hz : vs.length ≤ 999) (q : Q v l (F (lst vs (n + 1)))) : J w c (call (.builtin "list.pop") [.ref a]) l H Q :=
  .mk fun _ _ s re => Copied.pop_at (re.st.led _ (u.to (lst (vs ++ [v]) n)).mem).1 (y := v) (by simp) (fun h' hs ho => (re.upd (u.to (lst vs (n + 1))) hs (by rw [ho]; simp [lst])).post q) (by rw [List.size_toArray, List.length_append]; exact Nat.le_trans (Nat.succ_le_succ hz) (by decide))
theorem J_appendF {v : Value} {F : Obj → Led} (u : AtF a (lst vs n) H F) (hz : vs.length ≤ 1000) (q : Q .none l (F (lst (vs ++ [v]) (n + 1)))) : J w c (call (.builtin "list.append") [.ref a, v]) l H Q := J_append (u.to _) hz q
theorem J_setLF {i : Int} {t : Tok} {v : Value} {F : Obj → Led} {Q : Unit → Loc → Led → Prop} (u : AtF a (lst vs n) H F) (h0 : 0 ≤ i) (h1 : i < vs.length) (hz : vs.length ≤ 1000) (q : Q () l (F (lst (vs.set i.toNat v) n))) : J w c (setItem (.ref a) (.int i t) v) l H Q := J_setL (u.to _) h0 h1 hz q
theorem J_itemNeg {value slice : Expr} {i : Int} {t : Tok} {v : Value} (m : (a, lst vs n) ∈ H ∨ c.G a = some (lst vs n)) (h0 : i < 0) (h1 : -(vs.length : Int) ≤ i) (hz : vs.length ≤ 1000) (hv : vs[(i + vs.length).toNat]? = some v) (q : Q v l H)
    (hs : subscripted slice false (.ref a) (.int i t) = operate [.ref a, .int i t] (getItem (.ref a) (.int i t)) := by with_unfolding_all rfl) : J w c (subscriptTail value slice (.ref a) (.int i t)) l H Q :=
  .mk fun _ _ s re => tail_any (isList_of (re.get m)).typeIs slot_list_getitem.lookup (wpAny_getItem_list_neg (isList_of (re.get m)) h0 (by rw [List.size_toArray]; exact h1) (by omega) (by rw [List.size_toArray]; simpa using hv) (re.post q)) hs
theorem J_eqStr {x y : Str} {t u : Tok} (q : Q (.bool (x == y)) l H) : J w c (compareOp .Eq (.str x t) (.str y u)) l H Q := .mk fun _ _ _ re => PyProof.Rows.eq_str (re.post q)
theorem J_eqBool {x y : Bool} (q : Q (.bool (decide (AT.bool x = AT.bool y))) l H) : J w c (compareOp .Eq (.bool x) (.bool y)) l H Q := J_eqAtom (.bool x) (.bool y) rfl q

-- cut to a length
theorem J_upto {value u : Expr} {p pos : Pos} {i : Nat} {t : Tok} (x : J w c (eval value env) l H fun o l₁ H₁ => J w c (eval u env) l₁ H₁ fun v l₂ H₂ => ∃ a vs n i t, o = .ref a ∧ v = .int (i : Nat) t ∧ ((a, lst vs n) ∈ H₂ ∨ c.G a = some (lst vs n)) ∧ vs.length ≤ sizeLine ∧ ∀ b, (∀ p ∈ H₂, p.1 ≠ b) → Q (.ref b) l₂ ((b, lst (vs.take i) 0) :: H₂)) :
    J w c (eval (.Subscript value (.Slice none (some u) none p) pos) env) l H Q :=
  .mk fun _ _ s re => Subscript_ (x.to re fun o s₁ l₁ H₁ re₁ q => wpAny_Slice (by
    rw [evalPart_none, evalPart_some]
    refine wpAny_pure (q.to re₁ fun v s₂ l₂ H₂ re₂ q => ?_)
    obtain ⟨a, vs, n, i, t, rfl, rfl, ma, hz, q⟩ := q
    refine wpAny_pure ?_
    have hl := isList_of (re₂.get ma)
    refine tail_any (Heap.IsList.typeIs (s := { s₂ with heap := s₂.heap.push { cls := .type "slice", data := .fields #[.none, .int i t, .none] } }) (hl.push _)) slot_list_getitem.lookup
      (wpAny_getItem_list_slice (hl.push _) (Heap.IsSliceOf.new ..) .none (.int _ t) .none (by simp) ?_ (by rw [List.size_toArray]; exact hz)) rfl
    rw [slicePick_upto']
    have n1 : s₂.heap.get? (s₂.heap.push { cls := .type "slice", data := .fields #[.none, .int i t, .none] }).objs.size = none := by
      cases e : s₂.heap.get? (s₂.heap.push { cls := .type "slice", data := .fields #[.none, .int i t, .none] }).objs.size with
      | none => rfl
      | some o => have := Heap.lt_size e; rw [Heap.size_push] at this; exact absurd this (Nat.not_lt.mpr (Nat.le_succ _))
    exact (re₂.alloc (fun _ _ e => Heap.get?_push_of_some _ (Heap.get?_push_of_some _ e)) n1 (Heap.get?_push_size _ rfl)).post (q _ fun p hp e => by rw [← e, (re₂.st.led p hp).1] at n1; cases n1)))

-- chains of two comparisons
@[reducible] noncomputable def KLink4 (w : World) (c : Cx) (op' : CmpOp) (u : Value) (Q : Bool → Loc → Led → Prop) : Value → Loc → Led → Prop := fun u' l₄ H₄ => J w c (compareOp op' u u') l₄ H₄ (KTruth w c Q)
@[reducible] noncomputable def KLink3 (w : World) (c : Cx) (op' : CmpOp) (r' : Sem Value) (u : Value) (Q : Bool → Loc → Led → Prop) : Bool → Loc → Led → Prop := fun t l₃ H₃ => if t then J w c r' l₃ H₃ (KLink4 w c op' u Q) else Q false l₃ H₃
@[reducible] noncomputable def KLink (w : World) (c : Cx) (op op' : CmpOp) (v : Value) (r' : Sem Value) (Q : Bool → Loc → Led → Prop) : Value → Loc → Led → Prop := fun u l₁ H₁ => J w c (compareOp op v u) l₁ H₁ (KTruth w c (KLink3 w c op' r' u Q))
theorem J_link {pos : Pos} {v : Value} {op op' : CmpOp} {r r' : Sem Value} {Q : Bool → Loc → Led → Prop}
    (x : J w c r l H (KLink w c op op' v r' Q)) : J w c (testChain pos v [op, op'] [r, r']) l H Q :=
  .mk fun _ _ s re => test_link (x.to re fun u s₁ l₁ H₁ re₁ q => q.to re₁ fun z s₂ l₂ H₂ re₂ q => q.to re₂ fun t s₃ l₃ H₃ re₃ q => by
    cases t with
    | false => exact re₃.post q
    | true => exact test_last (J.to q re₃ fun u' s₄ l₄ H₄ re₄ q => q.to re₄ fun z s₅ l₅ H₅ re₅ q => q.use re₅))

-- dicts of strs
noncomputable def IsD (w : World) (o : Obj) (fs : Loc) : Prop := o.IsDictOf (PySem.strKind PR w) fs
theorem J_itemD {value slice : Expr} {od : Obj} {fs : Loc} {x : Str} {t : Tok} {v : Value} (m : (a, od) ∈ H ∨ c.G a = some od) (hd : IsD w od fs) (hv : fs.lookup x = some v) (q : Q v l H)
    (hs : subscripted slice false (.ref a) (.str x t) = operate [.ref a, .str x t] (getItem (.ref a) (.str x t)) := by with_unfolding_all rfl) : J w c (subscriptTail value slice (.ref a) (.str x t)) l H Q :=
  .mk fun _ _ s re => by
    have hD : s.heap.DictOf (PySem.strKind PR w) a fs := Heap.dictOf_iff.mpr ⟨od, re.get m, hd⟩
    refine tail_any hD.typeIs slot_dict_getitem.lookup (wpAny_getItem_of (strKind_is PR w x t) hD.mapOf ?_ (re.tok.post q)) hs
    rw [← hv]
    clear hv hD hd
    unfold valueAt
    induction fs with
    | nil => rfl
    | cons p r ih =>
      rw [List.find?_cons, List.lookup_cons]
      by_cases e : x = p.1
      · subst e; simp
      · simp [Ne.symm e, beq_eq_false_iff_ne.mpr e]; simpa using ih
theorem J_setD {od : Obj} {fs : Loc} {x : Str} {t : Tok} {v : Value} {F : Obj → Led} {Q : Unit → Loc → Led → Prop} (u : AtF a od H F) (hd : IsD w od fs) (hz : fs.length ≤ 1000) (q : ∀ od', IsD w od' (stored fs x v) → Q () l (F od')) : J w c (setItem (.ref a) (.str x t) v) l H Q :=
  .mk fun _ _ s re => by
    have hD : s.heap.DictOf (PySem.strKind PR w) a fs := Heap.dictOf_iff.mpr ⟨od, (re.st.led _ (u.to od).mem).1, hd⟩
    refine wpAny_setItem_pairs (strKind_is PR w x t) hD (fun h' hD' hs => ?_) (Nat.le_trans hz (by decide))
    obtain ⟨od', e, hd'⟩ := Heap.dictOf_iff.mp hD'
    exact (re.upd (u.to od') hs e).post (q od' hd')
end
end

-- J10
section
open PySem PySem.W PyProof.Rows PySem.Calls PySem.Spec PySem.SeqAt
noncomputable def IsCell (v : Option Value) (o : Obj) : Prop := o.data = .cell v

section
variable {w : World} {c : Cx} {l l' : Loc} {H H' H₀ R : Led} {h₀ h' h : Heap} {α β : Type} {s : Shared} {a b ca : Addr} {o o' : Obj} {tk : Nat} {env : Env} {k n m : Nat} {vs us : List Value} {G : Addr → Option Obj} {bx : Option (Addr × Addr)}

theorem J_cellV {x : Str} {pos : Pos} {v : Value} {Q : Value → Loc → Led → Prop} (hc : env.cells.lookup x = some ca) (m : (ca, o) ∈ H ∨ c.G ca = some o) (ho : IsCell (some v) o) (q : Q v l H) (hk : env.scope.kind = .function := by with_unfolding_all rfl) (hl : env.kindOf x = some .cell := by with_unfolding_all rfl)
    (hd : (x == ("__debug__" : Str)) = false := by with_unfolding_all decide) : J w c (eval (.Name x pos) env) l H Q := J_cell hc m ho q hk hl hd
theorem J_storeCell {x : Str} {v : Value} {v₀ : Option Value} {F : Obj → Led} {Q : Unit → Loc → Led → Prop} (hc : env.cells.lookup x = some ca) (u : AtF ca o H F) (ho : IsCell v₀ o) (q : ∀ o', IsCell (some v) o' → Q () l (F o')) (hk : env.scope.kind = .function := by with_unfolding_all rfl) (hl : env.kindOf x = some .cell := by with_unfolding_all rfl) : J w c (storeName env x v) l H Q :=
  .mk fun _ _ s re => wpAny_storeName_cell hk hl hc ⟨o, (re.st.led _ (u.to o).mem).1, ho⟩ fun h' hi hs => by
    obtain ⟨o', e, d⟩ := hi
    exact (re.upd (u.to o') hs e).post (q o' d)

theorem CJ_defC {f : Addr} {oc : Value} {od : Option Addr} {name qual : Str} {params : Arguments} {body : List Stmt} {scope : Scope} {dV kV doc pm cdv ct : Value} {an : Option Addr} {osl : Array (Option Value)} {vs : List Value} {binds lb : List (Str × Value)} {Q : Value → Led → Prop} (x : Str) (cv : Option Value)
    (ho : List.lookup f (Mine.hd.heap_39 w.params) = some ⟨oc, od, .func (fnOf name qual params body scope dV kV doc pm an cdv ct), osl⟩)
    (hcd : codeIn (Mine.hd.heap_39 w.params) cdv qual = true)
    (hbind : bindArgs (fnOf name qual params body scope dV kV doc pm an cdv ct) ⟨vs, []⟩ = pure binds)
    (hcells : ∀ n, cellsFrom n scope.names [] = [(x, n)])
    (hkind : ∀ n, ∀ y ∈ binds, scope.names.lookup y.1 = some .local ∨ (scope.names.lookup y.1 = some .cell ∧ ((cellsFrom n scope.names []).lookup y.1).isSome = true))
    (hL : bindL (fun y => scope.names.lookup y) binds (fun _ => none) = lo lb) (hC : bindC (fun y => scope.names.lookup y) binds (fun _ => none) x = cv)
    (y : ∀ c : Cx, c.G = G → c.bx = bx → Ok w c k → ∀ ca oc, ca = c.L + 1 → IsCell cv oc → (∀ p ∈ H, p.1 ≠ ca) → J w c (execs body (envOfC qual scope c.L f cdv)) lb ((ca, oc) :: H) fun fl _ H' => Q (retOf fl) H')
    (hco : scope.isCoroutine = false := by rfl) (hgen : scope.isGenerator = false := by rfl) (hk : scope.kind = .function := by rfl) :
    CJ w G bx (k + 1) (.ref f) vs H Q := by
  rintro c l rfl rfl ok H₀ h₀ s re
  obtain ⟨hB, mg, mb, B⟩ := ok.base
  have X := B.kinS re
  refine codeAny_call_function (by have := ok.dep; show c.A.depth < 1000; omega) (X _ _ ho) rfl hco hgen rfl (codeRec_of X hcd) (BindsTo.of_eq hbind _ _ _ _ ?_)
  refine wpAny_newFunctionEnv_cells hk (hkind _) fun env' he s' x' => ?_
  subst he
  refine ⟨(B.top.nolimit.keeps (B.keepB re)).keeps x'.toInCall.keep, codeAny_func ?_⟩
  obtain ⟨h₁, tk, rfl, _⟩ := x'.done
  have hk₁ := x'.toInCall.keep
  have cur : ∀ a o, s.heap.get? a = some o → a ≠ s.heap.objs.size := fun a o e => Nat.ne_of_lt (Heap.lt_size e)
  have cel : ∃ oc, h₁.get? (s.heap.objs.size + 1) = some oc ∧ IsCell cv oc := by
    have hcl : (cellsFrom (s.heap.objs.size + 1) scope.names []).lookup x = some (s.heap.objs.size + 1) := by rw [hcells]; simp [List.lookup]
    obtain ⟨oc, e, d⟩ := x'.cell x _ hcl
    exact ⟨oc, e, d.trans (by rw [← hC]; rfl)⟩
  obtain ⟨ocell, ec, dc⟩ := cel
  have nc : s.heap.get? (s.heap.objs.size + 1) = none := by
    cases q : s.heap.get? (s.heap.objs.size + 1) with
    | none => rfl
    | some o => exact absurd (Heap.lt_size q) (Nat.not_lt.mpr (Nat.le_succ _))
  have fc := re.st.fresh nc
  let c' : Cx := { c with A := c.A.deeper (envOfC qual scope s.heap.objs.size f cdv), L := s.heap.objs.size }
  have offs : ∀ a o, s.heap.get? a = some o → c.off a → c'.off a := fun a o e x => ⟨cur a o e, x.2⟩
  have S₁ : St c' lb ((s.heap.objs.size + 1, ocell) :: H) h₁ := by
    refine ⟨?_, fun a o e => ?_, fun p hp => ?_, List.nodup_cons.mpr ⟨fc.2.1, re.st.nd⟩, fun p hp => ?_⟩
    · have := x'.toInCall.ns
      exact NsP.of (by rw [← hL]; exact this)
    · have z := re.st.kn a o e
      refine ⟨hk₁ _ _ z.1, offs _ _ z.1 z.2.1, fun q => ?_⟩
      rcases List.mem_cons.mp q with q | q
      · have q' : a = s.heap.objs.size + 1 := q
        rw [q', fc.2.2] at e; cases e
      · exact z.2.2 q
    · rcases List.mem_cons.mp hp with rfl | hp
      · exact ⟨ec, ⟨Nat.succ_ne_self _, fc.1.2⟩⟩
      · have z := re.st.led p hp; exact ⟨hk₁ _ _ z.1, offs _ _ z.1 z.2⟩
    · have z := re.st.bx p hp
      refine ⟨z.1.keep (hk₁ _) (hk₁ _), z.2.1, ?_, ?_⟩
      · obtain ⟨_, _, _, _, _, _, _, _, e, _⟩ := z.1; exact cur _ _ e
      · obtain ⟨_, _, _, _, _, _, _, _, _, _, e, _⟩ := z.1; exact cur _ _ e
  have ok' : Ok w c' k := ⟨⟨hB, mg, mb, B.kin, B.top, B.sub, Nat.le_of_lt (Nat.lt_of_le_of_lt B.above re.st.ns.lt)⟩, ok.hd, by have := ok.dep; show c.A.depth + 1 + k ≤ 900; omega, by have := ok.un; show c.A.units + 3 + 8 * k ≤ 9000; omega⟩
  refine wpAny_mono (y c' rfl rfl ok' _ ocell rfl dc (fun p hp e => fc.2.1 (e ▸ mem_keys hp)) ⟨h₁, s.gens, s.drawn, tk, s.os⟩ ⟨re.ok.1, re.ok.2⟩ S₁) (fun fl s' P => ?_) fun _ _ e => e.elim
  obtain ⟨ok₂, l₂, H₂, S₂, P₂, n₂, q⟩ := P
  obtain ⟨oL, eL⟩ := re.st.ns.obj
  have hLk : c.L ∉ keys ((s.heap.objs.size + 1, ocell) :: H) := fun z => by
    rcases List.mem_cons.mp z with z | z
    · have z' : c.L = s.heap.objs.size + 1 := z
      rw [z', nc] at eL; cases eL
    · obtain ⟨p, hp, e⟩ := List.mem_map.mp z
      exact (re.st.led p hp).2.1 e
  have hLo : c'.off c.L := ⟨cur _ _ eL, fun p hp => have z := re.st.bx p hp; ⟨Ne.symm z.2.2.1, Ne.symm z.2.2.2⟩⟩
  have St₂ : St c l H₂ s'.heap := ⟨re.st.ns.at' fun o e => P₂ _ _ (hk₁ _ _ e) hLk hLo, fun a o e => have z := S₂.kn a o e; ⟨z.1, (re.st.kn a o e).2.1, z.2.2⟩, (fun p hp => by
    have z := S₂.led p hp
    refine ⟨z.1, ?_, z.2.2⟩
    rcases n₂ p.1 (mem_keys hp) with y | y
    · obtain ⟨r, hr, e⟩ := List.mem_map.mp y
      rw [← e]
      rcases List.mem_cons.mp hr with rfl | hr
      · exact fc.1.1
      · exact (re.st.led r hr).2.1
    · intro e; rw [e, hk₁ _ _ eL] at y; cases y), S₂.nd, fun p hp => ⟨(S₂.bx p hp).1, (re.st.bx p hp).2⟩⟩
  have Pr : Pres c H s.heap s'.heap := fun a o e ha hoff => P₂ a o (hk₁ _ _ e) (fun z => by
    rcases List.mem_cons.mp z with z | z
    · have z' : a = s.heap.objs.size + 1 := z
      rw [z', nc] at e; cases e
    · exact ha z) (offs _ _ e hoff)
  have Nw : New H H₂ s.heap := fun a ha => by
    rcases n₂ a ha with y | y
    · rcases List.mem_cons.mp y with z | z
      · have z' : a = s.heap.objs.size + 1 := z
        exact .inr (z' ▸ nc)
      · exact .inl z
    · right
      cases e : s.heap.get? a with
      | none => rfl
      | some o => rw [hk₁ _ _ e] at y; cases y
  have re' : Re c H₀ h₀ l H₂ s' := ⟨⟨ok₂.1, ok₂.2⟩, St₂, Pres.trans re.st re.pr re.nw Pr, New.trans re.pr (fun b hb => by obtain ⟨r, hr, rfl⟩ := List.mem_map.mp hb; exact (St₂.led r hr).2) re.nw Nw⟩
  cases fl <;> exact re'.post ⟨rfl, q⟩

-- a dict written out
theorem J_pairs_nil {pos : Pos} {Q : List (Value × Value) → Loc → Led → Prop} (q : Q [] l H) : J w c (evalPairs (pairTrees [] [] env pos)) l H Q := .mk fun _ _ s re => evalPairs_nil (re.post q)
theorem J_pairs_cons {key v : Expr} {ks : List (Option Expr)} {vs : List Expr} {pos : Pos} {Q : List (Value × Value) → Loc → Led → Prop}
    (x : J w c (eval key env) l H fun kv l₁ H₁ => J w c (eval v env) l₁ H₁ fun vv l₂ H₂ => J w c (evalPairs (pairTrees ks vs env pos)) l₂ H₂ fun r l₃ H₃ => Q ((kv, vv) :: r) l₃ H₃) : J w c (evalPairs (pairTrees (some key :: ks) (v :: vs) env pos)) l H Q :=
  .mk fun _ _ s re => evalPairs_cons (x.to re fun kv s₁ l₁ H₁ re₁ q => wpAny_bind (q.to re₁ fun vv s₂ l₂ H₂ re₂ q => wpAny_bind (wpAny_standAt (wpAny_pure (q.to re₂ fun r s₃ l₃ H₃ re₃ q => re₃.post q)))))
theorem J_Dict {keys : List (Option Expr)} {values : List Expr} {pos : Pos} {Q : Value → Loc → Led → Prop}
    (x : ∀ d, (∀ p ∈ H, p.1 ≠ d) → J w c (evalPairs (pairTrees keys values env pos)) l ((d, dictOf [] 0) :: H) fun vs l' H' => ∃ kvs F, Carries (PySem.strKind PR w) vs kvs ∧ AtF d (dictOf [] 0) H' F ∧ ∀ od, IsD w od (merged [] kvs) → Q (.ref d) l' (F od))
    (hall : keys.all (·.isSome) = true := by rfl) (hl : keys.length = values.length := by rfl) (h0 : keys ≠ [] := by simp) (hlen : keys.length ≤ 15 := by decide) : J w c (eval (.Dict keys values pos) env) l H Q :=
  .mk fun H₀ h₀ s re => wpAny_Dict_walk (knd := PySem.strKind PR w) hall hl h0 hlen (by
    have re1 := re.push (tk := s.toks) emptyDict
    refine (x s.heap.objs.size fun p hp => Nat.ne_of_lt (Heap.lt_size (re.st.led p hp).1)).to re1 fun vs s₁ l' H' re₂ q => ?_
    obtain ⟨kvs, F, hc, u, q⟩ := q
    refine ⟨kvs, hc, ?_, fun h' hD hs => ?_⟩
    · have e := (re₂.st.led _ (u.to (dictOf [] 0)).mem).1
      obtain ⟨o, e2, hd⟩ := Heap.dictOf_iff.mp (Heap.DictOf.new (knd := PySem.strKind PR w) s.heap)
      rw [Heap.get?_push_size _ rfl] at e2
      cases e2
      exact Heap.dictOf_iff.mpr ⟨_, e, hd⟩
    · obtain ⟨od, e, hd⟩ := Heap.dictOf_iff.mp hD
      exact (re₂.upd (u.to od) hs e).post (q od hd))

-- all of a list of bools
theorem J_all {bs : List Bool} {Q : Value → Loc → Led → Prop} (hh : c.A.handled = none) (ma : (a, lst (bs.map .bool) n) ∈ H ∨ c.G a = some (lst (bs.map .bool) n)) (q : Q (.bool (bs.all id)) l H) : J w c (call (.builtin "all") [.ref a]) l H Q :=
  .mk fun _ _ s re => by
    have hl := isList_of (re.get ma)
    have hlt : a < s.heap.objs.size := by obtain ⟨o, e, _⟩ := hl; exact Heap.lt_size e
    refine call_all_walk (wpAny_pyIter_list hl ?_)
    refine ⟨s.heap.objs.size, _, _, _, _, _, fun i => bs.getD i true, rfl, Walks.list (A := c.A.in1) hh _ a (Nat.ne_of_lt hlt) _, ⟨⟨_, Heap.get?_push_size _ rfl, rfl, rfl⟩, hl.at fun o e => Heap.get?_push_of_some _ e⟩, ?_, fun h' tk hk => ?_⟩
    · intro i v s' Q E hP hQ
      have hP' : bs[i]?.map Value.bool = some v := by simpa using hP
      cases e : bs[i]? with
      | none => rw [e] at hP'; cases hP'
      | some b =>
        rw [e] at hP'
        cases hP'
        have : bs.getD i true = b := by simp [List.getD_eq_getElem?_getD, e]
        have hQ' : Q (bs.getD i true) s' := hQ
        rw [this] at hQ'
        exact wpAny_truthy_bool hQ'
    · have e : (List.range (bs.map Value.bool).toArray.size).all (fun i => bs.getD i true) = bs.all id := by
        rw [Bool.eq_iff_iff]
        simp only [List.all_eq_true, List.mem_range, List.size_toArray, List.length_map]
        constructor
        · intro h b hb
          obtain ⟨i, hi, rfl⟩ := List.mem_iff_getElem.mp hb
          have := h i hi
          simpa [List.getD_eq_getElem?_getD, List.getElem?_eq_getElem hi] using this
        · intro h i hi
          simpa [List.getD_eq_getElem?_getD, List.getElem?_eq_getElem hi] using h _ (List.getElem_mem hi)
      rw [e]
      have new : ∀ b o, s.heap.get? b = some o → h'.get? b = some o := fun b o x => hk b o (by
        intro hb
        rw [List.mem_singleton.mp hb] at x
        exact absurd (Heap.lt_size x) (Nat.lt_irrefl _)) (Heap.get?_push_of_some _ x)
      exact (re.keep new).post q

end
end

-- J11
section
open PySem PySem.W PyProof.Rows PySem.Calls PySem.Spec PySem.SeqAt
structure Span where
  name : Array UInt8
  st : Int
  en : Int
  deriving DecidableEq
structure Told where
  code : List Int
  consts : List AT
  lines : List Int
  locals : List Span
  ups : List (Array UInt8)
  source : Array UInt8
  ld : Int
  ll : Int
  uc : Int
  pc : Int
  va : Int
  ms : Int
inductive Tree
  | node (t : Told) (kids : List Tree)

structure Told.Small (t : Told) : Prop where
  code : t.code.length ≤ 20
  consts : t.consts.length ≤ 20
  lines : t.lines.length ≤ 20
  locals : t.locals.length ≤ 20
  ups : t.ups.length ≤ 20

inductive LvsR (w : World) : List Value → List Span → Led → Prop
  | nil : LvsR w [] [] []
  | cons {y dy : Addr} {od : Obj} {n : Array UInt8} {s e : Int} {tn ts te : Tok} {vs : List Value} {sp : List Span} {H : Led} :
      IsI w od [("name", .bytes n tn), ("start", .int s ts), ("end", .int e te)] → LvsR w vs sp H → LvsR w (.ref y :: vs) (⟨n, s, e⟩ :: sp) ((y, instObj 52 dy) :: (dy, od) :: H)
theorem LvsR.length {w vs sp H} (h : LvsR w vs sp H) : vs.length = sp.length := by
  induction h with
  | nil => rfl
  | cons _ _ ih => simp [ih]

structure NP where
  dx : Addr
  od : Obj
  ac : Addr
  ak : Addr
  al : Addr
  av : Addr
  au : Addr
  vc : List Value
  vk : List Value
  vl : List Value
  vv : List Value
  vu : List Value
  mc : Nat
  mk_ : Nat
  ml : Nat
  mv : Nat
  mu : Nat
  inum : Int
  num : Tok
  mark : Value
  size : Value
  src : Tok
  ld : Tok
  ll : Tok
  uc : Tok
  pc : Tok
  va : Tok
  ms : Tok
  Hv : Led

noncomputable def NP.fs (n : NP) (kl : Addr) (t : Told) : Loc := [("number", .int n.inum n.num), ("mark", n.mark), ("size", n.size), ("code", .ref n.ac), ("constants", .ref n.ak), ("protos", .ref kl), ("line_info", .ref n.al), ("locals", .ref n.av), ("upvalue_names", .ref n.au),
  ("source", .bytes t.source n.src), ("line_defined", .int t.ld n.ld), ("last_line", .int t.ll n.ll), ("upvalue_count", .int t.uc n.uc), ("param_count", .int t.pc n.pc), ("is_vararg", .int t.va n.va), ("max_stack", .int t.ms n.ms)]
noncomputable def NP.led (n : NP) (x : Addr) : Led := (x, instObj 94 n.dx) :: (n.dx, n.od) :: (n.ac, lst n.vc n.mc) :: (n.ak, lst n.vk n.mk_) :: (n.al, lst n.vl n.ml) :: (n.av, lst n.vv n.mv) :: (n.au, lst n.vu n.mu) :: n.Hv
structure NP.Ok (w : World) (n : NP) (kl : Addr) (t : Told) : Prop where
  fs : IsI w n.od (n.fs kl t)
  code : IntsAre n.vc t.code
  consts : Atoms n.vk t.consts
  lines : IntsAre n.vl t.lines
  locals : LvsR w n.vv t.locals n.Hv
  ups : Atoms n.vu (t.ups.map .bytes)

mutual
inductive ProtoR (w : World) : Value → Tree → Led → Prop
  | mk {x kl : Addr} {n : NP} {t : Told} {kvs : List Value} {kids : List Tree} {m : Nat} {Hk : Led} : n.Ok w kl t → t.Small → ProtosR w kvs kids Hk → ProtoR w (.ref x) (.node t kids) (n.led x ++ (kl, lst kvs m) :: Hk)
inductive ProtosR (w : World) : List Value → List Tree → Led → Prop
  | nil : ProtosR w [] [] []
  | cons {v : Value} {t : Tree} {H Hs : Led} {vs : List Value} {ts : List Tree} : ProtoR w v t H → ProtosR w vs ts Hs → ProtosR w (v :: vs) (t :: ts) (H ++ Hs)
end

/-- all stands as written in what is known -/
noncomputable def Kn (G : Addr → Option Obj) (H : Led) : Prop := ∀ p ∈ H, G p.1 = some p.2
theorem Kn.left {G H H'} (h : Kn G (H ++ H')) : Kn G H := fun p hp => h p (List.mem_append_left _ hp)
theorem Kn.right {G H H'} (h : Kn G (H ++ H')) : Kn G H' := fun p hp => h p (List.mem_append_right _ hp)
theorem Kn.head {G p H} (h : Kn G (p :: H)) : G p.1 = some p.2 := h p (.head _)
theorem Kn.tail {G p H} (h : Kn G (p :: H)) : Kn G H := fun q hq => h q (.tail _ hq)
theorem Kn.append {G H H'} (h : Kn G H) (h' : Kn G H') : Kn G (H ++ H') := fun p hp => (List.mem_append.mp hp).elim (h p) (h' p)
theorem Kn.cons {G p H} (h : G p.1 = some p.2) (h' : Kn G H) : Kn G (p :: H) := fun q hq => by
  rcases List.mem_cons.mp hq with rfl | hq
  · exact h
  · exact h' q hq
theorem Kn.nil {G} : Kn G [] := fun p hp => by cases hp
theorem Kn.mono {G G' : Addr → Option Obj} {H} (h : Kn G H) (hG : ∀ a o, G a = some o → G' a = some o) : Kn G' H := fun p hp => hG _ _ (h p hp)

/-- a node as it is read -/
structure NodeG (G : Addr → Option Obj) (w : World) (x : Addr) (n : NP) (kl : Addr) (t : Told) (kvs : List Value) (m : Nat) : Prop where
  x : G x = some (instObj 94 n.dx)
  dx : G n.dx = some n.od
  fs : IsI w n.od (n.fs kl t)
  c : G n.ac = some (lst n.vc n.mc)
  k : G n.ak = some (lst n.vk n.mk_)
  l : G n.al = some (lst n.vl n.ml)
  v : G n.av = some (lst n.vv n.mv)
  u : G n.au = some (lst n.vu n.mu)
  p : G kl = some (lst kvs m)
  Hv : Kn G n.Hv
  ok : n.Ok w kl t
theorem NodeG.of {G : Addr → Option Obj} {w : World} {x : Addr} {n : NP} {kl : Addr} {t : Told} {kvs : List Value} {m : Nat} {Hk : Led} (ok : n.Ok w kl t) (h : Kn G (n.led x ++ (kl, lst kvs m) :: Hk)) : NodeG G w x n kl t kvs m where
  x := h.left.head
  dx := h.left.tail.head
  fs := ok.fs
  c := h.left.tail.tail.head
  k := h.left.tail.tail.tail.head
  l := h.left.tail.tail.tail.tail.head
  v := h.left.tail.tail.tail.tail.tail.head
  u := h.left.tail.tail.tail.tail.tail.tail.head
  p := h.right.head
  Hv := h.left.tail.tail.tail.tail.tail.tail.tail
  ok := ok
end

-- J12
section
open PySem PySem.W PyProof.Rows PySem.Calls PySem.Spec PySem.SeqAt
noncomputable def HasL (l : Loc) : Loc → Prop
  | [] => True
  | p :: r => l.lookup p.1 = some p.2 ∧ HasL l r
theorem HasL.look {l : Loc} : ∀ {l' : Loc}, HasL l l' → ∀ x v, l'.lookup x = some v → l.lookup x = some v
  | [], _, _, _, e => by cases e
  | (y, u) :: r, h, x, v, e => by
    rw [List.lookup_cons] at e
    split at e
    · rename_i q; cases e; rw [beq_iff_eq.mp q]; exact h.1
    · exact HasL.look h.2 x v e

/-- one entry taken out -/
inductive Pick (p : Addr × Obj) : Led → Led → Prop
  | head {t} : Pick p (p :: t) t
  | tail {q t t'} : Pick p t t' → Pick p (q :: t) (q :: t')
  | left {t t' r} : Pick p t t' → Pick p (t ++ r) (t' ++ r)
  | right {r t t'} : Pick p t t' → Pick p (r ++ t) (r ++ t')
theorem Pick.perm {p : Addr × Obj} {H H' : Led} (h : Pick p H H') : H.Perm (p :: H') := by
  induction h with
  | head => exact .refl _
  | tail _ ih => exact (ih.cons _).trans (.swap ..)
  | left _ ih => exact ih.append_right _
  | right _ ih => exact (ih.append_left _).trans List.perm_middle
/-- a whole part taken out -/
inductive PickL (X : Led) : Led → Led → Prop
  | all : PickL X X []
  | head {t} : PickL X (X ++ t) t
  | tail {q t t'} : PickL X t t' → PickL X (q :: t) (q :: t')
  | left {t t' r} : PickL X t t' → PickL X (t ++ r) (t' ++ r)
  | right {r t t'} : PickL X t t' → PickL X (r ++ t) (r ++ t')
theorem PickL.perm {X H H' : Led} (h : PickL X H H') : H.Perm (X ++ H') := by
  induction h with
  | all => simp
  | head => exact .refl _
  | tail _ ih => exact (ih.cons _).trans List.perm_middle.symm
  | left _ ih => rw [← List.append_assoc]; exact ih.append_right _
  | @right r t t' _ ih =>
    refine (ih.append_left r).trans ?_
    rw [← List.append_assoc, ← List.append_assoc]
    exact List.perm_append_comm.append_right _
/-- a ledger split in what is asked and the rest -/
inductive Split : Led → Led → Led → Prop
  | nil {H} : Split H [] H
  | cons {p H H' A R} : Pick p H H' → Split H' A R → Split H (p :: A) R
  | app {X H H' A R} : PickL X H H' → Split H' A R → Split H (X ++ A) R
  | one {X H R} : PickL X H R → Split H X R
theorem Split.perm {H A R : Led} (h : Split H A R) : H.Perm (A ++ R) := by
  induction h with
  | nil => exact .refl _
  | cons p _ ih => exact p.perm.trans (ih.cons _)
  | app p _ ih => rw [List.append_assoc]; exact p.perm.trans (ih.append_left _)
  | one p => exact p.perm
noncomputable def SubLed (H' H : Led) : Prop := ∃ R, H.Perm (H' ++ R)
theorem Split.sub {H A R : Led} (h : Split H A R) : SubLed A H := ⟨R, h.perm⟩
theorem SubLed.refl {H : Led} : SubLed H H := ⟨[], by simp⟩
theorem SubLed.mem {H H' : Led} (h : SubLed H' H) : ∀ p ∈ H', p ∈ H := fun p hp => by
  obtain ⟨R, e⟩ := h
  exact e.mem_iff.mpr (List.mem_append_left _ hp)
theorem SubLed.nodup {H H' : Led} (h : SubLed H' H) (n : (keys H).Nodup) : (keys H').Nodup := by
  obtain ⟨R, e⟩ := h
  have := (e.map (·.1)).nodup_iff.mp n
  rw [List.map_append] at this
  exact (List.nodup_append.mp this).1

section
variable {w : World} {c : Cx} {l l' : Loc} {H H' H₀ R : Led} {h₀ h' h : Heap} {α β : Type} {t : Sem α} {s : Shared} {a b : Addr} {o o' : Obj} {tk : Nat} {env : Env} {k n : Nat} {target : Expr}

theorem Ok.up (ok : Ok w c k) {G' : Addr → Option Obj} (h : ∀ a o, c.G a = some o → G' a = some o) : Ok w { c with G := G' } k :=
  ⟨by obtain ⟨hB, mg, mb, B⟩ := ok.base; exact ⟨hB, mg, mb, B.kin, B.top, fun a o e => h a o (B.sub a o e), B.above⟩, ok.hd, ok.dep, ok.un⟩

theorem J_weak {Q : α → Loc → Led → Prop} (hl : HasL l l') (hH : SubLed H' H) (x : J w c t l' H' Q) : J w c t l H Q :=
  J_forget hl.look (J_sub hH.mem hH.nodup x)
theorem J_led {Q : α → Loc → Led → Prop} (hH : SubLed H' H) (x : J w c t l H' Q) : J w c t l H Q := J_sub hH.mem hH.nodup x
noncomputable def Weak (I : Loc → Led → Prop) (l : Loc) (H : Led) : Prop := ∃ l' H', HasL l l' ∧ SubLed H' H ∧ I l' H'
theorem Weak.at {I : Loc → Led → Prop} {Q : α → Loc → Led → Prop} (x : Weak I l H) (k : ∀ l' H', I l' H' → J w c t l' H' Q) : J w c t l H Q := by
  obtain ⟨l', H', hl, hH, i⟩ := x
  exact J_weak hl hH (k l' H' i)
theorem J_lose {Q : α → Led → Prop} (x : J w c t l H fun v l' H' => ∃ H₁, SubLed H₁ H' ∧ Q v H₁) : J w c t l H fun v _ H' => Q v H' :=
  J_drop (x.mono fun v l' H' ⟨H₁, s, q⟩ => ⟨H₁, s.mem, s.nodup, q⟩)
theorem J_loseL {Q : α → Loc → Led → Prop} (x : J w c t l H fun v l' H' => ∃ H₁, SubLed H₁ H' ∧ Q v l' H₁) : J w c t l H Q :=
  J_drop (x.mono fun v l' H' ⟨H₁, s, q⟩ => ⟨H₁, s.mem, s.nodup, q⟩)

@[reducible] noncomputable def KTurn (I : Loc → Led → Prop) (Q : Flow → Loc → Led → Prop) : Flow → Loc → Led → Prop := fun f l₅ H₅ => match f with
        | .next | .cont => Weak I l₅ H₅
        | .brk => Q .next l₅ H₅
        | .ret u => Q (.ret u) l₅ H₅
@[reducible] noncomputable def KFor (w : World) (c : Cx) (env : Env) (target : Expr) (body : List Stmt) (Q : Flow → Loc → Led → Prop) : Value → Loc → Led → Prop := fun xv l₁ H₁ => ∃ n P H₂, ∃ Inv : Nat → Loc → Led → Prop, Source w c target xv l₁ H₁ H₂ n P ∧ Weak (Inv 0) l₁ H₂ ∧
      (∀ i v K l₃ H₃, i < n → P i v K → Inv i l₃ H₃ → ∀ G', (∀ a o, c.G a = some o → G' a = some o) → (∀ p ∈ K, G' p.1 = some p.2) → J w { c with G := G' } (assign target env v) l₃ H₃ (KThen w { c with G := G' } (execs body env) (KTurn (Inv (i + 1)) Q))) ∧
      ∀ l₃ H₃, Weak (Inv n) l₃ H₃ → Q .next l₃ H₃
@[reducible] noncomputable def KAside {α : Type} (A : Led) (Q : α → Loc → Led → Prop) : α → Loc → Led → Prop := fun v l' H' => (∀ p ∈ H', ∀ q ∈ A, p.1 ≠ q.1) → Q v l' (H' ++ A)
theorem J_ForW {iter : Expr} {body : List Stmt} {pos : Pos} {Q : Flow → Loc → Led → Prop}
    (x : J w c (eval iter env) l H (KFor w c env target body Q))
    (hs : ∀ x, foldedSetIterable iter env x = pure x := by intro _; rfl) : J w c (exec (.For target iter body [] pos) env) l H Q :=
  J_For (x.mono fun xv l₁ H₁ q => by
    obtain ⟨n, P, H₂, Inv, src, i0, turn, done⟩ := q
    exact ⟨n, P, H₂, fun i => Weak (Inv i), src, i0, fun i v K l₃ H₃ hi hP iv G' hG hK => iv.at fun l' H' iv => turn i v K l' H' hi hP iv G' hG hK, done⟩) hs

theorem J_WhileW {test : Expr} {body : List Stmt} {pos : Pos} {Q : Flow → Loc → Led → Prop} (Inv : Nat → Loc → Led → Prop) (n : Nat) (i0 : Weak (Inv n) l H)
    (turn : ∀ n l H, Inv n l H → J w c (isTrue test env (eval test env)) l H fun b l₁ H₁ => if b then J w c (execs body env) l₁ H₁ (fun f l₂ H₂ => match f with
        | .next | .cont => ∃ m, m < n ∧ Weak (Inv m) l₂ H₂
        | .brk => Q .next l₂ H₂
        | .ret v => Q (.ret v) l₂ H₂) else Q .next l₁ H₁) : J w c (exec (.While test body [] pos) env) l H Q :=
  J_While (fun n => Weak (Inv n)) n i0 fun n l H iv => iv.at fun l' H' iv => turn n l' H' iv

/-- a call: what the callee asks is taken out of the ledger, all else stands known to it -/
theorem J_callS {A R : Led} {f : Value} {vs : List Value} {Q : Value → Loc → Led → Prop} {Q' : Value → Led → Prop} (ok : Ok w c k) (sp : Split H A R)
    (x : ∀ G', (∀ a o, c.G a = some o → G' a = some o) → Kn G' R → CJ w G' c.bx k f vs A Q')
    (q : ∀ v H', Q' v H' → (∀ p ∈ H', ∀ r ∈ R, p.1 ≠ r.1) → Q v l (H' ++ R)) : J w c (call f vs) l H Q :=
  J_led ⟨[], by simpa using sp.perm⟩ (J_call (R := R) ok (fun G' h1 h2 _ => x G' h1 h2) q)

/-- the rest of a block, some of the ledger known for good -/
theorem J_fix {A R : Led} {Q : α → Loc → Led → Prop} (ok : Ok w c k) (sp : Split H A R)
    (x : ∀ G', (∀ a o, c.G a = some o → G' a = some o) → Kn G' A → Ok w { c with G := G' } k → J w { c with G := G' } t l R (KAside A Q)) : J w c t l H Q :=
  J_led ⟨[], by simpa using sp.perm.trans List.perm_append_comm⟩ (J_freeze (R := A) fun G' h1 h2 => x G' h1 h2 (ok.up h1))
end
end

-- J13
section
open PySem PySem.W PyProof.Rows PySem.Calls PySem.Spec PySem.SeqAt
section
variable {w : World} {c : Cx} {l l' : Loc} {H H' H₀ R : Led} {h₀ h' h : Heap} {α β : Type} {t : Sem α} {s : Shared} {a b : Addr} {o o' : Obj} {tk : Nat} {env : Env} {k n : Nat} {target : Expr}

theorem J_tupDisp2 {e₁ e₂ : Expr} {kk : Nat} {pos : Pos} {Q : Value → Loc → Led → Prop}
    (x : J w c (eval e₁ env) l H fun v₁ l₁ H₁ => J w c (eval e₂ env) l₁ H₁ fun v₂ l₂ H₂ => ∀ T, (∀ p ∈ H₂, p.1 ≠ T) → Q (.ref T) l₂ ((T, tup [v₁, v₂]) :: H₂))
    (h1 : ∀ r, starEach (e₁ :: r) env = (false, eval e₁ env) :: starEach r env := by intro _; with_unfolding_all rfl) (h2 : ∀ r, starEach (e₂ :: r) env = (false, eval e₂ env) :: starEach r env := by intro _; with_unfolding_all rfl) : J w c (eval (.Tuple [e₁, e₂] kk pos) env) l H Q :=
  J_Tuple (J_args_cons (x.mono fun v₁ l₁ H₁ y => J_args_cons (y.mono fun v₂ l₂ H₂ z => J_args_nil (J_newTuple (by simp) z)) (h2 _)) (h1 _))
theorem J_tupDisp3 {e₁ e₂ e₃ : Expr} {kk : Nat} {pos : Pos} {Q : Value → Loc → Led → Prop}
    (x : J w c (eval e₁ env) l H fun v₁ l₁ H₁ => J w c (eval e₂ env) l₁ H₁ fun v₂ l₂ H₂ => J w c (eval e₃ env) l₂ H₂ fun v₃ l₃ H₃ => ∀ T, (∀ p ∈ H₃, p.1 ≠ T) → Q (.ref T) l₃ ((T, tup [v₁, v₂, v₃]) :: H₃))
    (h1 : ∀ r, starEach (e₁ :: r) env = (false, eval e₁ env) :: starEach r env := by intro _; with_unfolding_all rfl) (h2 : ∀ r, starEach (e₂ :: r) env = (false, eval e₂ env) :: starEach r env := by intro _; with_unfolding_all rfl) (h3 : ∀ r, starEach (e₃ :: r) env = (false, eval e₃ env) :: starEach r env := by intro _; with_unfolding_all rfl) : J w c (eval (.Tuple [e₁, e₂, e₃] kk pos) env) l H Q :=
  J_Tuple (J_args_cons (x.mono fun v₁ l₁ H₁ y => J_args_cons (y.mono fun v₂ l₂ H₂ z => J_args_cons (z.mono fun v₃ l₃ H₃ u => J_args_nil (J_newTuple (by simp) u)) (h3 _)) (h2 _)) (h1 _))

@[reducible] noncomputable def KSw2b (w : World) (c : Cx) (env : Env) (x y : Str) (v₁ : Value) (Q : Flow → Loc → Led → Prop) : Value → Loc → Led → Prop := fun v₂ l H => J w c (storeName env y v₂) l H (KThen w c (storeName env x v₁) (fun _ l H => Q .next l H))
@[reducible] noncomputable def KSw2 (w : World) (c : Cx) (env : Env) (e₂ : Expr) (x y : Str) (Q : Flow → Loc → Led → Prop) : Value → Loc → Led → Prop := fun v₁ l H => J w c (eval e₂ env) l H (KSw2b w c env x y v₁ Q)
@[reducible] noncomputable def KSw3c (w : World) (c : Cx) (env : Env) (x y u : Str) (v₁ v₂ : Value) (Q : Flow → Loc → Led → Prop) : Value → Loc → Led → Prop := fun v₃ l H => J w c (storeName env u v₃) l H (KThen w c (storeName env y v₂) (KThen w c (storeName env x v₁) (fun _ l H => Q .next l H)))
@[reducible] noncomputable def KSw3b (w : World) (c : Cx) (env : Env) (e₃ : Expr) (x y u : Str) (v₁ : Value) (Q : Flow → Loc → Led → Prop) : Value → Loc → Led → Prop := fun v₂ l H => J w c (eval e₃ env) l H (KSw3c w c env x y u v₁ v₂ Q)
@[reducible] noncomputable def KSw3 (w : World) (c : Cx) (env : Env) (e₂ e₃ : Expr) (x y u : Str) (Q : Flow → Loc → Led → Prop) : Value → Loc → Led → Prop := fun v₁ l H => J w c (eval e₂ env) l H (KSw3b w c env e₃ x y u v₁ Q)
@[reducible] noncomputable def KPt2b (w : World) (c : Cx) (env : Env) (t₁ t₂ : Expr) (v₁ : Value) (Q : Flow → Loc → Led → Prop) : Value → Loc → Led → Prop := fun v₂ l H => J w c (assign t₁ env v₁) l H (KThen w c (assign t₂ env v₂) (fun _ l H => Q .next l H))
@[reducible] noncomputable def KPt2 (w : World) (c : Cx) (env : Env) (e₂ t₁ t₂ : Expr) (Q : Flow → Loc → Led → Prop) : Value → Loc → Led → Prop := fun v₁ l H => J w c (eval e₂ env) l H (KPt2b w c env t₁ t₂ v₁ Q)
@[reducible] noncomputable def KPt3c (w : World) (c : Cx) (env : Env) (t₁ t₂ t₃ : Expr) (v₁ v₂ : Value) (Q : Flow → Loc → Led → Prop) : Value → Loc → Led → Prop := fun v₃ l H => J w c (assign t₁ env v₁) l H (KThen w c (assign t₂ env v₂) (KThen w c (assign t₃ env v₃) (fun _ l H => Q .next l H)))
@[reducible] noncomputable def KPt3b (w : World) (c : Cx) (env : Env) (e₃ t₁ t₂ t₃ : Expr) (v₁ : Value) (Q : Flow → Loc → Led → Prop) : Value → Loc → Led → Prop := fun v₂ l H => J w c (eval e₃ env) l H (KPt3c w c env t₁ t₂ t₃ v₁ v₂ Q)
@[reducible] noncomputable def KPt3 (w : World) (c : Cx) (env : Env) (e₂ e₃ t₁ t₂ t₃ : Expr) (Q : Flow → Loc → Led → Prop) : Value → Loc → Led → Prop := fun v₁ l H => J w c (eval e₂ env) l H (KPt3b w c env e₃ t₁ t₂ t₃ v₁ Q)

theorem J_swap2 {x y : Str} {px py tpos vpos pos : Pos} {kk kk' : Nat} {e₁ e₂ : Expr} {Q : Flow → Loc → Led → Prop} (hh : c.A.handled = none)
    (h : J w c (eval e₁ env) l H (KSw2 w c env e₂ x y Q))
    (h1 : ∀ r, starEach (e₁ :: r) env = (false, eval e₁ env) :: starEach r env := by intro _; with_unfolding_all rfl) (h2 : ∀ r, starEach (e₂ :: r) env = (false, eval e₂ env) :: starEach r env := by intro _; with_unfolding_all rfl)
    (hs : swapsWithSole [.Tuple [.Name x px, .Name y py] kk tpos] (.Tuple [e₁, e₂] kk' vpos) pos.line env = pure false := by with_unfolding_all rfl) (hw : swappedStores [.Tuple [.Name x px, .Name y py] kk tpos] (.Tuple [e₁, e₂] kk' vpos) env = pure (some [x, y]) := by with_unfolding_all rfl) :
    J w c (exec (.Assign [.Tuple [.Name x px, .Name y py] kk tpos] (.Tuple [e₁, e₂] kk' vpos) pos) env) l H Q := by
  refine J_Assign_Tuple_swapped (names := [x, y]) (J_tupDisp2 (h.mono fun v₁ l₁ H₁ z => z.mono fun v₂ l₂ H₂ z T hT => ?_) h1 h2) hs hw
  refine J_unpack (j := 0) hh (.inl mem_hd) rfl rfl rfl ?_
  show J w c (assignInOrder [fun v => bindName env y v, fun v => bindName env x v] [v₂, v₁]) l₂ _ _
  refine J_led (H' := H₂) ⟨[(T, tup [v₁, v₂])], by simpa using (List.perm_append_comm (l₁ := [(T, tup [v₁, v₂])]) (l₂ := H₂))⟩ ?_
  exact J_inOrder_cons (J_bindName (z.mono fun _ l₃ H₃ z => J_inOrder_cons (J_bindName (z.mono fun _ l₄ H₄ z => J_inOrder_nil z))))
theorem J_swap3 {x y u : Str} {px py pu tpos vpos pos : Pos} {kk kk' : Nat} {e₁ e₂ e₃ : Expr} {Q : Flow → Loc → Led → Prop} (hh : c.A.handled = none)
    (h : J w c (eval e₁ env) l H (KSw3 w c env e₂ e₃ x y u Q))
    (h1 : ∀ r, starEach (e₁ :: r) env = (false, eval e₁ env) :: starEach r env := by intro _; with_unfolding_all rfl) (h2 : ∀ r, starEach (e₂ :: r) env = (false, eval e₂ env) :: starEach r env := by intro _; with_unfolding_all rfl) (h3 : ∀ r, starEach (e₃ :: r) env = (false, eval e₃ env) :: starEach r env := by intro _; with_unfolding_all rfl)
    (hs : swapsWithSole [.Tuple [.Name x px, .Name y py, .Name u pu] kk tpos] (.Tuple [e₁, e₂, e₃] kk' vpos) pos.line env = pure false := by with_unfolding_all rfl) (hw : swappedStores [.Tuple [.Name x px, .Name y py, .Name u pu] kk tpos] (.Tuple [e₁, e₂, e₃] kk' vpos) env = pure (some [x, y, u]) := by with_unfolding_all rfl) :
    J w c (exec (.Assign [.Tuple [.Name x px, .Name y py, .Name u pu] kk tpos] (.Tuple [e₁, e₂, e₃] kk' vpos) pos) env) l H Q := by
  refine J_Assign_Tuple_swapped (names := [x, y, u]) (J_tupDisp3 (h.mono fun v₁ l₁ H₁ z => z.mono fun v₂ l₂ H₂ z => z.mono fun v₃ l₃ H₃ z T hT => ?_) h1 h2 h3) hs hw
  refine J_unpack (j := 0) hh (.inl mem_hd) rfl rfl rfl ?_
  show J w c (assignInOrder [fun v => bindName env u v, fun v => bindName env y v, fun v => bindName env x v] [v₃, v₂, v₁]) l₃ _ _
  refine J_led (H' := H₃) ⟨[(T, tup [v₁, v₂, v₃])], by simpa using (List.perm_append_comm (l₁ := [(T, tup [v₁, v₂, v₃])]) (l₂ := H₃))⟩ ?_
  exact J_inOrder_cons (J_bindName (z.mono fun _ l₄ H₄ z => J_inOrder_cons (J_bindName (z.mono fun _ l₅ H₅ z => J_inOrder_cons (J_bindName (z.mono fun _ l₆ H₆ z => J_inOrder_nil z))))))

/-- a tuple written out, taken apart at once into what stands on the left -/
theorem J_part2 {t₁ t₂ : Expr} {tpos vpos pos : Pos} {kk kk' : Nat} {e₁ e₂ : Expr} {Q : Flow → Loc → Led → Prop} (hh : c.A.handled = none)
    (h : J w c (eval e₁ env) l H (KPt2 w c env e₂ t₁ t₂ Q))
    (ha : assignEach [t₁, t₂] env = [(false, assign t₁ env), (false, assign t₂ env)] := by with_unfolding_all rfl)
    (h1 : ∀ r, starEach (e₁ :: r) env = (false, eval e₁ env) :: starEach r env := by intro _; with_unfolding_all rfl) (h2 : ∀ r, starEach (e₂ :: r) env = (false, eval e₂ env) :: starEach r env := by intro _; with_unfolding_all rfl)
    (hs : swapsWithSole [.Tuple [t₁, t₂] kk tpos] (.Tuple [e₁, e₂] kk' vpos) pos.line env = pure false := by with_unfolding_all rfl) (hw : swappedStores [.Tuple [t₁, t₂] kk tpos] (.Tuple [e₁, e₂] kk' vpos) env = pure none := by with_unfolding_all rfl) :
    J w c (exec (.Assign [.Tuple [t₁, t₂] kk tpos] (.Tuple [e₁, e₂] kk' vpos) pos) env) l H Q := by
  refine J_Assign_Tuple (J_tupDisp2 (h.mono fun v₁ l₁ H₁ z => z.mono fun v₂ l₂ H₂ z T hT => ?_) h1 h2) hs hw
  refine J_assign_Tuple (j := 0) hh (.inl mem_hd) rfl rfl ?_ (by rw [ha]; rfl) (by rw [ha]; rfl)
  rw [ha]
  show J w c (assignInOrder [assign t₁ env, assign t₂ env] [v₁, v₂]) l₂ _ _
  refine J_led (H' := H₂) ⟨[(T, tup [v₁, v₂])], by simpa using (List.perm_append_comm (l₁ := [(T, tup [v₁, v₂])]) (l₂ := H₂))⟩ ?_
  exact J_inOrder_cons (z.mono fun _ l₃ H₃ z => J_inOrder_cons (z.mono fun _ l₄ H₄ z => J_inOrder_nil z))
theorem J_part3 {t₁ t₂ t₃ : Expr} {tpos vpos pos : Pos} {kk kk' : Nat} {e₁ e₂ e₃ : Expr} {Q : Flow → Loc → Led → Prop} (hh : c.A.handled = none)
    (h : J w c (eval e₁ env) l H (KPt3 w c env e₂ e₃ t₁ t₂ t₃ Q))
    (ha : assignEach [t₁, t₂, t₃] env = [(false, assign t₁ env), (false, assign t₂ env), (false, assign t₃ env)] := by with_unfolding_all rfl)
    (h1 : ∀ r, starEach (e₁ :: r) env = (false, eval e₁ env) :: starEach r env := by intro _; with_unfolding_all rfl) (h2 : ∀ r, starEach (e₂ :: r) env = (false, eval e₂ env) :: starEach r env := by intro _; with_unfolding_all rfl) (h3 : ∀ r, starEach (e₃ :: r) env = (false, eval e₃ env) :: starEach r env := by intro _; with_unfolding_all rfl)
    (hs : swapsWithSole [.Tuple [t₁, t₂, t₃] kk tpos] (.Tuple [e₁, e₂, e₃] kk' vpos) pos.line env = pure false := by with_unfolding_all rfl) (hw : swappedStores [.Tuple [t₁, t₂, t₃] kk tpos] (.Tuple [e₁, e₂, e₃] kk' vpos) env = pure none := by with_unfolding_all rfl) :
    J w c (exec (.Assign [.Tuple [t₁, t₂, t₃] kk tpos] (.Tuple [e₁, e₂, e₃] kk' vpos) pos) env) l H Q := by
  refine J_Assign_Tuple (J_tupDisp3 (h.mono fun v₁ l₁ H₁ z => z.mono fun v₂ l₂ H₂ z => z.mono fun v₃ l₃ H₃ z T hT => ?_) h1 h2 h3) hs hw
  refine J_assign_Tuple (j := 0) hh (.inl mem_hd) rfl rfl ?_ (by rw [ha]; rfl) (by rw [ha]; rfl)
  rw [ha]
  show J w c (assignInOrder [assign t₁ env, assign t₂ env, assign t₃ env] [v₁, v₂, v₃]) l₃ _ _
  refine J_led (H' := H₃) ⟨[(T, tup [v₁, v₂, v₃])], by simpa using (List.perm_append_comm (l₁ := [(T, tup [v₁, v₂, v₃])]) (l₂ := H₃))⟩ ?_
  exact J_inOrder_cons (z.mono fun _ l₄ H₄ z => J_inOrder_cons (z.mono fun _ l₅ H₅ z => J_inOrder_cons (z.mono fun _ l₆ H₆ z => J_inOrder_nil z)))

/-- a tuple taken apart into names -/
theorem J_names2 {x y : Str} {px py tpos : Pos} {kk : Nat} {T : Addr} {o : Obj} {v₁ v₂ : Value} {j : Nat} {Q : Unit → Loc → Led → Prop} (hh : c.A.handled = none) (m : (T, o) ∈ H ∨ c.G T = some o) (hc : o.cls = .type "tuple") (hd : o.data = .seq #[v₁, v₂] j)
    (h : J w c (storeName env x v₁) l H (KThen w c (storeName env y v₂) Q)) : J w c (assign (.Tuple [.Name x px, .Name y py] kk tpos) env (.ref T)) l H Q := by
  refine J_assign_Tuple (vs := [v₁, v₂]) (j := j) hh m hc hd ?_ rfl rfl
  show J w c (assignInOrder [assign (.Name x px) env, assign (.Name y py) env] [v₁, v₂]) l _ _
  exact J_inOrder_cons (J_assign_Name (h.mono fun _ l₃ H₃ z => J_inOrder_cons (J_assign_Name (z.mono fun _ l₄ H₄ z => J_inOrder_nil z))))
theorem J_names3 {x y u : Str} {px py pu tpos : Pos} {kk : Nat} {T : Addr} {o : Obj} {v₁ v₂ v₃ : Value} {j : Nat} {Q : Unit → Loc → Led → Prop} (hh : c.A.handled = none) (m : (T, o) ∈ H ∨ c.G T = some o) (hc : o.cls = .type "tuple") (hd : o.data = .seq #[v₁, v₂, v₃] j)
    (h : J w c (storeName env x v₁) l H (KThen w c (storeName env y v₂) (KThen w c (storeName env u v₃) Q))) : J w c (assign (.Tuple [.Name x px, .Name y py, .Name u pu] kk tpos) env (.ref T)) l H Q := by
  refine J_assign_Tuple (vs := [v₁, v₂, v₃]) (j := j) hh m hc hd ?_ rfl rfl
  show J w c (assignInOrder [assign (.Name x px) env, assign (.Name y py) env, assign (.Name u pu) env] [v₁, v₂, v₃]) l _ _
  exact J_inOrder_cons (J_assign_Name (h.mono fun _ l₃ H₃ z => J_inOrder_cons (J_assign_Name (z.mono fun _ l₄ H₄ z => J_inOrder_cons (J_assign_Name (z.mono fun _ l₅ H₅ z => J_inOrder_nil z))))))

/-- a call that leaves nothing behind -/
theorem J_callR {f : Value} {vs : List Value} {Q : Value → Loc → Led → Prop} {Q' : Value → Prop} (ok : Ok w c k)
    (x : ∀ G', (∀ a o, c.G a = some o → G' a = some o) → Kn G' H → CJ w G' c.bx k f vs [] fun v H' => Q' v ∧ H' = [])
    (q : ∀ v, Q' v → Q v l H) : J w c (call f vs) l H Q :=
  J_callS ok (A := []) (R := H) .nil x fun v H' z _ => by rw [z.2]; exact q v z.1
theorem sameKinds_of {ds es : List AT} (h : ds.map AT.kind = es.map AT.kind) : SameKinds ds es := fun i d e h1 h2 => by
  have a := congrArg (·[i]?) h
  simp only [List.getElem?_map, h1, h2, Option.map_some] at a
  exact Option.some.inj a
theorem map_const {α β : Type} {f : α → β} {b : β} (h : ∀ a, f a = b) : ∀ {l m : List α}, l.length = m.length → l.map f = m.map f
  | [], [], _ => rfl
  | x :: r, y :: q, e => by rw [List.map_cons, List.map_cons, h x, h y, map_const h (by simpa using e)]
  | [], _ :: _, e => by cases e
  | _ :: _, [], e => by cases e
theorem sameKinds_ints {ns ms : List Int} (e : (ns.map AT.int).length = (ms.map AT.int).length) : SameKinds (ns.map .int) (ms.map .int) := sameKinds_of (by
  simp only [List.length_map] at e
  rw [List.map_map, List.map_map]; exact map_const (b := 2) (fun _ => rfl) e)
theorem sameKinds_bytes {ns ms : List (Array UInt8)} (e : (ns.map AT.bytes).length = (ms.map AT.bytes).length) : SameKinds (ns.map .bytes) (ms.map .bytes) := sameKinds_of (by
  simp only [List.length_map] at e
  rw [List.map_map, List.map_map]; exact map_const (b := 3) (fun _ => rfl) e)
theorem map_inj {α β : Type} {f : α → β} (h : ∀ a b, f a = f b → a = b) : ∀ {l m : List α}, l.map f = m.map f ↔ l = m
  | [], [] => by simp
  | x :: r, y :: q => by
    rw [List.map_cons, List.map_cons, List.cons.injEq, List.cons.injEq, map_inj h]
    exact ⟨fun e => ⟨h _ _ e.1, e.2⟩, fun e => ⟨congrArg f e.1, e.2⟩⟩
  | [], _ :: _ => by simp
  | _ :: _, [] => by simp
theorem ints_inj {l m : List Int} : l.map AT.int = m.map AT.int ↔ l = m := map_inj fun _ _ e => AT.int.inj e
theorem byts_inj {l m : List (Array UInt8)} : l.map AT.bytes = m.map AT.bytes ↔ l = m := map_inj fun _ _ e => AT.bytes.inj e
theorem AtomV.cast {v : Value} {d e : AT} (x : AtomV v d) (h : d = e) : AtomV v e := h ▸ x
end
end

-- J14
section
open PySem PySem.W PyProof.Rows PySem.Calls PySem.Spec PySem.SeqAt
theorem SubLed.none {H : Led} : SubLed [] H := ⟨H, .refl _⟩

mutual
noncomputable def pre : Tree → List Tree
  | .node t kids => .node t kids :: pres kids
noncomputable def pres : List Tree → List Tree
  | [] => []
  | t :: ts => pre t ++ pres ts
end
theorem pres_append : ∀ a b : List Tree, pres (a ++ b) = pres a ++ pres b
  | [], _ => rfl
  | t :: ts, b => by rw [List.cons_append, pres, pres, pres_append, List.append_assoc]

-- a proto as it is read: the value, the tree, all its nodes, the first first
mutual
inductive PG (G : Addr → Option Obj) (w : World) : Value → Tree → List Value → Prop
  | mk {x kl : Addr} {n : NP} {t : Told} {kvs : List Value} {kids : List Tree} {m : Nat} {Ls : List Value} : NodeG G w x n kl t kvs m → t.Small → PGs G w kvs kids Ls → PG G w (.ref x) (.node t kids) (.ref x :: Ls)
inductive PGs (G : Addr → Option Obj) (w : World) : List Value → List Tree → List Value → Prop
  | nil : PGs G w [] [] []
  | cons {v : Value} {t : Tree} {L Ls : List Value} {vs : List Value} {ts : List Tree} : PG G w v t L → PGs G w vs ts Ls → PGs G w (v :: vs) (t :: ts) (L ++ Ls)
end
theorem PG.up {G G' : Addr → Option Obj} {w : World} (h : ∀ a o, G a = some o → G' a = some o) {v T L} (H : PG G w v T L) : PG G' w v T L :=
  PG.rec (motive_1 := fun v T L _ => PG G' w v T L) (motive_2 := fun vs ts L _ => PGs G' w vs ts L)
    (fun N S _ k => .mk ⟨h _ _ N.x, h _ _ N.dx, N.fs, h _ _ N.c, h _ _ N.k, h _ _ N.l, h _ _ N.v, h _ _ N.u, h _ _ N.p, N.Hv.mono h, N.ok⟩ S k) .nil (fun _ _ p r => .cons p r) H
theorem PGs.length {G : Addr → Option Obj} {w : World} {vs ts L} (H : PGs G w vs ts L) : vs.length = ts.length :=
  PGs.rec (motive_1 := fun _ _ _ _ => True) (motive_2 := fun vs ts _ _ => vs.length = ts.length) (fun _ _ _ _ => trivial) rfl (fun _ _ _ r => congrArg Nat.succ r) H
theorem PG.ne {G : Addr → Option Obj} {w : World} {v T L} (h : PG G w v T L) : 1 ≤ L.length := by cases h; simp
theorem PGs.le {G : Addr → Option Obj} {w : World} {vs ts L} (H : PGs G w vs ts L) : vs.length ≤ L.length :=
  PGs.rec (motive_1 := fun _ _ _ _ => True) (motive_2 := fun vs _ L _ => vs.length ≤ L.length) (fun _ _ _ _ => trivial) (Nat.le_refl _)
    (fun p _ _ r => by rw [List.length_append, List.length_cons, Nat.add_comm]; exact Nat.add_le_add p.ne r) H
theorem PGs.append {G : Addr → Option Obj} {w : World} {vs ts L us us' L'} (H : PGs G w vs ts L) (h : PGs G w us us' L') : PGs G w (vs ++ us) (ts ++ us') (L ++ L') :=
  PGs.rec (motive_1 := fun _ _ _ _ => True) (motive_2 := fun vs ts L _ => PGs G w (vs ++ us) (ts ++ us') (L ++ L')) (fun _ _ _ _ => trivial) h
    (fun p _ _ r => by rw [List.append_assoc]; exact .cons p r) H
theorem PG.pre {G : Addr → Option Obj} {w : World} {v T L} (H : PG G w v T L) : L.length = (pre T).length ∧ ∀ (i : Nat) u, L[i]? = some u → ∃ U Lu, (Mine.pre T)[i]? = some U ∧ PG G w u U Lu ∧ Lu.length ≤ L.length := by
  refine PG.rec (motive_1 := fun v T L _ => L.length = (Mine.pre T).length ∧ ∀ (i : Nat) u, L[i]? = some u → ∃ U Lu, (Mine.pre T)[i]? = some U ∧ PG G w u U Lu ∧ Lu.length ≤ L.length)
    (motive_2 := fun vs ts L _ => L.length = (pres ts).length ∧ ∀ (i : Nat) u, L[i]? = some u → ∃ U Lu, (pres ts)[i]? = some U ∧ PG G w u U Lu ∧ Lu.length ≤ L.length) ?_ ?_ ?_ H
  · intro x kl n t kvs kids m Ls N S k z
    rw [Mine.pre]
    refine ⟨congrArg Nat.succ z.1, fun i u e => ?_⟩
    cases i with
    | zero => cases e; exact ⟨_, _, rfl, .mk N S k, Nat.le_refl _⟩
    | succ i =>
      obtain ⟨U, Lu, h1, h2, h3⟩ := z.2 i u e
      exact ⟨U, Lu, h1, h2, Nat.le_succ_of_le h3⟩
  · rw [pres]; exact ⟨rfl, fun i u e => nomatch e⟩
  · intro v t L Ls vs ts p r z1 z2
    rw [pres]
    rw [List.length_append, List.length_append, z1.1, z2.1]
    refine ⟨rfl, fun i u e => ?_⟩
    rw [← z1.1]
    rcases Nat.lt_or_ge i L.length with hi | hi
    · rw [List.getElem?_append_left hi] at e
      rw [List.getElem?_append_left (z1.1 ▸ hi)]
      obtain ⟨U, Lu, h1, h2, h3⟩ := z1.2 i u e
      exact ⟨U, Lu, h1, h2, Nat.le_trans h3 (Nat.le_add_right _ _)⟩
    · rw [List.getElem?_append_right hi] at e
      rw [List.getElem?_append_right (z1.1 ▸ hi), ← z1.1]
      obtain ⟨U, Lu, h1, h2, h3⟩ := z2.2 _ u e
      exact ⟨U, Lu, h1, h2, Nat.le_trans (z2.1 ▸ h3) (Nat.le_add_left _ _)⟩
end

-- J15
section
open PySem PySem.W PyProof.Rows PySem.Calls PySem.Spec PySem.SeqAt
theorem bindL_or {kindOf : Str → Option NameKind} : ∀ {binds : List (Str × Value)} {m : Str → Option Value}, bindL kindOf binds m = fun x => ((binds.filter fun p => decide (kindOf p.1 = some .local)).reverse.lookup x).or (m x)
  | [], m => by funext x; simp [bindL]
  | (n, v) :: r, m => by
    rw [bindL, bindL_or]
    funext x
    by_cases h : kindOf n = some .local
    · rw [if_pos h, List.filter_cons_of_pos (by simpa using h), List.reverse_cons, List.lookup_append]
      cases List.lookup x (List.filter (fun p => decide (kindOf p.1 = some .local)) r).reverse with
      | some u => rfl
      | none =>
        by_cases hx : x = n
        · subst hx; simp [List.lookup]
        · have : (x == n) = false := beq_eq_false_iff_ne.mpr hx
          simp [List.lookup, this, hx]
    · rw [if_neg h, List.filter_cons_of_neg (by simpa using h)]
theorem bindL_lo {kindOf : Str → Option NameKind} {binds lb : List (Str × Value)} (h : (binds.filter fun p => decide (kindOf p.1 = some .local)) = lb) (n : decide ((lb.map (·.1)).Nodup) = true) : bindL kindOf binds (fun _ => none) = lo lb := by
  rw [bindL_or, h]
  have := lookup_rev (of_decide_eq_true n)
  funext x
  have := congrFun this x
  simp [this]
theorem J_tests_nil {w : World} {c : Cx} {l : Loc} {H : Led} {env : Env} {Q : Bool → Loc → Led → Prop} (q : Q true l H) : J w c (tests [] env) l H Q := .mk fun _ _ s re => wpAny_tests_nil (re.post q)
theorem J_tests_one {w : World} {c : Cx} {l : Loc} {H : Led} {env : Env} {e : Expr} {Q : Bool → Loc → Led → Prop} (x : J w c (isTrue e env (eval e env)) l H Q) : J w c (tests [e] env) l H Q := .mk fun _ _ s re => wpAny_tests_one (x.use re)
theorem if_tt {A B : Prop} (x : A) : if true = true then A else B := by rw [if_pos rfl]; exact x
end

-- J16
section
open PySem PySem.W PyProof.Rows PySem.Calls PySem.Spec PySem.SeqAt
theorem J_neg {w : World} {c : Cx} {l : Loc} {H : Led} {x : Int} {t : Tok} {Q : Value → Loc → Led → Prop} (q : ∀ t, Q (.int (-x) t) l H) : J w c (unaryOp .USub (.int x t)) l H Q := .mk fun _ _ _ re => PyProof.Rows.neg_int (re.tok.post (q _))

-- the places within: by a stack, and by recursion
mutual
noncomputable def tsize : Tree → Nat
  | .node _ kids => 1 + tsizes kids
noncomputable def tsizes : List Tree → Nat
  | [] => 0
  | t :: ts => tsize t + tsizes ts
end
noncomputable def kidPlaces : List Tree → Nat → List Int
  | [], _ => []
  | t :: ts, p => (p : Int) :: kidPlaces ts (p + tsize t)
mutual
noncomputable def placesOf : Tree → Nat → List (List Int)
  | .node _ kids, p => kidPlaces kids (p + 1) :: placesOfs kids (p + 1)
noncomputable def placesOfs : List Tree → Nat → List (List Int)
  | [], _ => []
  | t :: ts, p => placesOf t p ++ placesOfs ts (p + tsize t)
end
noncomputable def kidN : Tree → Nat
  | .node _ kids => kids.length
mutual
theorem pre_length : ∀ T : Tree, (pre T).length = tsize T
  | .node t kids => by rw [pre, tsize, List.length_cons, pres_length]; omega
theorem pres_length : ∀ ts : List Tree, (pres ts).length = tsizes ts
  | [] => by rw [pres, tsizes]; rfl
  | t :: ts => by rw [pres, tsizes, List.length_append, pre_length, pres_length]
end
mutual
theorem placesOf_length : ∀ (T : Tree) (p : Nat), (placesOf T p).length = tsize T
  | .node t kids, p => by rw [placesOf, tsize, List.length_cons, placesOfs_length]; omega
theorem placesOfs_length : ∀ (ts : List Tree) (p : Nat), (placesOfs ts p).length = tsizes ts
  | [], p => by rw [placesOfs, tsizes]; rfl
  | t :: ts, p => by rw [placesOfs, tsizes, List.length_append, placesOf_length, placesOfs_length]
end

noncomputable abbrev PSt := List (List Int) × List (Nat × Nat)
noncomputable def nz : List (Nat × Nat) → List (Nat × Nat)
  | [] => []
  | (o, l) :: s => if l = 0 then nz s else (o, l) :: s
noncomputable def stp (st : PSt) (at_ many : Nat) : PSt := match nz st.2 with
  | [] => (st.1, [(at_, many)])
  | (o, l) :: s => (st.1.modify o (· ++ [(at_ : Int)]), (at_, many) :: (o, l - 1) :: s)
noncomputable def runs : List Nat → Nat → PSt → PSt
  | [], _, s => s
  | c :: cs, i, s => runs cs (i + 1) (stp s i c)
theorem runs_append : ∀ (a b : List Nat) (i : Nat) (s : PSt), runs (a ++ b) i s = runs b (i + a.length) (runs a i s)
  | [], _, _, _ => rfl
  | c :: cs, b, i, s => by rw [List.cons_append, runs, runs, runs_append, List.length_cons, Nat.add_assoc, Nat.add_comm 1]
theorem modify_left {α : Type} {f : α → α} : ∀ {A B : List α} {o : Nat}, o < A.length → (A ++ B).modify o f = A.modify o f ++ B
  | [], _, _, h => by simp at h
  | x :: r, B, 0, _ => rfl
  | x :: r, B, o + 1, h => by
    rw [List.cons_append, List.modify_succ_cons, modify_left (by simpa using h), List.modify_succ_cons, List.cons_append]
theorem modify_at {α : Type} {f : α → α} {A B : List α} {x : α} : (A ++ x :: B).modify A.length f = A ++ f x :: B := by
  induction A with
  | nil => rfl
  | cons y r ih => rw [List.cons_append, List.length_cons, List.modify_succ_cons, ih]; rfl
theorem modify_modify {α : Type} {f g : α → α} : ∀ {A : List α} {o : Nat}, (A.modify o f).modify o g = A.modify o (fun x => g (f x))
  | [], _ => by simp
  | x :: r, 0 => rfl
  | x :: r, o + 1 => by rw [List.modify_succ_cons, List.modify_succ_cons, List.modify_succ_cons, modify_modify]
theorem modify_id {α : Type} {f : α → α} (h : ∀ x, f x = x) : ∀ {A : List α} {o : Nat}, A.modify o f = A
  | [], _ => by simp
  | x :: r, 0 => by rw [List.modify_zero_cons, h]
  | x :: r, o + 1 => by rw [List.modify_succ_cons, modify_id h]
mutual
/-- a tree run through, the place on top of the stack waiting for one more -/
theorem run_tree : ∀ (T : Tree) (A : List (List Int)) (n o l : Nat) (s s₀ : List (Nat × Nat)), o < A.length → nz s = (o, l + 1) :: s₀ →
    ∃ s', runs ((pre T).map kidN) A.length (A ++ List.replicate (tsize T + n) [], s) = (A.modify o (· ++ [(A.length : Int)]) ++ placesOf T A.length ++ List.replicate n [], s') ∧ nz s' = nz ((o, l) :: s₀)
  | .node t kids, A, n, o, l, s, s₀, ho, hs => by
    rw [pre, List.map_cons, runs]
    have e : stp (A ++ List.replicate (tsize (.node t kids) + n) [], s) A.length (kidN (.node t kids)) = (A.modify o (· ++ [(A.length : Int)]) ++ List.replicate (tsize (.node t kids) + n) [], (A.length, kids.length) :: (o, l) :: s₀) := by
      unfold stp
      rw [hs]
      simp only [Nat.add_sub_cancel]
      rw [modify_left ho]
      rfl
    rw [e]
    have hA : (A.modify o (· ++ [(A.length : Int)])).length = A.length := List.length_modify ..
    have hr : tsize (.node t kids) + n = 1 + (tsizes kids + n) := by rw [tsize]; omega
    obtain ⟨s', h1, h2⟩ := run_forest kids (A.modify o (· ++ [(A.length : Int)]) ++ [[]]) n A.length kids.length 0 ((A.length, kids.length) :: (o, l) :: s₀) ((o, l) :: s₀) (by simp [hA]) (by omega) rfl
    refine ⟨s', ?_, ?_⟩
    · have e1 : A.modify o (· ++ [(A.length : Int)]) ++ List.replicate (tsize (.node t kids) + n) [] = A.modify o (· ++ [(A.length : Int)]) ++ [[]] ++ List.replicate (tsizes kids + n) [] := by
        rw [hr, ← List.replicate_append_replicate, List.append_assoc]; rfl
      have e2 : (A.modify o (· ++ [(A.length : Int)]) ++ [[]]).length = A.length + 1 := by simp [hA]
      rw [e1]
      rw [e2] at h1
      rw [h1, placesOf]
      have e3 : (A.modify o (· ++ [(A.length : Int)]) ++ [[]]).modify A.length (· ++ kidPlaces kids (A.length + 1)) = A.modify o (· ++ [(A.length : Int)]) ++ [kidPlaces kids (A.length + 1)] := by
        have := modify_at (f := (· ++ kidPlaces kids (A.length + 1))) (A := A.modify o (· ++ [(A.length : Int)])) (B := []) (x := ([] : List Int))
        rw [hA] at this
        rw [this]; rfl
      rw [e3]
      simp [List.append_assoc]
    · rw [h2]
      rw [nz, if_pos rfl]
theorem run_forest : ∀ (ts : List Tree) (A : List (List Int)) (n o l l' : Nat) (s s₀ : List (Nat × Nat)), o < A.length → l = ts.length + l' → nz s = nz ((o, l) :: s₀) →
    ∃ s', runs ((pres ts).map kidN) A.length (A ++ List.replicate (tsizes ts + n) [], s) = (A.modify o (· ++ kidPlaces ts A.length) ++ placesOfs ts A.length ++ List.replicate n [], s') ∧ nz s' = nz ((o, l') :: s₀)
  | [], A, n, o, l, l', s, s₀, ho, hl, hs => by
    refine ⟨s, ?_, ?_⟩
    · rw [pres, placesOfs, tsizes, modify_id (fun x => by simp [kidPlaces])]
      simp [runs]
    · rw [hs, hl]; simp
  | t :: ts, A, n, o, l, l', s, s₀, ho, hl, hs => by
    have hl1 : l = (ts.length + l') + 1 := by rw [hl, List.length_cons]; omega
    obtain ⟨s1, h1, h2⟩ := run_tree t A (tsizes ts + n) o (ts.length + l') s s₀ ho (by rw [hs, hl1, nz, if_neg (by omega)])
    have hlen : (A.modify o (· ++ [(A.length : Int)]) ++ placesOf t A.length).length = A.length + tsize t := by simp [placesOf_length]
    obtain ⟨s2, h3, h4⟩ := run_forest ts (A.modify o (· ++ [(A.length : Int)]) ++ placesOf t A.length) n o (ts.length + l') l' s1 s₀ (by rw [hlen]; omega) rfl h2
    refine ⟨s2, ?_, h4⟩
    rw [pres, List.map_append, runs_append, tsizes, Nat.add_assoc, h1, List.length_map, pre_length]
    rw [hlen] at h3
    rw [h3, modify_left (by simpa using ho), modify_modify, placesOfs, kidPlaces]
    simp [List.append_assoc]
end
theorem run_root (T : Tree) : (runs ((pre T).map kidN) 0 (List.replicate (tsize T) [], [])).1 = placesOf T 0 := by
  cases T with
  | node t kids =>
    rw [pre, List.map_cons, runs]
    have e : stp (List.replicate (tsize (.node t kids)) [], []) 0 (kidN (.node t kids)) = ([[]] ++ List.replicate (tsizes kids + 0) [], [(0, kids.length)]) := by
      unfold stp
      simp only [nz, kidN]
      rw [tsize, Nat.add_comm 1, List.replicate_succ]; rfl
    rw [e]
    obtain ⟨s', h1, _⟩ := run_forest kids [[]] 0 0 kids.length 0 [(0, kids.length)] [] (by simp) (by omega) rfl
    have h1' : runs ((pres kids).map kidN) (0 + 1) ([[]] ++ List.replicate (tsizes kids + 0) [], [(0, kids.length)]) = _ := h1
    rw [h1', placesOf]
    simp
end

-- J17
section
open PySem PySem.W PyProof.Rows PySem.Calls PySem.Spec PySem.SeqAt
section
variable {w : World} {c : Cx} {l l' : Loc} {H H' H₀ R A : Led} {h₀ h' h : Heap} {α β : Type} {t : Sem α} {s : Shared} {a b : Addr} {o o' : Obj} {tk : Nat} {env : Env} {k n : Nat} {G : Addr → Option Obj} {bx : Option (Addr × Addr)}

theorem CJ_frame {f : Value} {vs : List Value} {Q' : Value → Led → Prop}
    (x : ∀ G', (∀ a o, G a = some o → G' a = some o) → Kn G' R → CJ w G' bx k f vs A Q') : CJ w G bx k f vs (A ++ R) fun v H' => ∃ H₁, H' = H₁ ++ R ∧ (∀ p ∈ H₁, ∀ q ∈ R, p.1 ≠ q.1) ∧ Q' v H₁ := by
  rintro c l rfl rfl ok H₀ h₀ s re
  have S := re.st
  have kk : keys (A ++ R) = keys A ++ keys R := by simp
  have nd := S.nd
  rw [kk] at nd
  have nd' := List.nodup_append.mp nd
  have off : ∀ r ∈ R, r.1 ∉ keys A := fun r hr z => nd'.2.2 r.1 z r.1 (mem_keys hr) rfl
  have inR : ∀ p ∈ R, Gu c.G R p.1 = some p.2 := fun p hp => Gu_mem nd'.2.1 hp
  have up : ∀ a o, c.G a = some o → Gu c.G R a = some o := fun a o e => Gu_up (fun q => (S.kn a o e).2.2 (by rw [kk]; exact List.mem_append.mpr (.inr q))) e
  have S₁ : St { c with G := Gu c.G R } l A s.heap := ⟨S.ns, fun a o e => by
    rcases Gu_cases e with m | e
    · have z := S.led _ (List.mem_append.mpr (.inr m))
      exact ⟨z.1, z.2, off _ m⟩
    · have z := S.kn a o e
      exact ⟨z.1, z.2.1, fun q => z.2.2 (by rw [kk]; exact List.mem_append.mpr (.inl q))⟩, fun p hp => S.led p (List.mem_append.mpr (.inl hp)), nd'.1, S.bx⟩
  have re₁ : Re { c with G := Gu c.G R } A s.heap l A s := ⟨⟨re.ok.1, re.ok.2⟩, S₁, Pres.refl, New.refl⟩
  refine codeAny_mono (x (Gu c.G R) up inR { c with G := Gu c.G R } l rfl rfl (ok.up up) A s.heap s re₁) fun r s' P => ?_
  cases r with
  | error e => exact P.elim
  | ok fl => cases fl with
    | ret v =>
      obtain ⟨ok', l', H', S', p', n', q⟩ := P
      have there : ∀ r ∈ R, s'.heap.get? r.1 = some r.2 ∧ c.off r.1 := fun r hr => have z := S.led r (List.mem_append.mpr (.inr hr)); ⟨p' _ _ z.1 (off r hr) z.2, z.2⟩
      have apart : ∀ p ∈ H', ∀ r ∈ R, p.1 ≠ r.1 := fun p hp r hr z => by
        rcases n' p.1 (mem_keys hp) with y | y
        · exact off r hr (z ▸ y)
        · rw [z, (S.led r (List.mem_append.mpr (.inr hr))).1] at y; cases y
      have kk' : keys (H' ++ R) = keys H' ++ keys R := by simp
      refine Post.after S re.pr re.nw ⟨⟨ok'.1, ok'.2⟩, l', H' ++ R, ⟨S'.ns, fun a o e => have z := S'.kn a o (up a o e); ⟨z.1, z.2.1, fun q => ?_⟩, fun p hp => ?_, ?_, S'.bx⟩, fun a o e ha ho => p' a o e (fun q => ha (by rw [kk]; exact List.mem_append.mpr (.inl q))) ho, fun a ha => ?_, q.1, H', rfl, apart, q.2⟩
      · rw [kk'] at q
        rcases List.mem_append.mp q with q | q
        · exact z.2.2 q
        · exact (S.kn a o e).2.2 (by rw [kk]; exact List.mem_append.mpr (.inr q))
      · rcases List.mem_append.mp hp with hp | hp
        · exact S'.led p hp
        · exact there p hp
      · rw [kk']
        refine List.nodup_append.mpr ⟨S'.nd, nd'.2.1, fun a ha b hb z => ?_⟩
        obtain ⟨p, hp, rfl⟩ := List.mem_map.mp ha
        obtain ⟨r, hr, rfl⟩ := List.mem_map.mp hb
        exact apart p hp r hr z
      · rw [kk'] at ha
        rw [kk]
        rcases List.mem_append.mp ha with ha | ha
        · exact (n' a ha).imp (fun z => List.mem_append.mpr (.inl z)) id
        · exact .inl (List.mem_append.mpr (.inr ha))
    | _ => exact P.elim

/-- an object made; its __init__ is told of the new object alone -/
theorem J_newS {C fI : Addr} {vs : List Value} {Q : Value → Loc → Led → Prop} {Q' : Addr → Led → Prop} (ok : Ok w c (k + 1)) (hm : makesIn (Mine.hd.heap_39 w.params) C = true) (hi : findIn (Mine.hd.heap_39 w.params) (.ref C) "__init__" = some (some (.ref fI))) (hf : typeIn (Mine.hd.heap_39 w.params) (.ref fI) = some (.type "function"))
    (x : ∀ x dx G', x ≠ dx → (∀ a o, c.G a = some o → G' a = some o) → Kn G' H → IsI w (dictOf [] 0) [] → CJ w G' c.bx k (.ref fI) (.ref x :: vs) [(x, instObj C dx), (dx, dictOf [] 0)] fun v H' => v = .none ∧ Q' x H')
    (q : ∀ x H', Q' x H' → (∀ p ∈ H', ∀ r ∈ H, p.1 ≠ r.1) → Q (.ref x) l (H' ++ H)) : J w c (call (.ref C) vs) l H Q :=
  J_new ok hm hi hf fun x₁ dx₁ hne _ _ => (CJ_frame (A := [(x₁, instObj C dx₁), (dx₁, dictOf [] 0)]) (R := H) fun G' h1 h2 => x x₁ dx₁ G' hne h1 h2 ⟨[], 0, rfl, .nil⟩).mono fun v H' ⟨H₁, e, ap, z, q'⟩ => ⟨z, by subst e; exact q x₁ H₁ q' ap⟩

theorem SubLed.cons {H H' : Led} (p : Addr × Obj) (h : SubLed H' H) : SubLed (p :: H') (p :: H) := by
  obtain ⟨R, e⟩ := h
  exact ⟨R, e.cons p⟩
theorem SubLed.more {X Hb H : Led} (A : Led) (h : SubLed (X ++ Hb) H) : SubLed ((X ++ A) ++ Hb) (A ++ H) := by
  obtain ⟨R, e⟩ := h
  refine ⟨R, (e.append_left A).trans ?_⟩
  rw [List.append_assoc, List.append_assoc, ← List.append_assoc, List.append_assoc X, ← List.append_assoc X]
  refine (List.perm_append_comm (l₁ := A) (l₂ := X)).append_right _ |>.trans ?_
  simp
theorem np_make {w : World} {dx : Addr} {od : Obj} {ac ak al av au kl : Addr} {vc vk vl vv vu : List Value} {mc mk_ ml mv mu : Nat} {inum : Int} {num : Tok} {mark size : Value} {src ld ll uc pc va ms : Tok} {Hv : Led} {t : Told}
    (fs : IsI w od [("number", .int inum num), ("mark", mark), ("size", size), ("code", .ref ac), ("constants", .ref ak), ("protos", .ref kl), ("line_info", .ref al), ("locals", .ref av), ("upvalue_names", .ref au),
      ("source", .bytes t.source src), ("line_defined", .int t.ld ld), ("last_line", .int t.ll ll), ("upvalue_count", .int t.uc uc), ("param_count", .int t.pc pc), ("is_vararg", .int t.va va), ("max_stack", .int t.ms ms)])
    (code : IntsAre vc t.code) (consts : Atoms vk t.consts) (lines : IntsAre vl t.lines) (locals : LvsR w vv t.locals Hv) (ups : Atoms vu (t.ups.map .bytes)) :
    NP.Ok w ⟨dx, od, ac, ak, al, av, au, vc, vk, vl, vv, vu, mc, mk_, ml, mv, mu, inum, num, mark, size, src, ld, ll, uc, pc, va, ms, Hv⟩ kl t := ⟨fs, code, consts, lines, locals, ups⟩
@[reducible] noncomputable def KCompB (w : World) (c : Cx) (env : Env) (target elt : Expr) (ifs : List Expr) (scope : Scope) (cl : List (Str × Addr)) (names : List Str) (Inv : Led → Nat → List Value → Led → Prop) (Q : Value → Loc → Led → Prop) : Value → Loc → Led → Prop := fun xv l₁ H₁ => ∃ n P H₂ B, n ≤ 900 ∧ Source w c target xv l₁ H₁ H₂ n P ∧ Inv H₂ 0 [] H₂ ∧ (∀ i ys H, Inv H₂ i ys H → ys.length ≤ i) ∧
      CompOk w c env target elt ifs scope cl names n P B (Inv H₂) ∧ ∀ D ys m H₃, Inv H₂ n ys H₃ → Q (.ref D) l₁ ((D, lst ys m) :: H₃)
theorem J_ListCompB {target elt iter : Expr} {ifs : List Expr} {scope : Scope} {pos : Pos} {Q : Value → Loc → Led → Prop} (cl : List (Str × Addr)) (names : List Str) (hh : c.A.handled = none) (Inv : Led → Nat → List Value → Led → Prop)
    (x : J w c (eval iter env) l H (KCompB w c env target elt ifs scope cl names Inv Q))
    (hclos : closureFor scope env = pure cl := by with_unfolding_all rfl) (hcell : ∀ y ∈ scope.names, y.2 ≠ .cell := by decide) (hkind : scope.kind = .function := by rfl)
    (hnames : ∀ y ∈ scope.names, y.2 = .local → scope.names.lookup y.1 = some .local := by decide)
    (hs : ∀ x, foldedSetIterable iter env x = pure x := by intro _; rfl) :
    J w c (eval (.ListComp elt [⟨target, iter, ifs, 0⟩] scope pos) env) l H Q :=
  J_ListComp cl names hh (x.mono fun xv l₁ H₁ ⟨n, P, H₂, B, q⟩ => ⟨n, P, H₂, B, Inv H₂, q⟩) hclos hcell hkind hnames hs
end
end

-- J18
section
open PySem PySem.W PyProof.Rows PySem.Calls PySem.Spec PySem.SeqAt
inductive SpR : List Value → List Span → Led → Prop
  | nil : SpR [] [] []
  | cons {T : Addr} {s : Span} {tn ts te : Tok} {vs : List Value} {sp : List Span} {H : Led} : SpR vs sp H → SpR (.ref T :: vs) (s :: sp) ((T, tup [.bytes s.name tn, .int s.st ts, .int s.en te]) :: H)
theorem SpR.length {vs sp H} (h : SpR vs sp H) : vs.length = sp.length := by
  induction h with
  | nil => rfl
  | cons _ ih => simp [ih]
theorem SpR.snoc {vs sp H T s tn ts te} (h : SpR vs sp H) : SpR (vs ++ [.ref T]) (sp ++ [s]) (H ++ [(T, tup [.bytes s.name tn, .int s.st ts, .int s.en te])]) := by
  induction h with
  | nil => exact .cons .nil
  | cons _ ih => exact .cons ih
theorem SpR.get {vs : List Value} {sp : List Span} {H : Led} (h : SpR vs sp H) {i : Nat} {v : Value} (e : vs[i]? = some v) : ∃ T s tn ts te, sp[i]? = some s ∧ v = .ref T ∧ (T, tup [.bytes s.name tn, .int s.st ts, .int s.en te]) ∈ H := by
  induction h generalizing i with
  | nil => cases e
  | cons r ih =>
    cases i with
    | zero => cases e; exact ⟨_, _, _, _, _, rfl, rfl, .head _⟩
    | succ i =>
      obtain ⟨T, s, tn, ts, te, h1, h2, h3⟩ := ih e
      exact ⟨T, s, tn, ts, te, h1, h2, .tail _ h3⟩

/-- what a plan tells of a function -/
structure TD where
  od : Obj
  ac : Addr
  ak : Addr
  al : Addr
  av : Addr
  au : Addr
  vc : List Value
  vk : List Value
  vl : List Value
  vv : List Value
  vu : List Value
  mc : Nat
  mk_ : Nat
  ml : Nat
  mv : Nat
  mu : Nat
  src : Tok
  ld : Tok
  ll : Tok
  uc : Tok
  pc : Tok
  va : Tok
  ms : Tok
  Hs : Led
noncomputable def TD.fs (n : TD) (t : Told) : Loc := [("constants", .ref n.ak), ("code", .ref n.ac), ("locals", .ref n.av), ("line_info", .ref n.al), ("upvalue_names", .ref n.au), ("source", .bytes t.source n.src), ("line_defined", .int t.ld n.ld), ("last_line", .int t.ll n.ll),
  ("upvalue_count", .int t.uc n.uc), ("param_count", .int t.pc n.pc), ("is_vararg", .int t.va n.va), ("max_stack", .int t.ms n.ms)]
noncomputable def TD.led (n : TD) (td : Addr) : Led := (td, n.od) :: (n.ac, lst n.vc n.mc) :: (n.ak, lst n.vk n.mk_) :: (n.al, lst n.vl n.ml) :: (n.av, lst n.vv n.mv) :: (n.au, lst n.vu n.mu) :: n.Hs
structure TD.Ok (w : World) (n : TD) (t : Told) : Prop where
  fs : IsD w n.od (n.fs t)
  code : IntsAre n.vc t.code
  consts : Atoms n.vk t.consts
  lines : IntsAre n.vl t.lines
  locals : SpR n.vv t.locals n.Hs
  ups : Atoms n.vu (t.ups.map .bytes)
theorem td_make {w : World} {od : Obj} {ac ak al av au : Addr} {vc vk vl vv vu : List Value} {mc mk_ ml mv mu : Nat} {src ld ll uc pc va ms : Tok} {Hs : Led} {t : Told}
    (fs : IsD w od [("constants", .ref ak), ("code", .ref ac), ("locals", .ref av), ("line_info", .ref al), ("upvalue_names", .ref au), ("source", .bytes t.source src), ("line_defined", .int t.ld ld), ("last_line", .int t.ll ll),
      ("upvalue_count", .int t.uc uc), ("param_count", .int t.pc pc), ("is_vararg", .int t.va va), ("max_stack", .int t.ms ms)])
    (code : IntsAre vc t.code) (consts : Atoms vk t.consts) (lines : IntsAre vl t.lines) (locals : SpR vv t.locals Hs) (ups : Atoms vu (t.ups.map .bytes)) :
    TD.Ok w ⟨od, ac, ak, al, av, au, vc, vk, vl, vv, vu, mc, mk_, ml, mv, mu, src, ld, ll, uc, pc, va, ms, Hs⟩ t := ⟨fs, code, consts, lines, locals, ups⟩

mutual
inductive PlanR (w : World) : Value → Tree → Led → Prop
  | mk {p td ki : Addr} {n : TD} {t : Told} {kvs : List Value} {kids : List Tree} {m : Nat} {Hk : Led} : n.Ok w t → t.Small → PlansR w kvs kids Hk → PlanR w (.ref p) (.node t kids) ((p, tup [.ref td, .ref ki]) :: (n.led td ++ (ki, lst kvs m) :: Hk))
inductive PlansR (w : World) : List Value → List Tree → Led → Prop
  | nil : PlansR w [] [] []
  | cons {v : Value} {t : Tree} {H Hs : Led} {vs : List Value} {ts : List Tree} : PlanR w v t H → PlansR w vs ts Hs → PlansR w (v :: vs) (t :: ts) (H ++ Hs)
end
structure TDG (G : Addr → Option Obj) (w : World) (p td ki : Addr) (n : TD) (t : Told) (kvs : List Value) (m : Nat) : Prop where
  p : G p = some (tup [.ref td, .ref ki])
  td : G td = some n.od
  fs : IsD w n.od (n.fs t)
  c : G n.ac = some (lst n.vc n.mc)
  k : G n.ak = some (lst n.vk n.mk_)
  l : G n.al = some (lst n.vl n.ml)
  v : G n.av = some (lst n.vv n.mv)
  u : G n.au = some (lst n.vu n.mu)
  Hs : Kn G n.Hs
  i : G ki = some (lst kvs m)
  ok : n.Ok w t
theorem TDG.up {G G' : Addr → Option Obj} {w : World} {p td ki : Addr} {n : TD} {t : Told} {kvs : List Value} {m : Nat} (N : TDG G w p td ki n t kvs m) (h : ∀ a o, G a = some o → G' a = some o) : TDG G' w p td ki n t kvs m :=
  ⟨h _ _ N.p, h _ _ N.td, N.fs, h _ _ N.c, h _ _ N.k, h _ _ N.l, h _ _ N.v, h _ _ N.u, N.Hs.mono h, h _ _ N.i, N.ok⟩
mutual
inductive PlanG (G : Addr → Option Obj) (w : World) : Value → Tree → Prop
  | mk {p td ki : Addr} {n : TD} {t : Told} {kvs : List Value} {kids : List Tree} {m : Nat} : TDG G w p td ki n t kvs m → t.Small → PlansG G w kvs kids → PlanG G w (.ref p) (.node t kids)
inductive PlansG (G : Addr → Option Obj) (w : World) : List Value → List Tree → Prop
  | nil : PlansG G w [] []
  | cons {v : Value} {t : Tree} {vs : List Value} {ts : List Tree} : PlanG G w v t → PlansG G w vs ts → PlansG G w (v :: vs) (t :: ts)
end
theorem PlanG.up {G G' : Addr → Option Obj} {w : World} (h : ∀ a o, G a = some o → G' a = some o) {v T} (H : PlanG G w v T) : PlanG G' w v T :=
  PlanG.rec (motive_1 := fun v T _ => PlanG G' w v T) (motive_2 := fun vs ts _ => PlansG G' w vs ts) (fun N S _ k => .mk (N.up h) S k) .nil (fun _ _ p r => .cons p r) H
theorem PlanR.g {G : Addr → Option Obj} {w : World} {v T H} (P : PlanR w v T H) : Kn G H → PlanG G w v T :=
  PlanR.rec (motive_1 := fun v T H _ => Kn G H → PlanG G w v T) (motive_2 := fun vs ts H _ => Kn G H → PlansG G w vs ts)
    (fun ok S _ k h => .mk ⟨h.head, h.tail.left.head, ok.fs, h.tail.left.tail.head, h.tail.left.tail.tail.head, h.tail.left.tail.tail.tail.head, h.tail.left.tail.tail.tail.tail.head, h.tail.left.tail.tail.tail.tail.tail.head, h.tail.left.tail.tail.tail.tail.tail.tail, h.tail.right.head, ok⟩ S (k h.tail.right.tail))
    (fun _ => .nil) (fun _ _ p r h => .cons (p h.left) (r h.right)) P
theorem PlansG.length {G : Addr → Option Obj} {w : World} {vs ts} (H : PlansG G w vs ts) : vs.length = ts.length :=
  PlansG.rec (motive_1 := fun _ _ _ => True) (motive_2 := fun vs ts _ => vs.length = ts.length) (fun _ _ _ _ => trivial) rfl (fun _ _ _ r => congrArg Nat.succ r) H
theorem PlansG.get {G : Addr → Option Obj} {w : World} {vs ts} (H : PlansG G w vs ts) : ∀ {i : Nat} {v : Value}, vs[i]? = some v → ∃ T, ts[i]? = some T ∧ PlanG G w v T := by
  refine PlansG.rec (motive_1 := fun _ _ _ => True) (motive_2 := fun vs ts _ => ∀ {i : Nat} {v : Value}, vs[i]? = some v → ∃ T, ts[i]? = some T ∧ PlanG G w v T) (fun _ _ _ _ => trivial) (fun e => nomatch e) ?_ H
  intro v t vs ts p _ _ r i u e
  cases i with
  | zero => cases e; exact ⟨_, rfl, p⟩
  | succ i => exact r e
theorem PlansR.snoc {w : World} {vs ts H v t H'} (P : PlansR w vs ts H) (h : PlanR w v t H') : PlansR w (vs ++ [v]) (ts ++ [t]) (H ++ H') := by
  refine PlansR.rec (motive_1 := fun _ _ _ _ => True) (motive_2 := fun vs ts H _ => PlansR w (vs ++ [v]) (ts ++ [t]) (H ++ H')) (fun _ _ _ _ => trivial) ?_ (fun p _ _ r => by rw [List.append_assoc]; exact .cons p r) P
  have := PlansR.cons h .nil
  rwa [List.append_nil] at this
theorem ProtosR.snoc {w : World} {vs ts H v t H'} (P : ProtosR w vs ts H) (h : ProtoR w v t H') : ProtosR w (vs ++ [v]) (ts ++ [t]) (H ++ H') := by
  refine ProtosR.rec (motive_1 := fun _ _ _ _ => True) (motive_2 := fun vs ts H _ => ProtosR w (vs ++ [v]) (ts ++ [t]) (H ++ H')) (fun _ _ _ _ => trivial) ?_ (fun p _ _ r => by rw [List.append_assoc]; exact .cons p r) P
  have := ProtosR.cons h .nil
  rwa [List.append_nil] at this
theorem ProtosR.length {w : World} {vs ts H} (P : ProtosR w vs ts H) : vs.length = ts.length :=
  ProtosR.rec (motive_1 := fun _ _ _ _ => True) (motive_2 := fun vs ts _ _ => vs.length = ts.length) (fun _ _ _ _ => trivial) rfl (fun _ _ _ r => congrArg Nat.succ r) P
theorem PlansR.length {w : World} {vs ts H} (P : PlansR w vs ts H) : vs.length = ts.length :=
  PlansR.rec (motive_1 := fun _ _ _ _ => True) (motive_2 := fun vs ts _ _ => vs.length = ts.length) (fun _ _ _ _ => trivial) rfl (fun _ _ _ r => congrArg Nat.succ r) P
theorem tsize_pos : ∀ T, 1 ≤ tsize T
  | .node _ _ => by rw [tsize]; omega
theorem tsizes_le : ∀ ts : List Tree, ts.length ≤ tsizes ts
  | [] => Nat.le_refl _
  | t :: ts => by have := tsize_pos t; have := tsizes_le ts; rw [tsizes, List.length_cons]; omega
theorem tsize_get : ∀ {ts : List Tree} {i : Nat} {T : Tree}, ts[i]? = some T → tsize T ≤ tsizes ts
  | [], _, _, e => by simp at e
  | t :: ts, 0, T, e => by simp at e; subst e; rw [tsizes]; omega
  | t :: ts, i + 1, T, e => by have := tsize_get (ts := ts) (i := i) (T := T) (by simpa using e); rw [tsizes]; omega
theorem tsizes_append : ∀ a b : List Tree, tsizes (a ++ b) = tsizes a + tsizes b
  | [], b => by rw [List.nil_append, tsizes]; omega
  | t :: ts, b => by rw [List.cons_append, tsizes, tsizes, tsizes_append]; omega
end

-- J19
section
open PySem PySem.W PyProof.Rows PySem.Calls PySem.Spec PySem.SeqAt
-- a plan with all its nodes, the first first
mutual
inductive PlanL (G : Addr → Option Obj) (w : World) : Value → Tree → List Value → Prop
  | mk {p td ki : Addr} {n : TD} {t : Told} {kvs : List Value} {kids : List Tree} {m : Nat} {Ls : List Value} : TDG G w p td ki n t kvs m → t.Small → PlansL G w kvs kids Ls → PlanL G w (.ref p) (.node t kids) (.ref p :: Ls)
inductive PlansL (G : Addr → Option Obj) (w : World) : List Value → List Tree → List Value → Prop
  | nil : PlansL G w [] [] []
  | cons {v : Value} {t : Tree} {L Ls : List Value} {vs : List Value} {ts : List Tree} : PlanL G w v t L → PlansL G w vs ts Ls → PlansL G w (v :: vs) (t :: ts) (L ++ Ls)
end
theorem PlanL.up {G G' : Addr → Option Obj} {w : World} (h : ∀ a o, G a = some o → G' a = some o) {v T L} (P : PlanL G w v T L) : PlanL G' w v T L :=
  PlanL.rec (motive_1 := fun v T L _ => PlanL G' w v T L) (motive_2 := fun vs ts L _ => PlansL G' w vs ts L) (fun N S _ k => .mk (N.up h) S k) .nil (fun _ _ p r => .cons p r) P
theorem PlanG.l {G : Addr → Option Obj} {w : World} {v T} (P : PlanG G w v T) : ∃ L, PlanL G w v T L :=
  PlanG.rec (motive_1 := fun v T _ => ∃ L, PlanL G w v T L) (motive_2 := fun vs ts _ => ∃ L, PlansL G w vs ts L) (fun N S _ k => k.elim fun _ h => ⟨_, .mk N S h⟩) ⟨_, .nil⟩ (fun _ _ p r => p.elim fun _ h => r.elim fun _ h' => ⟨_, .cons h h'⟩) P
theorem PlansL.g {G : Addr → Option Obj} {w : World} {vs ts L} (P : PlansL G w vs ts L) : PlansG G w vs ts :=
  PlansL.rec (motive_1 := fun v T _ _ => PlanG G w v T) (motive_2 := fun vs ts _ _ => PlansG G w vs ts) (fun N S _ k => .mk N S k) .nil (fun _ _ p r => .cons p r) P
theorem PlansG.append {G : Addr → Option Obj} {w : World} {vs ts us us'} (P : PlansG G w vs ts) (h : PlansG G w us us') : PlansG G w (vs ++ us) (ts ++ us') :=
  PlansG.rec (motive_1 := fun _ _ _ => True) (motive_2 := fun vs ts _ => PlansG G w (vs ++ us) (ts ++ us')) (fun _ _ _ _ => trivial) h (fun p _ _ r => .cons p r) P
theorem PlanL.pre {G : Addr → Option Obj} {w : World} {v T L} (P : PlanL G w v T L) : PlansG G w L (Mine.pre T) :=
  PlanL.rec (motive_1 := fun _ T L _ => PlansG G w L (Mine.pre T)) (motive_2 := fun _ ts L _ => PlansG G w L (Mine.pres ts)) (fun N S k r => by rw [Mine.pre]; exact .cons (.mk N S k.g) r) (by rw [Mine.pres]; exact .nil)
    (fun _ _ p r => by rw [Mine.pres]; exact PlansG.append p r) P
theorem PlanL.length {G : Addr → Option Obj} {w : World} {v T L} (P : PlanL G w v T L) : L.length = tsize T :=
  PlanL.rec (motive_1 := fun _ T L _ => L.length = tsize T) (motive_2 := fun _ ts L _ => L.length = tsizes ts) (fun _ _ _ k => by rw [tsize, List.length_cons, k, Nat.add_comm]) rfl
    (fun _ _ p r => by rw [tsizes, List.length_append, p, r]) P
theorem PlansL.nth {G : Addr → Option Obj} {w : World} {vs ts L} (P : PlansL G w vs ts L) : ∃ La : Nat → List Value, La 0 = [] ∧ La vs.length = L ∧ ∀ (i : Nat) (v : Value), vs[i]? = some v → ∃ T Li, ts[i]? = some T ∧ PlanL G w v T Li ∧ La (i + 1) = La i ++ Li ∧ (La i).length = tsizes (ts.take i) := by
  refine PlansL.rec (motive_1 := fun _ _ _ _ => True) (motive_2 := fun vs ts L _ => ∃ La : Nat → List Value, La 0 = [] ∧ La vs.length = L ∧ ∀ (i : Nat) (v : Value), vs[i]? = some v → ∃ T Li, ts[i]? = some T ∧ PlanL G w v T Li ∧ La (i + 1) = La i ++ Li ∧ (La i).length = tsizes (ts.take i)) (fun _ _ _ _ => trivial) ⟨fun _ => [], rfl, rfl, fun i v e => nomatch e⟩ ?_ P
  intro v t L Ls vs ts p r _ ⟨La, h0, h1, h2⟩
  refine ⟨fun i => Nat.rec [] (fun i _ => L ++ La i) i, rfl, congrArg (L ++ ·) h1, fun i v e => ?_⟩
  cases i with
  | zero => cases e; exact ⟨_, _, rfl, p, by show L ++ La 0 = L; rw [h0]; exact List.append_nil _, rfl⟩
  | succ i =>
    obtain ⟨T, Li, g1, g2, g3, g4⟩ := h2 i v e
    exact ⟨T, Li, g1, g2, by show L ++ La (i + 1) = L ++ La i ++ Li; rw [g3, List.append_assoc], by show (L ++ La i).length = tsizes (t :: ts.take i); rw [List.length_append, tsizes, p.length, g4]⟩
theorem kidPlaces_snoc : ∀ (a : List Tree) (t : Tree) (p : Nat), kidPlaces (a ++ [t]) p = kidPlaces a p ++ [((p + tsizes a : Nat) : Int)]
  | [], t, p => by simp [kidPlaces, tsizes]
  | x :: r, t, p => by rw [List.cons_append, kidPlaces, kidPlaces, kidPlaces_snoc, tsizes, Nat.add_assoc]; rfl
theorem kidPlaces_length : ∀ (a : List Tree) (p : Nat), (kidPlaces a p).length = a.length
  | [], p => rfl
  | x :: r, p => by rw [kidPlaces, List.length_cons, kidPlaces_length, List.length_cons]
theorem placesOfs_snoc : ∀ (a : List Tree) (t : Tree) (p : Nat), placesOfs (a ++ [t]) p = placesOfs a p ++ placesOf t (p + tsizes a)
  | [], t, p => by simp [placesOfs, tsizes]
  | x :: r, t, p => by rw [List.cons_append, placesOfs, placesOfs, placesOfs_snoc, tsizes, Nat.add_assoc, List.append_assoc]
end

section
open PySem.Calls PySem.Spec
-- the walk's own words
local macro_rules | `(tactic| walk_at "JSet") => `(tactic| first | (with_reducible exact SetL.here) | (refine' SetL.there ?e ?s; (case e => decide); (case s => walk_at "JSet")) | exact SetL.nil)
local macro_rules | `(tactic| walk_at "JMem") => `(tactic| with_reducible first | exact mem_hd | (refine mem_tl ?_; walk_at "JMem") | (refine List.mem_append_left _ ?_; walk_at "JMem") | (refine List.mem_append_right _ ?_; walk_at "JMem"))
local macro_rules | `(tactic| walk_at "JAt") => `(tactic| first | (with_reducible exact At.head) | (refine' At.tail ?s; (case s => walk_at "JAt")))
local macro_rules | `(tactic| walk_at "JAtF") => `(tactic| with_reducible first | exact AtF.head | (refine' AtF.tail ?s; (case s => walk_at "JAtF")) | (refine' AtF.left ?s; (case s => walk_at "JAtF")) | (refine' AtF.right ?s; (case s => walk_at "JAtF")))
local macro_rules | `(tactic| walk_at "JPick") => `(tactic| with_reducible first | exact Pick.head | (refine' Pick.tail ?s; (case s => walk_at "JPick")) | (refine' Pick.left ?s; (case s => walk_at "JPick")) | (refine' Pick.right ?s; (case s => walk_at "JPick")))
local macro_rules | `(tactic| walk_at "JPickL") => `(tactic| with_reducible first | exact PickL.all | exact PickL.head | (refine' PickL.tail ?s; (case s => walk_at "JPickL")) | (refine' PickL.left ?s; (case s => walk_at "JPickL")) | (refine' PickL.right ?s; (case s => walk_at "JPickL")))
local macro_rules | `(tactic| walk_at "JSplit") => `(tactic| with_reducible first | exact Split.nil | (refine' Split.cons ?p ?s; (case p => walk_at "JPick"); (case s => walk_at "JSplit")) | (refine' Split.app ?p ?s; (case p => walk_at "JPickL"); (case s => walk_at "JSplit")) | (refine' Split.one ?p; (case p => walk_at "JPickL")))
local macro_rules | `(tactic| walk_at "JSub") => `(tactic| first | exact SubLed.refl | (refine' Split.sub ?s; (case s => walk_at "JSplit")))
local macro_rules | `(tactic| walk_at "JHas") => `(tactic| first | exact trivial | exact And.intro (by with_unfolding_all exact rfl) (by walk_at "JHas"))
-- known or of the ledger
local macro_rules | `(tactic| walk_at "JRoom") => `(tactic| first | (refine Or.inl ?_; walk_at "JMem") | (refine Or.inr ?_; with_reducible assumption))
local macro_rules | `(tactic| walk_at "JName") => `(tactic| first
  | refine J_local (by with_unfolding_all exact rfl) ?_
  | refine J_global (by assumption) (by k_is) ?_
  | refine J_builtin (by assumption) (by k_is) (by with_unfolding_all boot_by_name) ?_
  | refine J_cellV (by with_unfolding_all exact rfl) (by walk_at "JRoom") (by assumption) ?_)
local macro_rules | `(tactic| walk_at "JConst") => `(tactic| first
  | (refine J_int ?_; intro _)
  | refine J_none ?_
  | refine J_bool ?_
  | (refine J_str ?_; intro _)
  | (refine J_bytes ?_; intro _))
local macro_rules | `(tactic| walk_at "Jeval") => `(tactic| first
  | ((show J _ _ (eval (Expr.Name _ _) _) _ _ _); walk_at "JName")
  | ((show J _ _ (eval (Expr.Constant _ _ _) _) _ _ _); walk_at "JConst")
  | refine J_Method ?_
  | refine J_Call ?_
  | refine J_Attr ?_
  | refine J_Sub ?_
  | refine J_BinOp ?_
  | refine J_Compare1 ?_
  | refine J_And2 ?_
  | refine J_IfExp ?_
  | refine J_UnaryOp ?_
  | refine J_Tuple ?_
  | refine J_List ?_)
local macro_rules | `(tactic| walk_at "Jexec") => `(tactic| first
  | refine J_Assign_Name ?_
  | refine J_Assign_Attr ?_
  | refine J_Assign_Sub ?_
  | refine J_Return ?_
  | refine J_If ?_
  | refine J_Expr ?_
  | refine J_swap2 (Ok.hd (by assumption)) ?_
  | refine J_swap3 (Ok.hd (by assumption)) ?_
  | refine J_part2 (Ok.hd (by assumption)) ?_
  | refine J_part3 (Ok.hd (by assumption)) ?_
  | refine J_Assign_Tuple ?_)
local macro_rules | `(tactic| walk_at "JisTrue") => `(tactic| first
  | refine J_isTrue_Compare1 ?_
  | refine J_isTrue_Not ?_
  | refine J_isTrue_BoolOp ?_
  | refine J_isTrue_chain2 ?_
  | refine J_isTrue_plain ?_)
local macro_rules | `(tactic| walk_at "JallTrue") => `(tactic| first
  | refine J_allAnd_cons ?_
  | refine J_allOr_cons ?_
  | refine J_allAnd_nil ?_
  | refine J_allOr_nil ?_)
local macro_rules | `(tactic| walk_at "JbinOp") => `(tactic| first
  | (refine J_add ?_; intro _)
  | (refine J_subI ?_; intro _)
  | (refine J_mul ?_; intro _)
  | (refine J_mod (by omega) ?_; intro _)
  | (refine J_fdiv (by decide) ?_; intro _))
local macro_rules | `(tactic| walk_at "JcmpOp") => `(tactic| first
  | refine J_lt ?_
  | refine J_gt ?_
  | refine J_le ?_
  | refine J_eqI ?_
  | refine J_neI ?_
  | refine J_eqStr ?_)
local macro_rules | `(tactic| walk_at "JcallW") => `(tactic| first
  | refine J_callB0 ?_
  | refine J_callB ?_
  | refine J_callM ?_
  | refine J_callT ?_
  | refine J_callD (by assumption) (by k_is) ?_
  | refine J_callDM (by assumption) (by k_is) ?_
  | refine J_callD0 (by assumption) (by k_is) ?_)
local macro_rules | `(tactic| walk_at "JsubT") => `(tactic| first
  | refine J_itemL (by walk_at "JRoom") (by decide) (by decide) (by with_unfolding_all rfl) ?_
  | refine J_itemT (by walk_at "JRoom") (by decide) (by decide) (by with_unfolding_all rfl) (by with_unfolding_all rfl) ?_
  | refine J_itemD (by walk_at "JRoom") (by assumption) (by with_unfolding_all exact rfl) ?_)
local macro_rules | `(tactic| walk_at "Jcall") => `(tactic| first
  | ((show J _ _ (call (Value.builtin "len") _) _ _ _); refine J_len (by walk_at "JRoom") (by first | assumption | omega | (simp; done) | (simp; omega)) ?_; intro _)
  | ((show J _ _ (call (Value.type "list") _) _ _ _); refine J_list (by walk_at "JRoom") (by first | assumption | omega | (simp; done) | (simp; omega)) ?_; intro _ _ _)
  | ((show J _ _ (call (Value.builtin "list.append") _) _ _ _); refine J_appendF (by walk_at "JAtF") (by first | assumption | omega | (simp; done) | (simp; omega)) ?_))
local macro_rules | `(tactic| walk_at "J") => `(tactic| with_reducible first
  | ((show J _ _ (eval _ _) _ _ _); walk_at "Jeval")
  | ((show J _ _ (execs _ _) _ _ _); first | refine J_execs_cons ?_ | refine J_execs_nil ?_)
  | ((show J _ _ (exec _ _) _ _ _); walk_at "Jexec")
  | ((show J _ _ (spliced _) _ _ _); first | refine J_args_cons ?_ | refine J_args_nil ?_)
  | ((show J _ _ (callWith _ _ _ _ _) _ _ _); walk_at "JcallW")
  | ((show J _ _ (getAttr _ _ _) _ _ _); refine J_getAttr (by assumption) (by walk_at "JRoom") (by walk_at "JRoom") (by assumption) (by with_unfolding_all exact rfl) (by k_is) (by k_is) (by k_is) (by k_is) (by with_unfolding_all exact rfl) ?_)
  | ((show J _ _ (setAttr _ _ _) _ _ _); refine J_setAttr (by assumption) (by walk_at "JRoom") (by walk_at "JAtF") (by assumption) (by walk_at "JSet") (by first | decide | (simp; done)) (by k_is) (by k_is) (by k_is) (by k_is) ?_; intro _ _)
  | ((show J _ _ (getMethod _ _ _) _ _ _); first
      | refine J_getAppend (by walk_at "JRoom") ?_
      | refine J_getPop (by walk_at "JRoom") ?_
      | refine J_getMeth (by assumption) (by walk_at "JRoom") (by walk_at "JRoom") (by assumption) (by with_unfolding_all exact rfl) (by k_is) (by k_is) (by k_is) ?_
      | refine J_getMethCls (by assumption) (by k_is) (by k_is) (by k_is) (by k_is) (by with_unfolding_all exact rfl) ?_)
  | ((show J _ _ (subscriptTail _ _ _ _) _ _ _); walk_at "JsubT")
  | ((show J _ _ (storeName _ _ _) _ _ _); first
      | refine J_store (by walk_at "JSet") ?_
      | (refine J_storeCell (by with_unfolding_all exact rfl) (by walk_at "JAtF") (by assumption) ?_; intro _ _))
  | ((show J _ _ (isTrue _ _ _) _ _ _); walk_at "JisTrue")
  | ((show J _ _ (compareOp _ _ _) _ _ _); walk_at "JcmpOp")
  | ((show J _ _ (binaryOp _ _ _) _ _ _); walk_at "JbinOp")
  | ((show J _ _ (unaryOp _ _) _ _ _); refine J_neg ?_; intro _)
  | ((show J _ _ (truthy _) _ _ _); refine J_truthy_bool ?_)
  | ((show J _ _ (call _ _) _ _ _); walk_at "Jcall")
  | ((show J _ _ (allTrue _ _ _) _ _ _); walk_at "JallTrue")
  | ((show J _ _ (testChain _ _ _ _) _ _ _); refine J_link ?_)
  | ((show J _ _ (newTuple _) _ _ _); refine J_newTuple (by simp) ?_; intro _ _)
  | ((show J _ _ (newList _) _ _ _); refine J_newList (by simp) ?_; intro _ _)
  | ((show J _ _ (bindName _ _ _) _ _ _); refine J_bindName ?_)
  | ((show J _ _ (assignInOrder _ _) _ _ _); first | refine J_inOrder_cons ?_ | refine J_inOrder_nil ?_)
  | ((show J _ _ (assign _ _ _) _ _ _); first | refine J_assign_Name ?_ | refine J_assign_Attr ?_ | refine J_names2 (Ok.hd (by assumption)) (by walk_at "JRoom") rfl rfl ?_ | refine J_names3 (Ok.hd (by assumption)) (by walk_at "JRoom") rfl rfl ?_)
  | ((show J _ _ (setItem _ (Value.int _ _) _) _ _ _); refine J_setLF (by walk_at "JAtF") (by decide) (by first | assumption | omega | (simp; done) | (simp; omega)) (by first | assumption | omega | (simp; done) | (simp; omega)) ?_)
  | ((show J _ _ (setItem _ (Value.str _ _) _) _ _ _); refine J_setD (by walk_at "JAtF") (by assumption) (by first | decide | (simp; done) | (simp; omega)) ?_; intro _ _)
  | refine Fl_next ?_
  | refine Fl_ret ?_
  | refine J_ite_t ?_
  | refine J_ite_f ?_)
local macro_rules | `(tactic| walk_at "JdefC") => `(tactic| (intro n y hy; simp only [List.mem_cons, List.not_mem_nil, or_false] at hy; first | (rcases hy with h | h <;> (subst h; first | exact Or.inl rfl | exact Or.inr ⟨rfl, rfl⟩)) | (rcases hy with h | h | h <;> (subst h; first | exact Or.inl rfl | exact Or.inr ⟨rfl, rfl⟩))))
local macro_rules | `(tactic| walk_at "w") => `(tactic| repeat walk_at "J")
local macro_rules | `(tactic| walk_at "JL") => `(tactic| dsimp only [List.cons_append, List.nil_append])

-- D1
section
open PySem PySem.W PyProof.Rows PySem.Calls PySem.Spec
section
variable {w : World} {G : Addr → Option Obj}
set_option maxHeartbeats 1000000 in
theorem draw0 {b ca : Addr} {bo co : Obj} {many : Int} {tm : Tok} (B : BoxObj ca bo) (C : CellsObj co) (hm : 1 ≤ many) :
    CJ w G none 1 (.ref 179) [.ref b, .int many tm] [(b, bo), (ca, co)] fun v H' => ∃ k t bo', v = .int k t ∧ 0 ≤ k ∧ k < many ∧ H' = [(b, bo'), (ca, co)] ∧ BoxObj ca bo' := by
  obtain ⟨at_, ta, c₀, tc, n, rfl, hat⟩ := B
  obtain ⟨vs, ns, n2, rfl, hi, hlen⟩ := C
  refine CJ_def (binds := [(Str.ofString "box", .ref b), (Str.ofString "many", .int many tm)]) (by k_is) (by k_is) (by rfl) (by exact locs rfl) (by rfl) ?_ (by decide)
  intro c hG hb ok
  repeat walk_at "J"
  refine J_ite (fun hlt => ?_) (fun hge => ?_)
  · have hlt := of_decide_eq_true hlt
    obtain ⟨u, hu⟩ := hi.get (at_ + 1).toNat (ns.getD (at_ + 1).toNat 0) (by rw [List.getD_eq_getElem?_getD]; have := hi.length; rw [List.getElem?_eq_getElem (by omega)]; rfl)
    repeat walk_at "J"
    refine J_itemL (.inl (by walk_at "JMem")) (by omega) (by omega) hu ?_
    repeat walk_at "J"
    exact ⟨_, _, _, rfl, Int.fmod_nonneg_of_pos _ (by omega), Int.fmod_lt_of_pos _ (by omega), rfl, _, _, _, _, _, rfl, by omega⟩
  · repeat walk_at "J"
    exact ⟨_, _, _, rfl, Int.fmod_nonneg_of_pos _ (by omega), Int.fmod_lt_of_pos _ (by omega), rfl, _, _, _, _, _, rfl, by omega⟩

theorem J_draw {c : Cx} {l : Loc} {H : Led} {k : Nat} {b ca : Addr} {many : Int} {tm : Tok} {Q : Value → Loc → Led → Prop} (ok : Ok w c (k + 1)) (hb : c.bx = some (b, ca)) (hm : 1 ≤ many) (q : ∀ k t, 0 ≤ k → k < many → Q (.int k t) l H) : J w c (call (.ref 179) [.ref b, .int many tm]) l H Q := by
  refine J_box hb fun bo co B C hne => ?_
  have ok' : Ok w { c with bx := none } 1 := ⟨by obtain ⟨hB, mg, mb, B⟩ := ok.base; exact ⟨hB, mg, mb, B.kin, B.top, B.sub, B.above⟩, ok.hd, by have := ok.dep; show c.A.depth + 1 ≤ 900; omega, by have := ok.un; show c.A.units + 8 * 1 ≤ 9000; omega⟩
  refine J_frame (R := H) ?_
  refine ((draw0 (w := w) (G := c.G) B C hm).j (c := { c with bx := none }) (l := l) rfl rfl ok').mono fun v l' H' z ap => ?_
  obtain ⟨rfl, k, t, bo', rfl, h0, h1, rfl, B'⟩ := z
  exact ⟨bo', H, B', rfl, q k t h0 h1⟩
end
end

-- F1
section
open PySem PySem.W PyProof.Rows PySem.Calls PySem.Spec
section
variable {w : World} {G : Addr → Option Obj} {bx : Option (Addr × Addr)}
set_option maxHeartbeats 1000000 in
theorem c_line_at {x kl : Addr} {n : NP} {t : Told} {kvs : List Value} {m : Nat} {i : Int} {u : Tok} (N : NodeG G w x n kl t kvs m) (S : t.Small) :
    CJ w G bx 1 (.ref 77) [.ref x, .int i u] [] fun v H' => AtomV v (.int (if 0 ≤ i ∧ i < t.lines.length then t.lines.getD i.toNat 0 else 0)) ∧ H' = [] := by
  refine CJ_def (binds := [(Str.ofString "self", .ref x), (Str.ofString "pc", .int i u)]) (by k_is) (by k_is) (by rfl) (by exact locs rfl) (by rfl) ?_ (by decide)
  intro c hG hb ok
  subst hG hb
  obtain ⟨nx, ndx, nfs, nc, nk, nl, nv, nu, np, nH, nok⟩ := N
  have hl := nok.lines.length
  have hz := S.lines
  walk_at "w"
  refine J_ite (fun h1 => ?_) (fun h1 => ?_)
  · have h1 := of_decide_eq_true h1
    walk_at "w"
    refine J_ite (fun h2 => ?_) (fun h2 => ?_)
    · have h2 := of_decide_eq_true h2
      walk_at "w"
      obtain ⟨k, hk⟩ := nok.lines.get i.toNat (t.lines.getD i.toNat 0) (by rw [List.getD_eq_getElem?_getD, List.getElem?_eq_getElem (by omega)]; rfl)
      refine J_itemL (by walk_at "JRoom") (by omega) (by omega) hk ?_
      walk_at "w"
      rw [if_pos ⟨h1, by omega⟩]
      exact ⟨.int _ _, rfl⟩
    · have h2 := of_decide_eq_false h2
      walk_at "w"
      rw [if_neg (by omega)]
      exact ⟨.int _ _, rfl⟩
  · have h1 := of_decide_eq_false h1
    walk_at "w"
    rw [if_neg (by omega)]
    exact ⟨.int _ _, rfl⟩
set_option maxHeartbeats 1000000 in
theorem c_upvalue_name {x kl : Addr} {n : NP} {t : Told} {kvs : List Value} {m : Nat} {i : Int} {u : Tok} (N : NodeG G w x n kl t kvs m) (S : t.Small) :
    CJ w G bx 1 (.ref 91) [.ref x, .int i u] [] fun v H' => AtomV v (if 0 ≤ i ∧ i < t.ups.length then .bytes (t.ups.getD i.toNat #[]) else .none) ∧ H' = [] := by
  refine CJ_def (binds := [(Str.ofString "self", .ref x), (Str.ofString "index", .int i u)]) (by k_is) (by k_is) (by rfl) (by exact locs rfl) (by rfl) ?_ (by decide)
  intro c hG hb ok
  subst hG hb
  obtain ⟨nx, ndx, nfs, nc, nk, nl, nv, nu, np, nH, nok⟩ := N
  have hl := nok.ups.length
  simp only [List.length_map] at hl
  have hz := S.ups
  walk_at "w"
  refine J_ite (fun h1 => ?_) (fun h1 => ?_)
  · have h1 := of_decide_eq_true h1
    walk_at "w"
    refine J_ite (fun h2 => ?_) (fun h2 => ?_)
    · have h2 := of_decide_eq_true h2
      walk_at "w"
      obtain ⟨v, hv, ha⟩ := nok.ups.getD (i := i.toNat) (d := .bytes (t.ups.getD i.toNat #[])) (by rw [List.getD_eq_getElem?_getD, List.getElem?_map, List.getElem?_eq_getElem (by omega)]; rfl)
      refine J_itemL (by walk_at "JRoom") (by omega) (by omega) hv ?_
      walk_at "w"
      rw [if_pos ⟨h1, by omega⟩]
      exact ⟨ha, rfl⟩
    · have h2 := of_decide_eq_false h2
      walk_at "w"
      rw [if_neg (by omega)]
      exact ⟨.none, rfl⟩
  · have h1 := of_decide_eq_false h1
    walk_at "w"
    rw [if_neg (by omega)]
    exact ⟨.none, rfl⟩
set_option maxHeartbeats 1000000 in
theorem c_constant_kind {v : Value} {d : AT} (A : AtomV v d) :
    CJ w G bx 1 (.ref 122) [v] [] fun r H' => AtomV r (.int d.kind) ∧ H' = [] := by
  refine CJ_def (binds := [(Str.ofString "value", v)]) (by k_is) (by k_is) (by rfl) (by exact locs rfl) (by rfl) ?_ (by decide)
  intro c hG hb ok
  subst hG hb
  walk_at "w"
  refine J_isNone A ?_
  walk_at "w"
  refine J_ite (fun h1 => ?_) (fun h1 => ?_)
  · have h1 := eq_of_beq h1
    subst h1
    walk_at "w"
    exact ⟨.int _ _, rfl⟩
  · have h1 : d ≠ .none := fun e => by rw [e] at h1; cases h1
    walk_at "w"
    refine J_isBool A h1 ?_
    walk_at "w"
    refine J_ite (fun h2 => ?_) (fun h2 => ?_)
    · walk_at "w"
      cases d <;> first | exact ⟨.int _ _, rfl⟩ | exact (Bool.false_ne_true h2).elim
    · have h2 : d.kind ≠ 1 := fun e => by rw [e] at h2; cases h2
      walk_at "w"
      refine J_isBytes A h1 h2 ?_
      walk_at "w"
      refine J_ite (fun h3 => ?_) (fun h3 => ?_)
      · walk_at "w"
        cases d <;> first | exact ⟨.int _ _, rfl⟩ | exact (Bool.false_ne_true h3).elim
      · walk_at "w"
        cases d <;> first | exact ⟨.int _ _, rfl⟩ | exact absurd rfl h1 | exact absurd rfl h2 | exact (Bool.noConfusion h3)
set_option maxHeartbeats 1000000 in
theorem c_proto_size {x kl : Addr} {n : NP} {t : Told} {kvs : List Value} {m : Nat} (N : NodeG G w x n kl t kvs m) (S : t.Small) (hk : kvs.length ≤ 20) :
    CJ w G bx 1 (.ref 115) [.ref x] [] fun v H' => AtomV v (.int (16 + t.code.length + t.consts.length + kvs.length + t.lines.length + 3 * t.locals.length + t.ups.length)) ∧ H' = [] := by
  refine CJ_def (binds := [(Str.ofString "p", .ref x)]) (by k_is) (by k_is) (by rfl) (by exact locs rfl) (by rfl) ?_ (by decide)
  intro c hG hb ok
  subst hG hb
  obtain ⟨nx, ndx, nfs, nc, nk, nl, nv, nu, np, nH, nok⟩ := N
  obtain ⟨z1, z2, z3, z4, z5⟩ := S
  have e1 := nok.code.length
  have e2 := nok.consts.length
  have e3 := nok.lines.length
  have e4 := nok.locals.length
  have e5 := nok.ups.length
  simp only [List.length_map] at e5
  walk_at "w"
  refine ⟨?_, rfl⟩
  exact (AtomV.int _ _).cast (congrArg AT.int (by omega))
end
end

-- F2
section
open PySem PySem.W PyProof.Rows PySem.Calls PySem.Spec
section
variable {w : World} {G : Addr → Option Obj} {bx : Option (Addr × Addr)}
theorem LvsR.get {vs : List Value} {sp : List Span} {H : Led} (h : LvsR w vs sp H) {i : Nat} {v : Value} (e : vs[i]? = some v) :
    ∃ y dy od s tn ts te, sp[i]? = some s ∧ v = .ref y ∧ (y, instObj 52 dy) ∈ H ∧ (dy, od) ∈ H ∧ IsI w od [("name", .bytes s.name tn), ("start", .int s.st ts), ("end", .int s.en te)] := by
  induction h generalizing i with
  | nil => cases e
  | cons hi r ih =>
    cases i with
    | zero => cases e; exact ⟨_, _, _, _, _, _, _, rfl, rfl, .head _, .tail _ (.head _), hi⟩
    | succ i =>
      obtain ⟨y, dy, od, s, tn, ts, te, h1, h2, h3, h4, h5⟩ := ih e
      exact ⟨y, dy, od, s, tn, ts, te, h1, h2, .tail _ (.tail _ h3), .tail _ (.tail _ h4), h5⟩

noncomputable def localNameP : List Span → Int → Int → AT
  | [], _, _ => .none
  | s :: r, num, pc => if s.st > pc then .none else if pc < s.en then (if num - 1 = 0 then .bytes s.name else localNameP r (num - 1) pc) else localNameP r num pc

set_option maxHeartbeats 2000000 in
theorem c_local_name {x kl : Addr} {n : NP} {t : Told} {kvs : List Value} {m : Nat} {num pc : Int} {tn tp : Tok} (N : NodeG G w x n kl t kvs m) (S : t.Small) :
    CJ w G bx 1 (.ref 84) [.ref x, .int num tn, .int pc tp] [] fun v H' => AtomV v (localNameP t.locals num pc) ∧ H' = [] := by
  refine CJ_def (binds := [(Str.ofString "self", .ref x), (Str.ofString "number", .int num tn), (Str.ofString "pc", .int pc tp)]) (by k_is) (by k_is) (by rfl) (by exact locs rfl) (by rfl) ?_ (by decide)
  intro c hG hb ok
  subst hG hb
  obtain ⟨nx, ndx, nfs, nc, nk, nl, nv, nu, np, nH, nok⟩ := N
  have hl := nok.locals.length
  have hz := S.locals
  refine J_execs_cons (J_ForW ?_)
  walk_at "w"
  refine ⟨_, _, _, fun i l H => ∃ num' tn', l = [(Str.ofString "self", .ref x), (Str.ofString "number", .int num' tn'), (Str.ofString "pc", .int pc tp)] ∧ H = [] ∧ localNameP (t.locals.drop i) num' pc = localNameP t.locals num pc, Source.list ok.hd nv, ⟨_, _, by walk_at "JHas", .refl, _, _, rfl, rfl, rfl⟩, ?_, ?_⟩
  · rintro i v K l₃ H₃ hi ⟨hv, rfl⟩ ⟨num', tn', rfl, rfl, e⟩ G' hG' -
    obtain ⟨y, dy, od, s, tn₂, ts, te, hs, rfl, h1, h2, hi'⟩ := LvsR.get nok.locals hv
    have h1 := hG' _ _ (nH _ h1)
    have h2 := hG' _ _ (nH _ h2)
    have ok' := ok.up hG'
    have ed : t.locals.drop i = s :: t.locals.drop (i + 1) := by
      have hi2 : i < t.locals.length := by omega
      rw [List.drop_eq_getElem_cons hi2]
      rw [List.getElem?_eq_getElem hi2] at hs
      cases hs; rfl
    rw [ed, localNameP] at e
    walk_at "w"
    refine J_ite (fun h3 => ?_) (fun h3 => ?_)
    · have h3 := of_decide_eq_true h3
      rw [if_pos h3] at e
      walk_at "w"
      exact ⟨e ▸ .none, rfl⟩
    · have h3 := of_decide_eq_false h3
      rw [if_neg h3] at e
      walk_at "w"
      refine J_ite (fun h4 => ?_) (fun h4 => ?_)
      · have h4 := of_decide_eq_true h4
        rw [if_pos h4] at e
        walk_at "w"
        refine J_ite (fun h5 => ?_) (fun h5 => ?_)
        · have h5 := eq_of_beq h5
          rw [if_pos h5] at e
          walk_at "w"
          exact ⟨e ▸ .bytes _ _, rfl⟩
        · have h5 : num' - 1 ≠ 0 := fun q => by rw [q] at h5; cases h5
          rw [if_neg h5] at e
          walk_at "w"
          exact ⟨_, _, by walk_at "JHas", .refl, _, _, rfl, rfl, e⟩
      · have h4 := of_decide_eq_false h4
        rw [if_neg h4] at e
        walk_at "w"
        exact ⟨_, _, by walk_at "JHas", .refl, _, _, rfl, rfl, e⟩
  · intro l₃ H₃ W
    refine W.at fun l' H' iv => ?_
    obtain ⟨num', tn', rfl, rfl, e⟩ := iv
    rw [List.drop_eq_nil_of_le (by omega), localNameP] at e
    walk_at "w"
    exact ⟨e ▸ .none, rfl⟩
end
end

-- F3
section
open PySem PySem.W PyProof.Rows PySem.Calls PySem.Spec
section
variable {w : World} {G : Addr → Option Obj} {bx : Option (Addr × Addr)}
theorem Source.en {c : Cx} {l : Loc} {H : Led} {k : Nat} {a e it : Addr} {oe oi : Obj} {vs : List Value} {m : Nat} {elts : List Expr} {kk : Nat} {tp : Pos} (ok : Ok w c k) (ea : c.G a = some (lst vs m)) (he : IsEn it oe) (hi : IsIt a oi) :
    Source w c (.Tuple elts kk tp) (.ref e) l ((e, oe) :: (it, oi) :: H) H vs.length (fun i v K => ∃ T t x o, vs[i]? = some x ∧ v = .ref T ∧ K = [(T, o)] ∧ o.cls = .type "tuple" ∧ ∃ n, o.data = .seq #[.int i t, x] n) := Source.enum ok.hd ea he hi
set_option maxHeartbeats 2000000 in
theorem c_same_constants {a b : Addr} {vs us : List Value} {n m : Nat} {ds es : List AT} (ha : G a = some (lst vs n)) (hb : G b = some (lst us m)) (X : Atoms vs ds) (Y : Atoms us es) (hz : ds.length ≤ 100) (hz2 : es.length ≤ 100) :
    CJ w G bx 2 (.ref 129) [.ref a, .ref b] [] fun v H' => v = .bool (decide (ds = es)) ∧ H' = [] := by
  refine CJ_def (binds := [(Str.ofString "one", .ref a), (Str.ofString "other", .ref b)]) (by k_is) (by k_is) (by rfl) (by exact locs rfl) (by rfl) ?_ (by decide)
  intro c hG hbx ok
  subst hG hbx
  refine J_lose ?_
  have xl := X.length
  have yl := Y.length
  walk_at "w"
  refine J_ite (fun h1 => ?_) (fun h1 => ?_)
  · walk_at "w"
    refine ⟨[], by walk_at "JSub", ?_, rfl⟩
    rw [show decide (ds = es) = false by rw [decide_eq_false_iff_not]; rintro rfl; simp [xl, yl] at h1]; rfl
  · have h1 : ds.length = es.length := by simp only [bne_eq_false_iff_eq, xl, yl] at h1; omega
    walk_at "w"
    refine J_ForW ?_
    walk_at "w"
    refine J_enumerate (by walk_at "JRoom") fun e it oe oi he hi => ?_
    walk_at "w"
    refine ⟨_, _, _, fun i l H => l = [(Str.ofString "one", .ref a), (Str.ofString "other", .ref b)] ∧ H = [] ∧ ds.take i = es.take i, Source.en ok ha he hi, ⟨_, _, by walk_at "JHas", by walk_at "JSub", rfl, rfl, by simp⟩, ?_, ?_⟩
    · rintro i v K l₃ H₃ hi ⟨T, t, x, o, hx, rfl, rfl, hc, nn, hd⟩ ⟨rfl, rfl, e⟩ G' hG' hK
      have ok' := ok.up hG'
      have ha' := hG' _ _ ha
      have hb' := hG' _ _ hb
      have hT := hK _ (.head _)
      refine J_names2 ok'.hd (.inr hT) hc hd ?_
      obtain ⟨d, hd1, Ax⟩ := X.get hx
      have hi3 : i < es.length := by omega
      obtain ⟨y, hy, Ay⟩ := Y.getD (List.getElem?_eq_getElem hi3)
      have e3 : ds.take (i + 1) = es.take (i + 1) ↔ d = es[i] := by
        rw [List.take_add_one, List.take_add_one (l := es), e, hd1, List.getElem?_eq_getElem hi3]
        exact ⟨fun q => by have := List.append_cancel_left q; simpa using this, fun q => by rw [q]⟩
      walk_at "w"
      refine J_callR ok' (fun G₂ _ _ => (c_constant_kind Ax).room (by decide)) fun r1 q1 => ?_
      walk_at "w"
      refine J_itemL (by walk_at "JRoom") (by omega) (by omega) (by simpa using hy) ?_
      walk_at "w"
      refine J_callR ok' (fun G₂ _ _ => (c_constant_kind Ay).room (by decide)) fun r2 q2 => ?_
      refine J_neAtom q1 q2 rfl ?_
      walk_at "w"
      refine J_ite (fun h2 => ?_) (fun h2 => ?_)
      · walk_at "w"
        refine ⟨[], by walk_at "JSub", ?_, rfl⟩
        rw [show decide (ds = es) = false by
          rw [decide_eq_false_iff_not]; rintro rfl
          rw [List.getElem?_eq_getElem hi3] at hd1
          cases hd1
          simp at h2]; rfl
      · have h2 : d.kind = es[i].kind := by simp at h2; omega
        walk_at "w"
        refine J_itemL (by walk_at "JRoom") (by omega) (by omega) (by simpa using hy) ?_
        refine J_neAtom Ax Ay h2 ?_
        walk_at "w"
        refine J_ite (fun h3 => ?_) (fun h3 => ?_)
        · walk_at "w"
          refine ⟨[], by walk_at "JSub", ?_, rfl⟩
          rw [show decide (ds = es) = false by
            rw [decide_eq_false_iff_not]; rintro rfl
            rw [List.getElem?_eq_getElem hi3] at hd1
            cases hd1
            simp at h3]; rfl
        · have h3 : d = es[i] := by simpa using h3
          walk_at "w"
          exact ⟨_, _, by walk_at "JHas", by walk_at "JSub", rfl, rfl, e3.mpr h3⟩
    · intro l₃ H₃ W
      refine W.at fun l' H' iv => ?_
      obtain ⟨rfl, rfl, e⟩ := iv
      walk_at "w"
      refine ⟨[], by walk_at "JSub", ?_, rfl⟩
      rw [List.take_of_length_le (by omega), List.take_of_length_le (by omega)] at e
      rw [decide_eq_true e]; rfl
end
end

-- F4
section
open PySem PySem.W PyProof.Rows PySem.Calls PySem.Spec
section
variable {w : World} {G : Addr → Option Obj} {bx : Option (Addr × Addr)}
set_option maxHeartbeats 2000000 in
theorem c_same_locals {a b : Addr} {vs us : List Value} {n m : Nat} {sp sq : List Span} {Hv Hu : Led} (ha : G a = some (lst vs n)) (hb : G b = some (lst us m)) (X : LvsR w vs sp Hv) (Y : LvsR w us sq Hu) (kv : Kn G Hv) (ku : Kn G Hu) (hz : sp.length ≤ 100) (hz2 : sq.length ≤ 100) :
    CJ w G bx 1 (.ref 136) [.ref a, .ref b] [] fun v H' => v = .bool (decide (sp = sq)) ∧ H' = [] := by
  refine CJ_def (binds := [(Str.ofString "one", .ref a), (Str.ofString "other", .ref b)]) (by k_is) (by k_is) (by rfl) (by exact locs rfl) (by rfl) ?_ (by decide)
  intro c hG hbx ok
  subst hG hbx
  refine J_lose ?_
  have xl := X.length
  have yl := Y.length
  walk_at "w"
  refine J_ite (fun h1 => ?_) (fun h1 => ?_)
  · walk_at "w"
    refine ⟨[], by walk_at "JSub", ?_, rfl⟩
    rw [show decide (sp = sq) = false by rw [decide_eq_false_iff_not]; rintro rfl; simp [xl, yl] at h1]; rfl
  · have h1 : sp.length = sq.length := by simp only [bne_eq_false_iff_eq, xl, yl] at h1; omega
    walk_at "w"
    refine J_ForW ?_
    walk_at "w"
    refine J_enumerate (by walk_at "JRoom") fun e it oe oi he hi => ?_
    refine ⟨_, _, _, fun i l H => l = [(Str.ofString "one", .ref a), (Str.ofString "other", .ref b)] ∧ H = [] ∧ sp.take i = sq.take i, Source.en ok ha he hi, ⟨_, _, by walk_at "JHas", by walk_at "JSub", rfl, rfl, by simp⟩, ?_, ?_⟩
    · rintro i v K l₃ H₃ hi ⟨T, t, x, o, hx, rfl, rfl, hc, nn, hd⟩ ⟨rfl, rfl, e⟩ G' hG' hK
      have ok' := ok.up hG'
      have ha' := hG' _ _ ha
      have hb' := hG' _ _ hb
      have hT := hK _ (.head _)
      refine J_names2 ok'.hd (.inr hT) hc hd ?_
      obtain ⟨y, dy, od, s, tn₂, ts, te, hs, rfl, g1, g2, gi⟩ := LvsR.get X hx
      have g1 := hG' _ _ (kv _ g1)
      have g2 := hG' _ _ (kv _ g2)
      have hi3 : i < us.length := by omega
      have hi4 : i < sq.length := by omega
      obtain ⟨y', dy', od', s', tn₂', ts', te', hs', hy', g1', g2', gi'⟩ := LvsR.get Y (List.getElem?_eq_getElem hi3)
      have g1' := hG' _ _ (ku _ g1')
      have g2' := hG' _ _ (ku _ g2')
      have e3 : sp.take (i + 1) = sq.take (i + 1) ↔ s = s' := by
        rw [List.take_add_one, List.take_add_one (l := sq), e, hs, hs']
        exact ⟨fun q => by have := List.append_cancel_left q; simpa using this, fun q => by rw [q]⟩
      walk_at "w"
      refine J_itemL (by walk_at "JRoom") (by omega) (by omega) (by simpa using (List.getElem?_eq_getElem hi3).trans (congrArg some hy')) ?_
      walk_at "w"
      refine J_itemL (by walk_at "JRoom") (by omega) (by omega) (by simpa using (List.getElem?_eq_getElem hi3).trans (congrArg some hy')) ?_
      walk_at "w"
      refine J_itemL (by walk_at "JRoom") (by omega) (by omega) (by simpa using (List.getElem?_eq_getElem hi3).trans (congrArg some hy')) ?_
      walk_at "w"
      refine J_neTups ok' (by walk_at "JRoom") (by walk_at "JRoom") (.cons (.bytes _ _) (.cons (.int _ _) (.cons (.int _ _) .nil))) (.cons (.bytes _ _) (.cons (.int _ _) (.cons (.int _ _) .nil))) (by rfl) (by exact sameKinds_of (by rfl)) ?_
      walk_at "w"
      have e4 : [AT.bytes s.name, AT.int s.st, AT.int s.en] = [AT.bytes s'.name, AT.int s'.st, AT.int s'.en] ↔ s = s' := by
        cases s; cases s'; simp
      refine J_ite (fun h3 => ?_) (fun h3 => ?_)
      · walk_at "w"
        refine ⟨[], by walk_at "JSub", ?_, rfl⟩
        rw [show decide (sp = sq) = false by
          rw [decide_eq_false_iff_not]; rintro rfl
          rw [hs] at hs'
          cases hs'
          simp at h3]; rfl
      · walk_at "w"
        exact ⟨_, _, by walk_at "JHas", by walk_at "JSub", rfl, rfl, e3.mpr (e4.mp (by simpa using h3))⟩
    · intro l₃ H₃ W
      refine W.at fun l' H' iv => ?_
      obtain ⟨rfl, rfl, e⟩ := iv
      walk_at "w"
      refine ⟨[], by walk_at "JSub", ?_, rfl⟩
      rw [List.take_of_length_le (by omega), List.take_of_length_le (by omega)] at e
      rw [decide_eq_true e]; rfl

structure Head where
  code : List Int
  consts : List AT
  uc : Int
  pc : Int
  va : Int
  ms : Int
  n : Nat
  ld : Int
  ll : Int
  deriving DecidableEq
structure Debug where
  source : Array UInt8
  lines : List Int
  ups : List (Array UInt8)
  locals : List Span
  deriving DecidableEq
noncomputable def headOf (t : Told) (n : Nat) : Head := ⟨t.code, t.consts, t.uc, t.pc, t.va, t.ms, n, t.ld, t.ll⟩
noncomputable def debugOf (t : Told) : Debug := ⟨t.source, t.lines, t.ups, t.locals⟩
theorem NodeG.up {x : Addr} {n : NP} {kl : Addr} {t : Told} {kvs : List Value} {m : Nat} {G G' : Addr → Option Obj} (N : NodeG G w x n kl t kvs m) (h : ∀ a o, G a = some o → G' a = some o) : NodeG G' w x n kl t kvs m :=
  ⟨h _ _ N.x, h _ _ N.dx, N.fs, h _ _ N.c, h _ _ N.k, h _ _ N.l, h _ _ N.v, h _ _ N.u, h _ _ N.p, N.Hv.mono h, N.ok⟩

set_option maxHeartbeats 2000000 in
theorem c_same_head {x y kl kl' : Addr} {n n' : NP} {t t' : Told} {kvs kvs' : List Value} {m m' : Nat} (N : NodeG G w x n kl t kvs m) (N' : NodeG G w y n' kl' t' kvs' m') (S : t.Small) (S' : t'.Small) (hk : kvs.length ≤ 20) (hk' : kvs'.length ≤ 20) :
    CJ w G bx 3 (.ref 143) [.ref x, .ref y] [] fun v H' => v = .bool (decide (headOf t kvs.length = headOf t' kvs'.length)) ∧ H' = [] := by
  refine CJ_def (binds := [(Str.ofString "one", .ref x), (Str.ofString "other", .ref y)]) (by k_is) (by k_is) (by rfl) (by exact locs rfl) (by rfl) ?_ (by decide)
  intro c hG hbx ok
  subst hG hbx
  refine J_lose ?_
  obtain ⟨nx, ndx, nfs, nc, nk, nl, nv, nu, np, nH, nok⟩ := N
  obtain ⟨nx', ndx', nfs', nc', nk', nl', nv', nu', np', nH', nok'⟩ := N'
  obtain ⟨z1, z2, z3, z4, z5⟩ := S
  obtain ⟨z1', z2', z3', z4', z5'⟩ := S'
  walk_at "w"
  refine J_neLists ok (by walk_at "JRoom") (by walk_at "JRoom") (Atoms.ints.mpr nok.code) (Atoms.ints.mpr nok'.code) sameKinds_ints ?_
  walk_at "w"
  have fin : (headOf t kvs.length = headOf t' kvs'.length → False) → retOf (Flow.ret (.bool false)) = Value.bool (decide (headOf t kvs.length = headOf t' kvs'.length)) := fun h => by
    rw [decide_eq_false (fun q => h q)]; rfl
  refine J_ite (fun h1 => ?_) (fun h1 => ?_)
  · walk_at "w"
    refine ⟨[], by walk_at "JSub", fin fun q => ?_, rfl⟩
    simp only [headOf, Head.mk.injEq] at q
    simp [q] at h1
  · have h1 : t.code = t'.code := by simpa [ints_inj] using h1
    walk_at "w"
    refine J_callR ok (fun G₂ g2 _ => (c_same_constants (g2 _ _ nk) (g2 _ _ nk') nok.consts nok'.consts (by omega) (by omega))) fun r1 q1 => ?_
    subst q1
    walk_at "w"
    refine J_ite (fun h2 => ?_) (fun h2 => ?_)
    · walk_at "w"
      refine ⟨[], by walk_at "JSub", fin fun q => ?_, rfl⟩
      simp only [headOf, Head.mk.injEq] at q
      simp [q] at h2
    · have h2 : t.consts = t'.consts := by simpa using h2
      walk_at "w"
      refine J_neTups ok (by walk_at "JRoom") (by walk_at "JRoom") (.cons (.int _ _) (.cons (.int _ _) .nil)) (.cons (.int _ _) (.cons (.int _ _) .nil)) (by rfl) (by exact sameKinds_of (by rfl)) ?_
      walk_at "w"
      refine J_ite (fun h3 => ?_) (fun h3 => ?_)
      · walk_at "w"
        refine ⟨[], by walk_at "JSub", fin fun q => ?_, rfl⟩
        simp only [headOf, Head.mk.injEq] at q
        simp [q] at h3
      · have h3 : t.uc = t'.uc ∧ t.pc = t'.pc := by simpa using h3
        walk_at "w"
        refine J_neTups ok (by walk_at "JRoom") (by walk_at "JRoom") (.cons (.int _ _) (.cons (.int _ _) (.cons (.int _ _) .nil))) (.cons (.int _ _) (.cons (.int _ _) (.cons (.int _ _) .nil))) (by rfl) (by exact sameKinds_of (by rfl)) ?_
        walk_at "w"
        refine J_ite (fun h4 => ?_) (fun h4 => ?_)
        · walk_at "w"
          refine ⟨[], by walk_at "JSub", fin fun q => ?_, rfl⟩
          simp only [headOf, Head.mk.injEq] at q
          simp [q] at h4
        · have h4 : t.va = t'.va ∧ t.ms = t'.ms ∧ kvs.length = kvs'.length := by
            have : t.va = t'.va ∧ t.ms = t'.ms ∧ (kvs.length : Int) = kvs'.length := by simpa using h4
            exact ⟨this.1, this.2.1, by have := this.2.2; omega⟩
          walk_at "w"
          refine J_eqTups ok (by walk_at "JRoom") (by walk_at "JRoom") (.cons (.int _ _) (.cons (.int _ _) .nil)) (.cons (.int _ _) (.cons (.int _ _) .nil)) (by rfl) (by exact sameKinds_of (by rfl)) ?_
          walk_at "w"
          refine ⟨[], by walk_at "JSub", ?_, rfl⟩
          show Value.bool _ = Value.bool _
          congr 1
          simp [headOf, h1, h2, h3, h4]

set_option maxHeartbeats 2000000 in
theorem c_same_debug {x y kl kl' : Addr} {n n' : NP} {t t' : Told} {kvs kvs' : List Value} {m m' : Nat} (N : NodeG G w x n kl t kvs m) (N' : NodeG G w y n' kl' t' kvs' m') (S : t.Small) (S' : t'.Small) :
    CJ w G bx 3 (.ref 150) [.ref x, .ref y] [] fun v H' => v = .bool (decide (debugOf t = debugOf t')) ∧ H' = [] := by
  refine CJ_def (binds := [(Str.ofString "one", .ref x), (Str.ofString "other", .ref y)]) (by k_is) (by k_is) (by rfl) (by exact locs rfl) (by rfl) ?_ (by decide)
  intro c hG hbx ok
  subst hG hbx
  refine J_lose ?_
  obtain ⟨nx, ndx, nfs, nc, nk, nl, nv, nu, np, nH, nok⟩ := N
  obtain ⟨nx', ndx', nfs', nc', nk', nl', nv', nu', np', nH', nok'⟩ := N'
  obtain ⟨z1, z2, z3, z4, z5⟩ := S
  obtain ⟨z1', z2', z3', z4', z5'⟩ := S'
  have fin : (debugOf t = debugOf t' → False) → Value.bool false = Value.bool (decide (debugOf t = debugOf t')) := fun h => by
    rw [decide_eq_false (fun q => h q)]
  walk_at "w"
  refine J_neAtom (.bytes _ _) (.bytes _ _) (by rfl) ?_
  walk_at "w"
  refine J_ite (fun h1 => ?_) (fun h1 => ?_)
  · walk_at "w"
    refine ⟨[], by walk_at "JSub", fin fun q => ?_, rfl⟩
    simp only [debugOf, Debug.mk.injEq] at q
    simp [q] at h1
  · have h1 : t.source = t'.source := by simpa using h1
    walk_at "w"
    refine J_neLists ok (by walk_at "JRoom") (by walk_at "JRoom") (Atoms.ints.mpr nok.lines) (Atoms.ints.mpr nok'.lines) sameKinds_ints ?_
    walk_at "w"
    refine J_ite (fun h2 => ?_) (fun h2 => ?_)
    · walk_at "w"
      refine ⟨[], by walk_at "JSub", fin fun q => ?_, rfl⟩
      simp only [debugOf, Debug.mk.injEq] at q
      simp [q] at h2
    · have h2 : t.lines = t'.lines := by simpa [ints_inj] using h2
      walk_at "w"
      refine J_eqLists ok (by walk_at "JRoom") (by walk_at "JRoom") nok.ups nok'.ups sameKinds_bytes ?_
      walk_at "w"
      refine J_ite (fun h3 => ?_) (fun h3 => ?_)
      · have h3 : t.ups = t'.ups := by simpa [byts_inj] using h3
        walk_at "w"
        refine J_callR ok (fun G₂ g2 _ => (c_same_locals (g2 _ _ nv) (g2 _ _ nv') nok.locals nok'.locals (nH.mono g2) (nH'.mono g2) (by omega) (by omega)).room (by decide)) fun r1 q1 => ?_
        subst q1
        walk_at "w"
        refine ⟨[], by walk_at "JSub", ?_, rfl⟩
        show Value.bool _ = Value.bool _
        congr 1
        simp [debugOf, h1, h2, h3]
      · walk_at "w"
        refine ⟨[], by walk_at "JSub", ?_, rfl⟩
        rw [h3]
        refine fin fun q => ?_
        simp only [debugOf, Debug.mk.injEq] at q
        simp [q] at h3
end
end

-- F5
section
open PySem PySem.W PyProof.Rows PySem.Calls PySem.Spec
section
variable {w : World} {G : Addr → Option Obj} {bx : Option (Addr × Addr)}
set_option maxHeartbeats 2000000 in
theorem c_walk_protos {v : Value} {T : Tree} {L : List Value} (P : PG G w v T L) (hz : L.length ≤ 100) :
    CJ w G bx 1 (.ref 108) [v] [] fun r H' => ∃ a m, r = .ref a ∧ H' = [(a, lst L m)] := by
  refine CJ_def (binds := [(Str.ofString "p", v)]) (by k_is) (by k_is) (by rfl) (by exact locs rfl) (by rfl) ?_ (by decide)
  intro c hG hbx ok
  subst hG hbx
  refine J_lose ?_
  walk_at "w"
  rename_i wa hwa fa hfa
  refine J_WhileW (fun n l H => ∃ pend ts Lp fs m1 m2, PGs c.G w pend ts Lp ∧ n = Lp.length ∧ fs ++ Lp = L ∧ l = [(Str.ofString "p", v), (Str.ofString "waiting", .ref wa), (Str.ofString "found", .ref fa)] ∧ H = [(wa, lst pend.reverse m1), (fa, lst fs m2)]) L.length
    ⟨_, _, by walk_at "JHas", by simp only [List.reverse_cons, List.reverse_nil, List.nil_append]; walk_at "JSub", [v], [T], L ++ [], [], 0, 0, .cons P .nil, by simp, by simp, rfl, rfl⟩ ?_
  rintro n l H ⟨pend, ts, Lp, fs, m1, m2, PP, rfl, rfl, rfl, rfl⟩
  have hle := PP.le
  rw [List.length_append] at hz
  cases PP with
  | nil =>
    walk_at "w"
    refine J_ite (fun h1 => ?_) (fun h1 => ?_)
    · simp at h1
    · walk_at "w"
      exact ⟨[(fa, lst fs m2)], by walk_at "JSub", fa, m2, rfl, by rw [List.append_nil]⟩
  | @cons u U Lu Ls vs us p r =>
    simp only [List.length_cons, List.length_append] at hz hle
    walk_at "w"
    refine J_ite (fun h1 => ?_) (fun h1 => ?_)
    · clear h1
      have hle2 := r.le
      cases p with
      | @mk x kl n t kvs kids m Lk N S k =>
      have hle3 := k.le
      simp only [List.length_cons] at hz hle
      rw [List.reverse_cons]
      walk_at "w"
      refine J_pop (by walk_at "JAtF") (by simp; omega) ?_
      walk_at "w"
      refine J_ForW ?_
      have nx := N.x
      have ndx := N.dx
      have nfs := N.fs
      have np := N.p
      walk_at "w"
      refine J_reversed (by walk_at "JRoom") fun e he => ?_
      refine ⟨_, _, _, fun i l H => ∃ m1 m2, l = [(Str.ofString "p", v), (Str.ofString "waiting", .ref wa), (Str.ofString "found", .ref fa)] ∧ H = [(wa, lst (vs.reverse ++ kvs.reverse.take i) m1), (fa, lst (fs ++ [.ref x]) m2)],
        Source.rev ok.hd np (by intro _ _; rfl), ⟨_, _, by walk_at "JHas", by walk_at "JSub", m1 + 1, m2 + 1, rfl, by simp⟩, ?_, ?_⟩
      · rintro i w' K l₃ H₃ hi ⟨hw', rfl⟩ ⟨q1, q2, rfl, rfl⟩ G' hG' -
        have ok' := ok.up hG'
        walk_at "w"
        have e3 : vs.reverse ++ kvs.reverse.take i ++ [w'] = vs.reverse ++ kvs.reverse.take (i + 1) := by
          rw [List.append_assoc, List.take_add_one, List.getElem?_reverse (by omega), hw']; rfl
        exact ⟨_, _, by walk_at "JHas", by walk_at "JSub", q1 + 1, q2, rfl, by rw [← e3]⟩
      · intro l₃ H₃ W
        refine Fl_next ?_
        refine W.at fun l' H' iv => ?_
        obtain ⟨q1, q2, rfl, rfl⟩ := iv
        walk_at "w"
        refine ⟨(Lk ++ Ls).length, by simp, _, _, by walk_at "JHas", by walk_at "JSub", kvs ++ vs, kids ++ us, Lk ++ Ls, fs ++ [.ref x], q1, q2, k.append r, rfl, by simp, rfl, ?_⟩
        rw [List.take_of_length_le (by simp), List.reverse_append]
    · simp at h1
end
end

-- F6
section
open PySem PySem.W PyProof.Rows PySem.Calls PySem.Spec
section
variable {w : World} {G : Addr → Option Obj} {bx : Option (Addr × Addr)}
noncomputable def headT : Tree → Head
  | .node t kids => headOf t kids.length
noncomputable def debugT : Tree → Debug
  | .node t _ => debugOf t
noncomputable def hdT (T : Tree) : Head × Debug := (headT T, debugT T)
theorem take_map_succ {α β : Type} [DecidableEq β] {f : α → β} {l m : List α} {i : Nat} {a b : α} (h : (l.take i).map f = (m.take i).map f) (ha : l[i]? = some a) (hb : m[i]? = some b) : (l.take (i + 1)).map f = (m.take (i + 1)).map f ↔ f a = f b := by
  rw [List.take_add_one, List.take_add_one (l := m), ha, hb, List.map_append, List.map_append, h]
  exact ⟨fun q => by have := List.append_cancel_left q; simpa using this, fun q => by simp [q]⟩
theorem map_get_ne {α β : Type} {f : α → β} {l m : List α} {i : Nat} {a b : α} (ha : l[i]? = some a) (hb : m[i]? = some b) (hne : f a ≠ f b) : l.map f ≠ m.map f := fun q => by
  have := congrArg (·[i]?) q
  simp [ha, hb] at this
  exact hne this
set_option maxHeartbeats 4000000 in
theorem c_equal_protos {v v' : Value} {T T' : Tree} {L L' : List Value} (P : PG G w v T L) (P' : PG G w v' T' L') (hz : L.length ≤ 20) (hz' : L'.length ≤ 20) :
    CJ w G bx 4 (.ref 157) [v, v'] [] fun r H' => r = .bool (decide ((pre T).map hdT = (pre T').map hdT)) ∧ H' = [] := by
  refine CJ_def (binds := [(Str.ofString "one", v), (Str.ofString "other", v')]) (by k_is) (by k_is) (by rfl) (by exact locs rfl) (by rfl) ?_ (by decide)
  intro c hG hbx ok
  subst hG hbx
  refine J_lose ?_
  have pr := P.pre
  have pr' := P'.pre
  walk_at "w"
  refine J_callS ok (A := []) .nil (fun G₂ g2 _ => (c_walk_protos (P.up g2) (by omega)).room (by decide)) ?_
  rintro _ _ ⟨a, m, rfl, rfl⟩ -
  walk_at "JL"
  walk_at "w"
  refine J_callS ok (A := []) .nil (fun G₂ g2 _ => (c_walk_protos (P'.up g2) (by omega)).room (by decide)) ?_
  rintro _ _ ⟨b, m', rfl, rfl⟩ -
  walk_at "JL"
  walk_at "w"
  refine J_ite (fun h1 => ?_) (fun h1 => ?_)
  · walk_at "w"
    refine ⟨[], by walk_at "JSub", ?_, rfl⟩
    rw [show decide ((pre T).map hdT = (pre T').map hdT) = false by
      rw [decide_eq_false_iff_not]; intro q
      have := congrArg List.length q
      simp only [List.length_map] at this
      simp [pr.1, pr'.1, this] at h1]; rfl
  · have h1 : L.length = L'.length := by simp only [bne_eq_false_iff_eq] at h1; omega
    walk_at "w"
    refine J_fix ok (A := [(a, lst L m), (b, lst L' m')]) (by walk_at "JSplit") fun G₁ g1 kn ok₁ => ?_
    have ha := kn.head
    have hb := kn.tail.head
    refine J_ForW ?_
    walk_at "w"
    refine J_enumerate (by walk_at "JRoom") fun e it oe oi he hi => ?_
    refine ⟨_, _, _, fun i l H => l = [(Str.ofString "ones", .ref a), (Str.ofString "others", .ref b)] ∧ H = [] ∧ ((pre T).take i).map hdT = ((pre T').take i).map hdT, Source.en ok₁ ha he hi, ⟨_, _, by walk_at "JHas", by walk_at "JSub", rfl, rfl, by simp⟩, ?_, ?_⟩
    · rintro i x K l₃ H₃ hi ⟨T₀, t, u, o, hx, rfl, rfl, hc, nn, hd⟩ ⟨rfl, rfl, e⟩ G' hG' hK
      have ok' := ok₁.up hG'
      have ha' := hG' _ _ ha
      have hb' := hG' _ _ hb
      have hT := hK _ (.head _)
      have up2 : ∀ a o, c.G a = some o → G' a = some o := fun a o e => hG' _ _ (g1 _ _ e)
      have hi' : i < L'.length := by omega
      obtain ⟨U, Lu, hU, PU, hlu⟩ := pr.2 i u hx
      obtain ⟨U', Lu', hU', PU', hlu'⟩ := pr'.2 i _ (List.getElem?_eq_getElem hi')
      have e3 := take_map_succ e hU hU'
      generalize hu' : L'[i] = u' at PU'
      have hy : L'[i]? = some u' := by rw [List.getElem?_eq_getElem hi', hu']
      have no : hdT U ≠ hdT U' → decide ((pre T).map hdT = (pre T').map hdT) = false := fun q => by
        rw [decide_eq_false_iff_not]; exact map_get_ne hU hU' q
      cases PU with
      | @mk x kl n tt kvs kids mm Lk N S k =>
      cases PU' with
      | @mk x' kl' n' tt' kvs' kids' mm' Lk' N' S' k' =>
      have q1 := k.length
      have q2 := k'.length
      have q3 : kvs.length ≤ 20 := by have := k.le; simp only [List.length_cons] at hlu; omega
      have q4 : kvs'.length ≤ 20 := by have := k'.le; simp only [List.length_cons] at hlu'; omega
      refine J_names2 ok'.hd (.inr hT) hc hd ?_
      walk_at "w"
      refine J_itemL (by walk_at "JRoom") (by omega) (by omega) (by simpa using hy) ?_
      walk_at "w"
      refine J_callR ok' (fun G₂ g2 _ => (c_same_head (N.up fun a o e => g2 _ _ (up2 _ _ e)) (N'.up fun a o e => g2 _ _ (up2 _ _ e)) S S' q3 q4).room (by decide)) fun r1 q1' => ?_
      subst q1'
      walk_at "w"
      refine J_ite (fun h2 => ?_) (fun h2 => ?_)
      · walk_at "w"
        intro _
        walk_at "w"
        refine ⟨[], by walk_at "JSub", ?_, rfl⟩
        rw [no fun q => ?_]; rfl
        have := congrArg Prod.fst q
        simp only [hdT, headT, ← q1, ← q2] at this
        simp [this] at h2
      · have h2 : headOf tt kvs.length = headOf tt' kvs'.length := by simpa using h2
        walk_at "w"
        refine J_itemL (by walk_at "JRoom") (by omega) (by omega) (by simpa using hy) ?_
        walk_at "w"
        refine J_callR ok' (fun G₂ g2 _ => (c_same_debug (N.up fun a o e => g2 _ _ (up2 _ _ e)) (N'.up fun a o e => g2 _ _ (up2 _ _ e)) S S').room (by decide)) fun r1 q1' => ?_
        subst q1'
        walk_at "w"
        refine J_ite (fun h3 => ?_) (fun h3 => ?_)
        · walk_at "w"
          intro _
          walk_at "w"
          refine ⟨[], by walk_at "JSub", ?_, rfl⟩
          rw [no fun q => ?_]; rfl
          have := congrArg Prod.snd q
          simp only [hdT, debugT] at this
          simp [this] at h3
        · have h3 : debugOf tt = debugOf tt' := by simpa using h3
          walk_at "w"
          refine ⟨_, _, by walk_at "JHas", by walk_at "JSub", rfl, rfl, e3.mpr ?_⟩
          simp only [hdT, headT, debugT, ← q1, ← q2, h2, h3]
    · intro l₃ H₃ W ap
      refine Fl_next ?_
      obtain ⟨l', H', hl, -, rfl, rfl, e⟩ := W
      refine J_weak (l' := _) hl (H' := []) SubLed.none ?_
      walk_at "w"
      refine ⟨[], by walk_at "JSub", ?_, rfl⟩
      rw [List.take_of_length_le (by omega), List.take_of_length_le (by omega)] at e
      rw [decide_eq_true e]; rfl
end
end

-- F7
section
open PySem PySem.W PyProof.Rows PySem.Calls PySem.Spec
section
variable {w : World} {G : Addr → Option Obj} {bx : Option (Addr × Addr)}
set_option maxHeartbeats 4000000 in
theorem c_equal_code {v v' : Value} {T T' : Tree} {L L' : List Value} (P : PG G w v T L) (P' : PG G w v' T' L') (hz : L.length ≤ 20) (hz' : L'.length ≤ 20) :
    CJ w G bx 4 (.ref 162) [v, v'] [] fun r H' => r = .bool (decide ((pre T).map headT = (pre T').map headT)) ∧ H' = [] := by
  refine CJ_defC (binds := [(Str.ofString "one", v), (Str.ofString "other", v')]) (lb := [(Str.ofString "one", v), (Str.ofString "other", v')]) (Str.ofString "others") none (by k_is) (by k_is) (by rfl) (by intro _; rfl) (by walk_at "JdefC") (bindL_lo (by with_unfolding_all rfl) (by rfl)) (by with_unfolding_all rfl) ?_
  intro c hG hbx ok ca oc hca hoc hne
  subst hG hbx hca
  refine J_lose ?_
  have pr := P.pre
  have pr' := P'.pre
  walk_at "w"
  refine J_callS ok (A := []) .nil (fun G₂ g2 _ => (c_walk_protos (P.up g2) (by omega)).room (by decide)) ?_
  rintro _ _ ⟨a, m, rfl, rfl⟩ -
  walk_at "JL"
  walk_at "w"
  refine J_callS ok (A := []) .nil (fun G₂ g2 _ => (c_walk_protos (P'.up g2) (by omega)).room (by decide)) ?_
  rintro _ _ ⟨b, m', rfl, rfl⟩ -
  walk_at "JL"
  walk_at "w"
  refine J_ite (fun h1 => ?_) (fun h1 => ?_)
  · walk_at "w"
    refine ⟨[], by walk_at "JSub", ?_, rfl⟩
    rw [show decide ((pre T).map headT = (pre T').map headT) = false by
      rw [decide_eq_false_iff_not]; intro q
      have := congrArg List.length q
      simp only [List.length_map] at this
      simp [pr.1, pr'.1, this] at h1]; rfl
  · have h1 : L.length = L'.length := by simp only [bne_eq_false_iff_eq] at h1; omega
    walk_at "J"
    walk_at "J"
    walk_at "J"
    refine J_fix ok (A := [(a, lst L m), (b, lst L' m'), (c.L + 1, _)]) (by walk_at "JSplit") fun G₁ g1 kn ok₁ => ?_
    have ha := kn.head
    have hb := kn.tail.head
    have hc' := kn.tail.tail.head
    walk_at "w"
    refine J_ListComp [(Str.ofString "others", c.L + 1)] [Str.ofString "at", Str.ofString "here"] ok₁.hd ?_
    walk_at "w"
    refine J_enumerate (by walk_at "JRoom") fun e it oe oi he hi => ?_
    refine ⟨_, _, _, fun i vals => ∃ t x, L[i]? = some x ∧ vals = [.int i t, x], fun i ys H => H = [] ∧ ∃ bs : List Bool, ys = bs.map .bool ∧ bs.length = i ∧ bs.all id = decide (((pre T).take i).map headT = ((pre T').take i).map headT), by omega, Source.en ok₁ ha he hi, ⟨rfl, [], rfl, rfl, by simp⟩, ?_, ⟨?_, ?_⟩, ?_⟩
    · rintro i ys H ⟨rfl, bs, rfl, h, -⟩; simp [h]
    · rintro i x K hi ⟨T₀, t, u, o, hx, rfl, rfl, hc, nn, hd⟩
      refine ⟨_, ⟨t, u, hx, rfl⟩, rfl, fun G' C H hG' hK hh => ?_⟩
      have hT := hK _ (.head _)
      refine J_names2 hh (.inr hT) hc hd ?_
      walk_at "w"
      exact ⟨rfl, rfl⟩
    · rintro i vals ys H₃ G' C hi ⟨t, u, hx, rfl⟩ ⟨rfl, bs, rfl, hbl, hba⟩ hG' hok
      have ok' := hok _ ok₁
      have ha' := hG' _ _ ha
      have hb' := hG' _ _ hb
      have hc'' := hG' _ _ hc'
      have up2 : ∀ a o, c.G a = some o → G' a = some o := fun a o e => hG' _ _ (g1 _ _ e)
      have hi' : i < L'.length := by omega
      obtain ⟨U, Lu, hU, PU, hlu⟩ := pr.2 i u hx
      obtain ⟨U', Lu', hU', PU', hlu'⟩ := pr'.2 i _ (List.getElem?_eq_getElem hi')
      generalize hu' : L'[i] = u' at PU'
      have hy : L'[i]? = some u' := by rw [List.getElem?_eq_getElem hi', hu']
      cases PU with
      | @mk x kl n tt kvs kids mm Lk N S k =>
      cases PU' with
      | @mk x' kl' n' tt' kvs' kids' mm' Lk' N' S' k' =>
      have q1 := k.length
      have q2 := k'.length
      have q3 : kvs.length ≤ 20 := by have := k.le; simp only [List.length_cons] at hlu; omega
      have q4 : kvs'.length ≤ 20 := by have := k'.le; simp only [List.length_cons] at hlu'; omega
      refine J_tests_nil (if_tt ?_)
      walk_at "w"
      refine J_itemL (by walk_at "JRoom") (by omega) (by omega) (by simpa using hy) ?_
      walk_at "w"
      refine J_callR ok' (fun G₂ g2 _ => (c_same_head (N.up fun a o e => g2 _ _ (up2 _ _ e)) (N'.up fun a o e => g2 _ _ (up2 _ _ e)) S S' q3 q4).room (by decide)) fun r1 q1' => ?_
      subst q1'
      refine ⟨rfl, bs ++ [decide (headOf tt kvs.length = headOf tt' kvs'.length)], by simp, by simp [hbl], ?_⟩
      rw [List.all_append, hba]
      rw [Bool.eq_iff_iff]
      simp only [List.all_cons, List.all_nil, id, Bool.and_true, Bool.and_eq_true, decide_eq_true_eq]
      have e4 : headOf tt kvs.length = headOf tt' kvs'.length ↔ headT (.node tt kids) = headT (.node tt' kids') := by simp only [headT, q1, q2]
      rw [e4, List.take_add_one, List.take_add_one (l := pre T'), hU, hU', List.map_append, List.map_append]
      constructor
      · rintro ⟨h1, h2⟩
        rw [h1]; simp [h2]
      · intro h
        have := List.append_inj' h (by simp)
        exact ⟨this.1, by simpa using this.2⟩
    · rintro D ys mD H₃ ⟨rfl, bs, rfl, hbl, hba⟩
      walk_at "w"
      refine J_all ok₁.hd (by walk_at "JRoom") ?_
      intro _
      walk_at "w"
      refine ⟨[], SubLed.none, ?_, rfl⟩
      rw [hba, List.take_of_length_le (by omega), List.take_of_length_le (by omega)]; rfl
end
end

-- F8
section
open PySem PySem.W PyProof.Rows PySem.Calls PySem.Spec
section
variable {w : World} {G : Addr → Option Obj} {bx : Option (Addr × Addr)}
inductive FoundR : List Value → List (List Int) → Led → Prop
  | nil : FoundR [] [] []
  | cons {a : Addr} {us : List Value} {m : Nat} {ns : List Int} {vs : List Value} {nss : List (List Int)} {H : Led} : IntsAre us ns → FoundR vs nss H → FoundR (.ref a :: vs) (ns :: nss) ((a, lst us m) :: H)
theorem FoundR.length {vs nss H} (h : FoundR vs nss H) : vs.length = nss.length := by
  induction h with
  | nil => rfl
  | cons _ _ ih => simp [ih]
theorem FoundR.snoc {vs nss H a m} (h : FoundR vs nss H) : FoundR (vs ++ [.ref a]) (nss ++ [[]]) (H ++ [(a, lst [] m)]) := by
  induction h with
  | nil => exact .cons .nil .nil
  | cons i _ ih => exact .cons i ih
theorem FoundR.get {vs : List Value} {nss : List (List Int)} {H : Led} (F : FoundR vs nss H) {o : Nat} (h : o < nss.length) : ∃ a us m ns A B, vs[o]? = some (.ref a) ∧ nss[o]? = some ns ∧ IntsAre us ns ∧ H = A ++ (a, lst us m) :: B ∧
    ∀ us' m' ns', IntsAre us' ns' → FoundR vs (nss.modify o fun _ => ns') (A ++ (a, lst us' m') :: B) := by
  induction F generalizing o with
  | nil => cases h
  | @cons a₀ us₀ m₀ _ _ _ _ i r ih =>
    cases o with
    | zero => exact ⟨_, _, _, _, [], _, rfl, rfl, i, rfl, fun us' m' ns' i' => .cons i' r⟩
    | succ o =>
      obtain ⟨a, us, m, ns, A, B, h1, h2, h3, h4, h5⟩ := ih (Nat.lt_of_succ_lt_succ h)
      refine ⟨a, us, m, ns, (a₀, lst us₀ m₀) :: A, B, h1, h2, h3, by rw [h4]; rfl, fun us' m' ns' i' => ?_⟩
      rw [List.modify_succ_cons]
      exact .cons i (h5 us' m' ns' i')
theorem FoundR.ll {K : Addr → Obj → Prop} {vs : List Value} {nss : List (List Int)} {H : Led} (F : FoundR vs nss H) (h : ∀ p ∈ H, K p.1 p.2) : LL K vs nss := by
  induction F with
  | nil => exact .nil
  | cons i _ ih => exact .cons (h _ (.head _)) i (ih fun p hp => h p (.tail _ hp))
inductive WaitR : List Value → List (Nat × Nat) → Led → Prop
  | nil : WaitR [] [] []
  | cons {T : Addr} {o l : Nat} {t u : Tok} {vs : List Value} {s : List (Nat × Nat)} {H : Led} : WaitR vs s H → WaitR (.ref T :: vs) ((o, l) :: s) ((T, tup [.int o t, .int l u]) :: H)
theorem modify_eq {α : Type} {f : α → α} : ∀ {A : List α} {o : Nat} {x : α}, A[o]? = some x → A.modify o f = A.modify o (fun _ => f x)
  | [], _, _, h => by simp at h
  | y :: r, 0, x, h => by simp at h; subst h; rfl
  | y :: r, o + 1, x, h => by rw [List.modify_succ_cons, List.modify_succ_cons, modify_eq (by simpa using h)]
theorem IntsAre.snoc {us : List Value} {ns : List Int} {i : Int} {t : Tok} (h : IntsAre us ns) : IntsAre (us ++ [.int i t]) (ns ++ [i]) := by
  induction h with
  | nil => exact .cons _ _ .nil
  | cons n t _ ih => exact .cons _ _ ih
theorem mem_modify_le {A : List (List Int)} {o : Nat} {x : Int} {n : Nat} (h : ∀ ns ∈ A, ns.length ≤ n) : ∀ ns ∈ A.modify o (· ++ [x]), ns.length ≤ n + 1 := by
  induction A generalizing o with
  | nil => simp
  | cons y r ih =>
    intro ns hns
    cases o with
    | zero =>
      rw [List.modify_zero_cons] at hns
      rcases List.mem_cons.mp hns with rfl | hns
      · have := h y (.head _); simp; omega
      · have := h ns (.tail _ hns); omega
    | succ o =>
      rw [List.modify_succ_cons] at hns
      rcases List.mem_cons.mp hns with rfl | hns
      · have := h ns (.head _); omega
      · exact ih (fun ns hns => h ns (.tail _ hns)) ns hns

set_option maxHeartbeats 4000000 in
theorem c_places_within {a : Addr} {vs : List Value} {n : Nat} {counts : List Nat} (ha : G a = some (lst vs n)) (X : IntsAre vs (counts.map fun (k : Nat) => (k : Int))) (hz : counts.length ≤ 100) :
    CJ w G bx 1 (.ref 167) [.ref a] [] fun r H' => ∃ fa fvs m Hf, r = .ref fa ∧ FoundR fvs (runs counts 0 (List.replicate counts.length [], [])).1 Hf ∧ H' = (fa, lst fvs m) :: Hf := by
  refine CJ_def (binds := [(Str.ofString "counts", .ref a)]) (by k_is) (by k_is) (by rfl) (by exact locs rfl) (by rfl) ?_ (by decide)
  intro c hG hbx ok
  subst hG hbx
  refine J_lose ?_
  have xl : vs.length = counts.length := by have := X.length; simpa using this
  walk_at "w"
  refine J_ListComp [] [Str.ofString "many"] ok.hd ?_
  walk_at "w"
  refine ⟨_, _, _, fun i vals => ∃ x, vals = [x], fun i ys H => FoundR ys (List.replicate i []) H, by omega, Source.list ok.hd ha, .nil, ?_, ⟨?_, ?_⟩, ?_⟩
  · intro i ys H f; have := f.length; simp at this; omega
  · rintro i x K hi ⟨hx, rfl⟩
    refine ⟨_, ⟨x, rfl⟩, rfl, fun G' C H hG' hK hh => ?_⟩
    walk_at "w"
    exact ⟨rfl, rfl⟩
  · rintro i vals ys H₃ G' C hi ⟨x, rfl⟩ f hG' hok
    have ok' := hok _ ok
    refine J_tests_nil (if_tt ?_)
    refine J_loseL ?_
    walk_at "w"
    rename_i na hna
    refine ⟨H₃ ++ [(na, lst [] 0)], by walk_at "JSub", ?_⟩
    rw [List.replicate_succ']; exact f.snoc
  · rintro fa fvs mf Hf FR
    walk_at "w"
    rename_i wa hwa
    rw [xl] at FR
    refine J_ForW ?_
    walk_at "w"
    refine J_enumerate (by walk_at "JRoom") fun e it oe oi he hi => ?_
    refine ⟨_, _, _, fun i l H => ∃ fvs wvs f s Hf Hw m1 m2, FoundR fvs f Hf ∧ WaitR wvs s Hw ∧ f.length = counts.length ∧ (∀ p ∈ s, p.1 < counts.length) ∧ runs (counts.drop i) i (f, s) = runs counts 0 (List.replicate counts.length [], []) ∧ wvs.length ≤ i ∧ (∀ ns ∈ f, ns.length ≤ i) ∧
      l = [(Str.ofString "counts", .ref a), (Str.ofString "waiting", .ref wa), (Str.ofString "found", .ref fa)] ∧ H = (wa, lst wvs.reverse m1) :: (fa, lst fvs m2) :: (Hf ++ Hw),
      Source.en ok ha he hi, ⟨_, _, by walk_at "JHas", ?_, fvs, [], List.replicate counts.length [], [], Hf, [], 0, mf, FR, .nil, by simp, by simp, by simp, by simp, by simp, rfl, rfl⟩, ?_, ?_⟩
    · simp only [List.reverse_nil, List.append_nil]; walk_at "JSub"
    · rintro i v K l₃ H₃ hi ⟨T, t, x, o, hx, rfl, rfl, hc, nn, hd⟩ ⟨fvs, wvs, f, s, Hf, Hw, m1, m2, FR, WR, hfl, hs, hrun, hwl, hnl, rfl, rfl⟩ G' hG' hK
      have ok' := ok.up hG'
      have ha' := hG' _ _ ha
      have hT := hK _ (.head _)
      have hi2 : i < counts.length := by omega
      obtain ⟨d, hd2, Ax⟩ := (Atoms.ints.mpr X).get hx
      have hd3 : d = .int (counts[i] : Nat) := by
        simp only [List.getElem?_map, List.getElem?_eq_getElem hi2, Option.map_some, Option.some.injEq] at hd2
        exact hd2.symm
      subst hd3
      cases Ax with
      | int _ tm =>
      rw [List.drop_eq_getElem_cons hi2, runs] at hrun
      generalize counts[i] = many at hrun hd2 hx hd
      have hwl2 : wvs.length ≤ 100 := by omega
      refine J_names2 ok'.hd (.inr hT) hc hd ?_
      walk_at "w"
      refine J_WhileW (fun n' l H => ∃ wvs' s' Hw' m1', WaitR wvs' s' Hw' ∧ nz s' = nz s ∧ (∀ p ∈ s', p.1 < counts.length) ∧ wvs'.length ≤ wvs.length ∧ n' = wvs'.length ∧
        l = [(Str.ofString "counts", .ref a), (Str.ofString "waiting", .ref wa), (Str.ofString "found", .ref fa), (Str.ofString "at", .int i t), (Str.ofString "many", .int many tm)] ∧ H = (wa, lst wvs'.reverse m1') :: (fa, lst fvs m2) :: (Hf ++ Hw'))
        wvs.length ⟨_, _, by walk_at "JHas", by walk_at "JSub", wvs, s, Hw, m1, WR, rfl, hs, Nat.le_refl _, rfl, rfl, rfl⟩ ?_
      rintro n' l H ⟨wvs', s', Hw', m1', WR', hnz, hs', hle', rfl, rfl, rfl⟩
      cases WR' with
      | nil =>
        walk_at "w"
        refine J_ite (fun h1 => ?_) (fun h1 => ?_)
        · simp at h1
        · walk_at "w"
          refine J_ite (fun h1 => ?_) (fun h1 => ?_)
          · simp at h1
          · walk_at "w"
            rename_i T₃ hT₃
            rw [stp, ← hnz] at hrun
            refine ⟨_, _, by walk_at "JHas", ?_, fvs, [.ref T₃], f, [(i, many)], Hf, [(T₃, tup [.int i t, .int many tm])], m1' + 1, m2, FR, .cons .nil, hfl, ?_, hrun, ?_, ?_, rfl, rfl⟩
            · simp only [List.reverse_nil, List.nil_append, List.reverse_cons]; walk_at "JSub"
            · simpa using hi2
            · simp
            · intro ns hns; have := hnl ns hns; omega
      | @cons T₁ o₁ l₁ t₁ u₁ wr sr Hr WR₁ =>
        have hle2 : wr.length + 1 ≤ wvs.length := by simpa using hle'
        simp only [List.reverse_cons, List.length_cons]
        walk_at "w"
        refine J_ite (fun h1 => ?_) (fun h1 => ?_)
        · walk_at "w"
          refine J_itemNeg (by walk_at "JRoom") (by decide) (by simp; omega) (by simp; omega) (v := .ref T₁) (by
            have : ((-1 : Int) + ((wr.reverse ++ [Value.ref T₁]).length : Int)).toNat = wr.length := by simp; omega
            rw [this]; simp) ?_
          walk_at "w"
          refine J_ite (fun h2 => ?_) (fun h2 => ?_)
          · have h2 : l₁ = 0 := by simpa using h2
            subst h2
            walk_at "w"
            refine J_pop (by walk_at "JAtF") (by simp; omega) ?_
            walk_at "w"
            exact ⟨wr.length, by omega, _, _, by walk_at "JHas", by walk_at "JSub", wr, sr, Hr, _, WR₁, by rw [← hnz, nz, if_pos rfl], fun p hp => hs' p (.tail _ hp), by omega, rfl, rfl, rfl⟩
          · have h2 : l₁ ≠ 0 := by simpa using h2
            have ho : o₁ < f.length := by rw [hfl]; exact hs' (o₁, l₁) (.head _)
            obtain ⟨fo, us, mo, ns, A, B, g1, g2, g3, g4, g5⟩ := FR.get ho
            subst g4
            have hnsl := hnl ns (List.mem_of_getElem? g2)
            have usl := g3.length
            walk_at "w"
            refine J_ite (fun h3 => ?_) (fun h3 => ?_)
            · walk_at "w"
              refine J_pop (by walk_at "JAtF") (by simp; omega) ?_
              walk_at "w"
              refine J_itemL (by walk_at "JRoom") (by omega) (by omega) (by simpa using g1) ?_
              walk_at "w"
              rename_i T₂ hT₂ T₃ hT₃
              have e5 : ((l₁ : Int) - 1) = ((l₁ - 1 : Nat) : Int) := by omega
              rw [e5]
              rw [stp, ← hnz, nz, if_neg h2] at hrun
              refine' ⟨_, _, by walk_at "JHas", ?sub, fvs, .ref T₃ :: .ref T₂ :: wr, f.modify o₁ (· ++ [(i : Int)]), (i, many) :: (o₁, l₁ - 1) :: sr, A ++ (fo, lst (us ++ [.int i t]) (mo + 1)) :: B, _, _, m2, ?g1, .cons (.cons WR₁), ?g2, ?g3, hrun, ?g4, mem_modify_le hnl, rfl, rfl⟩
              case sub => simp only [List.reverse_cons]; walk_at "JSub"
              · rw [modify_eq g2]; exact g5 _ _ _ (IntsAre.snoc g3)
              · simpa using hfl
              · intro p hp
                rcases List.mem_cons.mp hp with rfl | hp
                · exact hi2
                · rcases List.mem_cons.mp hp with rfl | hp
                  · exact hs' (o₁, l₁) (.head _)
                  · exact hs' p (.tail _ hp)
              · simp; omega
            · simp at h3
        · simp at h1
    · intro l₃ H₃ W
      refine Fl_next ?_
      refine W.at fun l' H' iv => ?_
      obtain ⟨fvs, wvs, f, s, Hf, Hw, m1, m2, FR, WR, hfl, hs, hrun, hwl, hnl, rfl, rfl⟩ := iv
      walk_at "w"
      rw [List.drop_of_length_le (by omega), runs] at hrun
      refine ⟨(fa, lst fvs m2) :: Hf, by walk_at "JSub", fa, fvs, m2, Hf, rfl, ?_, rfl⟩
      rw [← hrun]; exact FR

theorem kidN_node {t : Told} {kids : List Tree} : kidN (.node t kids) = kids.length := rfl
set_option maxHeartbeats 4000000 in
theorem c_inner_places {a : Addr} {v : Value} {T : Tree} {L : List Value} {n : Nat} (ha : G a = some (lst L n)) (P : PG G w v T L) (hz : L.length ≤ 20) :
    CJ w G bx 2 (.ref 172) [.ref a] [] fun r H' => ∃ fa fvs m Hf, r = .ref fa ∧ FoundR fvs (placesOf T 0) Hf ∧ H' = (fa, lst fvs m) :: Hf := by
  refine CJ_def (binds := [(Str.ofString "order", .ref a)]) (by k_is) (by k_is) (by rfl) (by exact locs rfl) (by rfl) ?_ (by decide)
  intro c hG hbx ok
  subst hG hbx
  refine J_lose ?_
  have pr := P.pre
  walk_at "w"
  refine J_ListComp [] [Str.ofString "here"] ok.hd ?_
  walk_at "w"
  refine ⟨_, _, _, fun i vals => ∃ u, L[i]? = some u ∧ vals = [u], fun i ys H => H = [] ∧ IntsAre ys ((((pre T).take i).map kidN).map fun (k : Nat) => (k : Int)), by omega, Source.list ok.hd ha, ⟨rfl, .nil⟩, ?_, ⟨?_, ?_⟩, ?_⟩
  · rintro i ys H ⟨rfl, f⟩; have := f.length; simp at this; omega
  · rintro i x K hi ⟨hx, rfl⟩
    refine ⟨_, ⟨x, hx, rfl⟩, rfl, fun G' C H hG' hK hh => ?_⟩
    walk_at "w"
    exact ⟨rfl, rfl⟩
  · rintro i vals ys H₃ G' C hi ⟨u, hx, rfl⟩ ⟨rfl, f⟩ hG' hok
    have ok' := hok _ ok
    obtain ⟨U, Lu, hU, PU, hlu⟩ := pr.2 i u hx
    cases PU with
    | @mk x kl n tt kvs kids mm Lk N S k =>
    have q1 := k.length
    have q3 : kvs.length ≤ 20 := by have := k.le; simp only [List.length_cons] at hlu; omega
    have nx := hG' _ _ N.x
    have ndx := hG' _ _ N.dx
    have nfs := N.fs
    have np := hG' _ _ N.p
    refine J_tests_nil (if_tt ?_)
    walk_at "w"
    refine ⟨rfl, ?_⟩
    rw [List.take_add_one, hU]
    simp only [Option.toList_some, List.map_append, List.map_cons, List.map_nil, kidN_node, ← q1]
    exact IntsAre.snoc f
  · rintro D ys mD H₃ ⟨rfl, f⟩
    rw [List.take_of_length_le (by omega)] at f
    walk_at "w"
    refine J_callS ok (A := []) .nil (fun G₂ g2 kn => (c_places_within kn.head f (by simp; omega)).room (by decide)) ?_
    rintro _ _ ⟨fa, fvs, m, Hf, rfl, FR, rfl⟩ -
    walk_at "JL"
    walk_at "w"
    refine ⟨(fa, lst fvs m) :: Hf, by walk_at "JSub", fa, fvs, m, Hf, rfl, ?_, rfl⟩
    rw [List.length_map, pre_length, run_root] at FR
    exact FR
end
end

-- F9
section
open PySem PySem.W PyProof.Rows PySem.Calls PySem.Spec
section
variable {w : World} {G : Addr → Option Obj} {bx : Option (Addr × Addr)}
set_option maxHeartbeats 4000000 in
theorem c_heap_init {x dx : Addr} {v₁ v₂ : Value} (I : IsI w (dictOf [] 0) []) :
    CJ w G bx 1 (.ref 28) [.ref x, v₁, v₂] [(x, instObj 94 dx), (dx, dictOf [] 0)] fun v H' => v = .none ∧ ∃ od mk, IsI w od [("number", v₁), ("mark", .int 0 mk), ("size", v₂)] ∧ H' = [(x, instObj 94 dx), (dx, od)] := by
  refine CJ_def (binds := [(Str.ofString "self", .ref x), (Str.ofString "number", v₁), (Str.ofString "size", v₂)]) (by k_is) (by k_is) (by rfl) (by exact locs rfl) (by rfl) ?_ (by decide)
  intro c hG hbx ok
  subst hG hbx
  walk_at "w"
  exact ⟨rfl, _, _, by assumption, rfl⟩
set_option maxHeartbeats 4000000 in
theorem c_local_init {x dx : Addr} {v₁ v₂ v₃ : Value} (I : IsI w (dictOf [] 0) []) :
    CJ w G bx 1 (.ref 49) [.ref x, v₁, v₂, v₃] [(x, instObj 52 dx), (dx, dictOf [] 0)] fun v H' => v = .none ∧ ∃ od, IsI w od [("name", v₁), ("start", v₂), ("end", v₃)] ∧ H' = [(x, instObj 52 dx), (dx, od)] := by
  refine CJ_def (binds := [(Str.ofString "self", .ref x), (Str.ofString "name", v₁), (Str.ofString "start", v₂), (Str.ofString "end", v₃)]) (by k_is) (by k_is) (by rfl) (by exact locs rfl) (by rfl) ?_ (by decide)
  intro c hG hbx ok
  subst hG hbx
  walk_at "w"
  exact ⟨rfl, _, by assumption, rfl⟩
noncomputable abbrev freshFs (i : Int) (k1 : Tok) (mark size : Value) (a1 a2 a3 a4 a5 a6 : Addr) (k2 k3 k4 k5 k6 k7 k8 : Tok) : Loc := [("number", .int i k1), ("mark", mark), ("size", size), ("code", .ref a1), ("constants", .ref a2), ("protos", .ref a3), ("line_info", .ref a4), ("locals", .ref a5), ("upvalue_names", .ref a6),
  ("source", .bytes #[] k2), ("line_defined", .int 0 k3), ("last_line", .int 0 k4), ("upvalue_count", .int 0 k5), ("param_count", .int 0 k6), ("is_vararg", .int 0 k7), ("max_stack", .int 2 k8)]
set_option maxHeartbeats 8000000 in
theorem c_proto_init {x dx : Addr} (I : IsI w (dictOf [] 0) []) :
    CJ w G bx 2 (.ref 70) [.ref x] [(x, instObj 94 dx), (dx, dictOf [] 0)] fun v H' => v = .none ∧ ∃ od i k1 mark size a1 a2 a3 a4 a5 a6 k2 k3 k4 k5 k6 k7 k8, IsI w od (freshFs i k1 mark size a1 a2 a3 a4 a5 a6 k2 k3 k4 k5 k6 k7 k8) ∧ H' = [(x, instObj 94 dx), (dx, od)] := by
  refine CJ_def (binds := [(Str.ofString "self", .ref x)]) (by k_is) (by k_is) (by rfl) (by exact locs rfl) (by rfl) ?_ (by decide)
  intro c hG hbx ok
  subst hG hbx
  refine J_lose ?_
  walk_at "w"
  refine J_callS ok (A := [(x, instObj 94 dx), (dx, dictOf [] 0)]) (by walk_at "JSplit") (fun G₂ g2 kn => c_heap_init I) ?_
  rintro _ _ ⟨rfl, od, mk, I1, rfl⟩ -
  walk_at "JL"
  walk_at "w"
  refine ⟨_, ?_, rfl, _, _, _, _, _, _, _, _, _, _, _, _, _, _, _, _, _, _, by assumption, rfl⟩
  walk_at "JSub"
/-- a local's record made -/
theorem J_newLocal {c : Cx} {l : Loc} {H : Led} {k : Nat} {v₁ v₂ v₃ : Value} {Q : Value → Loc → Led → Prop} (ok : Ok w c (k + 2))
    (q : ∀ x dx od, IsI w od [("name", v₁), ("start", v₂), ("end", v₃)] → Q (.ref x) l ((x, instObj 52 dx) :: (dx, od) :: H)) : J w c (call (.ref 52) [v₁, v₂, v₃]) l H Q := by
  refine J_newS (k := k + 1) (fI := 49) (Q' := fun x H' => ∃ dx od, IsI w od [("name", v₁), ("start", v₂), ("end", v₃)] ∧ H' = [(x, instObj 52 dx), (dx, od)]) ok (by k_is) (by k_is) (by k_is) (fun x dx G' hne h1 h2 I => ((c_local_init I).room (by omega)).mono ?_) ?_
  · rintro v H' ⟨rfl, od, I1, rfl⟩; exact ⟨rfl, dx, od, I1, rfl⟩
  · rintro x H' ⟨dx, od, I1, rfl⟩ _; exact q x dx od I1
/-- a function made, its parts empty -/
theorem J_newProto {c : Cx} {l : Loc} {H : Led} {k : Nat} {Q : Value → Loc → Led → Prop} (ok : Ok w c (k + 3))
    (q : ∀ x dx od i k1 mark size a1 a2 a3 a4 a5 a6 k2 k3 k4 k5 k6 k7 k8, IsI w od (freshFs i k1 mark size a1 a2 a3 a4 a5 a6 k2 k3 k4 k5 k6 k7 k8) → Q (.ref x) l ((x, instObj 94 dx) :: (dx, od) :: H)) : J w c (call (.ref 94) []) l H Q := by
  refine J_newS (k := k + 2) (fI := 70) (Q' := fun x H' => ∃ dx od i k1 mark size a1 a2 a3 a4 a5 a6 k2 k3 k4 k5 k6 k7 k8, IsI w od (freshFs i k1 mark size a1 a2 a3 a4 a5 a6 k2 k3 k4 k5 k6 k7 k8) ∧ H' = [(x, instObj 94 dx), (dx, od)]) ok (by k_is) (by k_is) (by k_is) (fun x dx G' hne h1 h2 I => ((c_proto_init I).room (by omega)).mono ?_) ?_
  · rintro v H' ⟨rfl, od, i, k1, mark, size, a1, a2, a3, a4, a5, a6, k2, k3, k4, k5, k6, k7, k8, I1, rfl⟩; exact ⟨rfl, dx, od, i, k1, mark, size, a1, a2, a3, a4, a5, a6, k2, k3, k4, k5, k6, k7, k8, I1, rfl⟩
  · rintro x H' ⟨dx, od, i, k1, mark, size, a1, a2, a3, a4, a5, a6, k2, k3, k4, k5, k6, k7, k8, I1, rfl⟩ _; exact q _ _ _ _ _ _ _ _ _ _ _ _ _ _ _ _ _ _ _ _ I1
end
end

local macro_rules | `(tactic| walk_at "Jcall") => `(tactic| first
  | ((show J _ _ (call (Value.ref 52) _) _ _ _); refine J_newLocal (by assumption) ?_; intro _ _ _ _)
  | ((show J _ _ (call (Value.ref 94) _) _ _ _); refine J_newProto (by assumption) ?_; intro _ _ _ _ _ _ _ _ _ _ _ _ _ _ _ _ _ _ _ _ hFresh))

-- F10
section
open PySem PySem.W PyProof.Rows PySem.Calls PySem.Spec
section
variable {w : World} {G : Addr → Option Obj} {bx : Option (Addr × Addr)}
theorem LvsR.snoc {vs : List Value} {sp : List Span} {H : Led} {y dy : Addr} {od : Obj} {s : Span} {tn ts te : Tok} (h : LvsR w vs sp H) (i : IsI w od [("name", .bytes s.name tn), ("start", .int s.st ts), ("end", .int s.en te)]) : LvsR w (vs ++ [.ref y]) (sp ++ [s]) (H ++ [(y, instObj 52 dy), (dy, od)]) := by
  induction h with
  | nil => exact .cons i .nil
  | cons j _ ih => exact .cons j ih
set_option maxHeartbeats 8000000 in
theorem c_copy_proto {x kl : Addr} {n : NP} {t : Told} {kvs : List Value} {m : Nat} (N : NodeG G w x n kl t kvs m) (S : t.Small) (hk : kvs.length ≤ 20) :
    CJ w G bx 5 (.ref 101) [.ref x] [] fun v H' => ∃ (y : Addr) (n' : NP) (kl' : Addr) (m' : Nat), v = .ref y ∧ n'.Ok w kl' t ∧ H' = n'.led y ++ [(kl', lst kvs m')] := by
  refine CJ_def (binds := [(Str.ofString "p", .ref x)]) (by k_is) (by k_is) (by rfl) (by exact locs rfl) (by rfl) ?_ (by decide)
  intro c hG hbx ok
  subst hG hbx
  refine J_lose ?_
  obtain ⟨nx, ndx, nfs, nc, nk, nl, nv, nu, np, nH, nok⟩ := N
  obtain ⟨z1, z2, z3, z4, z5⟩ := S
  have e1 := nok.code.length
  have e2 := nok.consts.length
  have e3 := nok.lines.length
  have e4 := nok.locals.length
  have e5 := nok.ups.length
  simp only [List.length_map] at e5
  walk_at "w"
  refine J_ListCompB [] [Str.ofString "var"] ok.hd (fun Hb i ys H => ∃ Hv, LvsR w ys (t.locals.take i) Hv ∧ SubLed (Hv ++ Hb) H) ?_
  walk_at "w"
  refine ⟨_, _, _, fun i vals => ∃ u, n.vv[i]? = some u ∧ vals = [u], by omega, Source.list ok.hd nv, ⟨[], .nil, .refl⟩, ?_, ⟨?_, ?_⟩, ?_⟩
  · rintro i ys H ⟨Hv, f, -⟩; have := f.length; simp at this; omega
  · rintro i x K hi ⟨hx, rfl⟩
    refine ⟨_, ⟨x, hx, rfl⟩, rfl, fun G' C H hG' hK hh => ?_⟩
    walk_at "w"
    exact ⟨rfl, rfl⟩
  · rintro i vals ys H₃ G' C hi ⟨u, hx, rfl⟩ ⟨Hv, f, hsub⟩ hG' hok
    have ok' := hok _ ok
    obtain ⟨y, dy, od, s, tn₂, ts, te, hs, rfl, h1, h2, hi'⟩ := LvsR.get nok.locals hx
    have h1 := hG' _ _ (nH _ h1)
    have h2 := hG' _ _ (nH _ h2)
    refine J_tests_nil (if_tt ?_)
    walk_at "w"
    rename_i y2 dy2 od2 hI2
    refine ⟨Hv ++ [(y2, instObj 52 dy2), (dy2, od2)], ?_, hsub.more [_, _]⟩
    rw [List.take_add_one, hs]
    exact LvsR.snoc f hI2
  · rintro D ys mD H₃ ⟨Hv, f, hsub⟩
    refine J_led (hsub.cons _) ?_
    walk_at "w"
    rw [List.take_of_length_le (by omega)] at f
    refine' ⟨_, ?sub, _, _, _, _, rfl, np_make (by assumption) nok.code nok.consts nok.lines f nok.ups, rfl⟩
    case sub =>
      simp only [NP.led, List.cons_append, List.nil_append]
      walk_at "JSub"
end
end

-- F11
section
open PySem PySem.W PyProof.Rows PySem.Calls PySem.Spec
section
variable {w : World} {G : Addr → Option Obj} {bx : Option (Addr × Addr)}
set_option maxHeartbeats 4000000 in
theorem c_law_many : ∀ (N : Nat) (G : Addr → Option Obj) (v : Value) (T : Tree), PlanG G w v T → tsize T ≤ N → N ≤ 50 →
    CJ w G bx N (.ref 194) [v] [] fun r H' => AtomV r (.int (tsize T)) ∧ H' = []
  | 0, _, _, T, _, h, _ => by have := tsize_pos T; omega
  | N + 1, G, _, _, .mk (p := p) (td := td) (ki := ki) (n := n) (t := t) (kvs := kvs) (kids := kids) (m := m) D S k, hN, hN2 => by
    have ih := c_law_many N
    refine CJ_def (binds := [(Str.ofString "plan", .ref p)]) (by k_is) (by k_is) (by rfl) (by exact locs rfl) (by rfl) ?_ (by decide)
    intro c hG hbx ok
    subst hG hbx
    refine J_lose ?_
    rw [tsize] at hN
    have kl := k.length
    have kz := tsizes_le kids
    have dp := D.p
    have di := D.i
    walk_at "w"
    refine J_ListComp [] [Str.ofString "inner"] ok.hd ?_
    walk_at "w"
    refine ⟨_, _, _, fun i vals => ∃ u, kvs[i]? = some u ∧ vals = [u], fun i ys H => H = [] ∧ ∃ ns : List Int, IntsAre ys ns ∧ ns.length = i ∧ ns.sum = tsizes (kids.take i), by omega, Source.list ok.hd di, ⟨rfl, [], .nil, rfl, rfl⟩, ?_, ⟨?_, ?_⟩, ?_⟩
    · rintro i ys H ⟨rfl, ns, f, h, -⟩; have := f.length; omega
    · rintro i x K hi ⟨hx, rfl⟩
      refine ⟨_, ⟨x, hx, rfl⟩, rfl, fun G' C H hG' hK hh => ?_⟩
      walk_at "w"
      exact ⟨rfl, rfl⟩
    · rintro i vals ys H₃ G' C hi ⟨u, hx, rfl⟩ ⟨rfl, ns, f, hl, hs⟩ hG' hok
      have ok' := hok _ ok
      obtain ⟨U, hU, PU⟩ := k.get hx
      have hz := tsize_get hU
      refine J_tests_nil (if_tt ?_)
      walk_at "w"
      refine J_callR ok' (fun G₂ g2 _ => ih G₂ u U (PU.up fun a o e => g2 _ _ (hG' _ _ e)) (by omega) (by omega)) fun r q => ?_
      cases q with
      | int _ tk =>
      refine ⟨rfl, ns ++ [(tsize U : Int)], IntsAre.snoc f, by simp [hl], ?_⟩
      rw [List.sum_append, hs, List.take_add_one, hU, tsizes_append]
      simp [tsizes]
    · rintro D ys mD H₃ ⟨rfl, ns, f, hl, hs⟩
      walk_at "w"
      refine J_sum ok.hd (by walk_at "JRoom") f fun tk => ?_
      walk_at "w"
      refine ⟨[], SubLed.none, ?_, rfl⟩
      rw [List.take_of_length_le (by omega)] at hs
      rw [hs, tsize]
      exact (AtomV.int _ _).cast (congrArg AT.int (by omega))
end
end

-- F12
section
open PySem PySem.W PyProof.Rows PySem.Calls PySem.Spec
section
variable {w : World} {G : Addr → Option Obj} {bx : Option (Addr × Addr)}
set_option maxHeartbeats 16000000 in
theorem c_law_made : ∀ (N : Nat) (G : Addr → Option Obj) (v : Value) (T : Tree), PlanG G w v T → tsize T ≤ N → N ≤ 50 →
    CJ w G bx (N + 5) (.ref 199) [v] [] fun r H' => ProtoR w r T H'
  | 0, _, _, T, _, h, _ => by have := tsize_pos T; omega
  | N + 1, G, _, _, .mk (p := p) (td := td) (ki := ki) (n := n) (t := t) (kvs := kvs) (kids := kids) (m := m) D S k, hN, hN2 => by
    have ih := c_law_made N
    rw [show N + 1 + 5 = (N + 5) + 1 by omega]
    refine CJ_def (binds := [(Str.ofString "plan", .ref p)]) (by k_is) (by k_is) (by rfl) (by exact locs rfl) (by rfl) ?_ (by decide)
    intro c hG hbx ok
    subst hG hbx
    refine J_lose ?_
    rw [tsize] at hN
    have kl := k.length
    have kz := tsizes_le kids
    obtain ⟨dp, dtd, dfs, dc, dk, dl, dv, du, dHs, di, dok⟩ := D
    have S' := S
    obtain ⟨z1, z2, z3, z4, z5⟩ := S
    have e1 := dok.code.length
    have e2 := dok.consts.length
    have e3 := dok.lines.length
    have e4 := dok.locals.length
    have e5 := dok.ups.length
    simp only [List.length_map] at e5
    have ok3 := ok.le (j := N + 2 + 3) (by omega)
    walk_at "w"
    refine J_ListCompB [] [Str.ofString "name", Str.ofString "start", Str.ofString "end"] ok.hd (fun Hb i ys H => ∃ Hv, LvsR w ys (t.locals.take i) Hv ∧ SubLed (Hv ++ Hb) H) ?_
    walk_at "w"
    refine ⟨_, _, _, fun i vals => ∃ s tn ts te, t.locals[i]? = some s ∧ vals = [.bytes s.name tn, .int s.st ts, .int s.en te], by omega, Source.list ok.hd dv, ⟨[], .nil, .refl⟩, ?_, ⟨?_, ?_⟩, ?_⟩
    · rintro i ys H ⟨Hv, f, -⟩; have := f.length; simp at this; omega
    · rintro i x K hi ⟨hx, rfl⟩
      obtain ⟨T, s, tn, ts, te, hs, rfl, hT⟩ := SpR.get dok.locals hx
      refine ⟨_, ⟨s, tn, ts, te, hs, rfl⟩, rfl, fun G' C H hG' hK hh => ?_⟩
      have hT' := hG' _ _ (dHs _ hT)
      refine J_names3 hh (.inr hT') rfl rfl ?_
      walk_at "w"
      exact ⟨rfl, rfl⟩
    · rintro i vals ys H₃ G' C hi ⟨s, tn, ts, te, hs, rfl⟩ ⟨Hv, f, hsub⟩ hG' hok
      have ok' := hok _ ok3
      refine J_tests_nil (if_tt ?_)
      walk_at "w"
      rename_i y2 dy2 od2 hI2
      refine ⟨Hv ++ [(y2, instObj 52 dy2), (dy2, od2)], ?_, hsub.more [_, _]⟩
      rw [List.take_add_one, hs]
      exact LvsR.snoc f hI2
    · rintro Dv ys mD H₃ ⟨Hv, f, hsub⟩
      refine J_led (hsub.cons _) ?_
      walk_at "w"
      rw [List.take_of_length_le (by omega)] at f
      refine J_ListCompB [] [Str.ofString "inner"] ok.hd (fun Hb i ys H => ∃ Hk, ProtosR w ys (kids.take i) Hk ∧ SubLed (Hk ++ Hb) H) ?_
      walk_at "w"
      refine ⟨_, _, _, fun i vals => ∃ u, kvs[i]? = some u ∧ vals = [u], by omega, Source.list ok.hd di, ⟨[], .nil, .refl⟩, ?_, ⟨?_, ?_⟩, ?_⟩
      · rintro i ys H ⟨Hk, f, -⟩; have := f.length; simp at this; omega
      · rintro i x K hi ⟨hx, rfl⟩
        refine ⟨_, ⟨x, hx, rfl⟩, rfl, fun G' C H hG' hK hh => ?_⟩
        walk_at "w"
        exact ⟨rfl, rfl⟩
      · rintro i vals ys H₃ G' C hi ⟨u, hx, rfl⟩ ⟨Hk, f, hsub⟩ hG' hok
        have ok' := hok _ ok
        obtain ⟨U, hU, PU⟩ := k.get hx
        have hz := tsize_get hU
        refine J_tests_nil (if_tt ?_)
        walk_at "w"
        refine J_callS ok' (A := []) .nil (fun G₂ g2 _ => ih G₂ u U (PU.up fun a o e => g2 _ _ (hG' _ _ e)) (by omega) (by omega)) ?_
        intro r H' PR' _
        refine ⟨Hk ++ H', ?_, hsub.more _⟩
        rw [List.take_add_one, hU]
        exact ProtosR.snoc f PR'
      · rintro Dp yp mp H₄ ⟨Hk, g, hsub2⟩
        refine J_led (hsub2.cons _) ?_
        walk_at "w"
        rw [List.take_of_length_le (by omega)] at g
        have pf := fun {x : Addr} {kl : Addr} {n : NP} (ok : NP.Ok w n kl t) => ProtoR.mk (x := x) (m := mp) ok S' g
        refine' ⟨_, ?sub, pf (np_make (by assumption) dok.code dok.consts dok.lines f dok.ups)⟩
        case sub =>
          simp only [NP.led, List.cons_append]
          walk_at "JSub"
end
end

-- F13
section
open PySem PySem.W PyProof.Rows PySem.Calls PySem.Spec
section
variable {w : World} {G : Addr → Option Obj} {bx : Option (Addr × Addr)}
theorem FoundR.append {vs : List Value} {nss : List (List Int)} {H : Led} {us : List Value} {mss : List (List Int)} {H' : Led} (F : FoundR vs nss H) (h : FoundR us mss H') : FoundR (vs ++ us) (nss ++ mss) (H ++ H') := by
  induction F with
  | nil => exact h
  | cons i _ ih => exact .cons i ih
set_option maxHeartbeats 16000000 in
theorem c_law_nodes : ∀ (N : Nat) (G : Addr → Option Obj) (v : Value) (T : Tree) (L : List Value) (pl : Nat) (tk : Tok) (fa pa : Addr) (fs ps : List Value) (mf mp : Nat), PlanL G w v T L → tsize T ≤ N → N ≤ 50 → fs.length + tsize T ≤ 100 → ps.length + tsize T ≤ 100 →
    CJ w G bx N (.ref 206) [v, .int pl tk, .ref fa, .ref pa] [(fa, lst fs mf), (pa, lst ps mp)] fun r H' => ∃ k qs Hn mf' mp', r = .int ((pl + tsize T : Nat) : Int) k ∧ FoundR qs (placesOf T pl) Hn ∧ H' = (fa, lst (fs ++ L) mf') :: (pa, lst (ps ++ qs) mp') :: Hn
  | 0, _, _, T, _, _, _, _, _, _, _, _, _, _, h, _, _, _ => by have := tsize_pos T; omega
  | N + 1, G, _, _, _, pl, tk, fa, pa, fs, ps, mf, mp, .mk (p := p) (td := td) (ki := ki) (n := n) (t := t) (kvs := kvs) (kids := kids) (m := m) (Ls := Ls) D S k, hN, hN2, hf, hp => by
    have ih := c_law_nodes N
    refine CJ_def (binds := [(Str.ofString "plan", .ref p), (Str.ofString "place", .int pl tk), (Str.ofString "found", .ref fa), (Str.ofString "places", .ref pa)]) (by k_is) (by k_is) (by rfl) (by exact locs rfl) (by rfl) ?_ (by decide)
    intro c hG hbx ok
    subst hG hbx
    refine J_lose ?_
    rw [tsize] at hN hf hp
    have kl := k.g.length
    have kz := tsizes_le kids
    have dp := D.p
    have di := D.i
    obtain ⟨La, la0, la1, la2⟩ := k.nth
    walk_at "w"
    rename_i h hh _ _
    refine J_itemNeg (by walk_at "JRoom") (by decide) (by simp; omega) (by simp; omega) (v := .ref h) (by
      have : ((-1 : Int) + ((ps ++ [Value.ref h]).length : Int)).toNat = ps.length := by simp; omega
      rw [this]; simp) ?_
    walk_at "w"
    refine J_ForW ?_
    walk_at "w"
    refine ⟨_, _, _, fun i l H => ∃ k qs hs Hn mf' mp' mh, IntsAre hs (kidPlaces (kids.take i) (pl + 1)) ∧ FoundR qs (placesOfs (kids.take i) (pl + 1)) Hn ∧
      l = [(Str.ofString "plan", .ref p), (Str.ofString "place", .int ((pl + 1 + tsizes (kids.take i) : Nat) : Int) k), (Str.ofString "found", .ref fa), (Str.ofString "places", .ref pa), (Str.ofString "here", .ref h)] ∧
      H = (fa, lst (fs ++ .ref p :: La i) mf') :: (pa, lst (ps ++ .ref h :: qs) mp') :: (h, lst hs mh) :: Hn, Source.list ok.hd di, ?_, ?_, ?_⟩
    · refine' ⟨_, _, by walk_at "JHas", ?sub, _, [], [], [], _, _, _, ?_, ?_, rfl, rfl⟩
      case sub =>
        rw [la0]
        walk_at "JSub"
      · simp only [List.take_zero, kidPlaces]; exact .nil
      · simp only [List.take_zero, placesOfs]; exact .nil
    · rintro i x K l₃ H₃ hi ⟨hx, rfl⟩ ⟨k₁, qs, hs, Hn, mf', mp', mh, Ih, Fh, rfl, rfl⟩ G' hG' -
      have ok' := ok.up hG'
      obtain ⟨U, Li, hU, PU, hLa, hLi⟩ := la2 i x hx
      have hz := tsize_get hU
      have lh := Ih.length
      have lq := Fh.length
      rw [kidPlaces_length] at lh
      rw [placesOfs_length] at lq
      have htake : kids.take (i + 1) = kids.take i ++ [U] := by rw [List.take_add_one, hU]; rfl
      have hts : tsizes (kids.take (i + 1)) = tsizes (kids.take i) + tsize U := by rw [htake, tsizes_append, tsizes, tsizes]; omega
      have hts2 : tsizes (kids.take i) + tsize U ≤ tsizes kids := by
        have h1 : tsizes kids = tsizes (kids.take (i + 1)) + tsizes (kids.drop (i + 1)) := by rw [← tsizes_append, List.take_append_drop]
        omega
      have lz : hs.length ≤ 50 := by rw [lh, List.length_take]; omega
      walk_at "w"
      refine J_callS ok' (A := [(fa, lst (fs ++ .ref p :: La i) mf'), (pa, lst (ps ++ .ref h :: qs) mp')]) (by walk_at "JSplit") (fun G₂ g2 kn => ih G₂ x U Li (pl + 1 + tsizes (kids.take i)) k₁ fa pa _ _ _ _ (PU.up fun a o e => g2 _ _ (hG' _ _ e)) (by omega) (by omega) (by simp; omega) (by simp; omega)) ?_
      rintro _ _ ⟨k₂, qs₂, Hn₂, mf₂, mp₂, rfl, F₂, rfl⟩ -
      walk_at "JL"
      walk_at "w"
      have e : pl + 1 + tsizes (kids.take i) + tsize U = pl + 1 + tsizes (kids.take (i + 1)) := by omega
      rw [e]
      refine' ⟨_, _, by walk_at "JHas", ?sub, k₂, qs ++ qs₂, hs ++ [.int ((pl + 1 + tsizes (kids.take i) : Nat) : Int) k₁], Hn ++ Hn₂, mf₂, mp₂, mh + 1, ?_, ?_, rfl, rfl⟩
      case sub =>
        rw [hLa]
        simp only [List.append_assoc, List.cons_append]
        walk_at "JSub"
      · rw [htake, kidPlaces_snoc]; exact IntsAre.snoc Ih
      · rw [htake, placesOfs_snoc]; exact FoundR.append Fh F₂
    · intro l₃ H₃ W
      refine Fl_next ?_
      refine W.at fun l' H' iv => ?_
      obtain ⟨k₁, qs, hs, Hn, mf', mp', mh, Ih, Fh, rfl, rfl⟩ := iv
      walk_at "w"
      rw [List.take_of_length_le (by omega)] at Ih Fh
      rw [la1, List.take_of_length_le (by omega)]
      refine ⟨(fa, lst (fs ++ .ref p :: Ls) mf') :: (pa, lst (ps ++ .ref h :: qs) mp') :: (h, lst hs mh) :: Hn, by walk_at "JSub", k₁, .ref h :: qs, (h, lst hs mh) :: Hn, mf', mp', ?_, .cons Ih Fh, rfl⟩
      rw [tsize, Nat.add_assoc]; rfl
end
end

-- F14
section
open PySem PySem.W PyProof.Rows PySem.Calls PySem.Spec
section
variable {w : World} {G : Addr → Option Obj} {bx : Option (Addr × Addr)}
theorem J_cut {c : Cx} {α : Type} {t : Sem α} {l : Loc} {H : Led} {Q : α → Loc → Led → Prop} (Q' : α → Prop) (x : J w c t l H fun v l' H' => (l' = l ∧ H' = H) ∧ Q' v) (k : ∀ v, Q' v → Q v l H) : J w c t l H Q :=
  x.mono fun v l' H' ⟨⟨e1, e2⟩, q⟩ => by subst e1 e2; exact k v q
noncomputable def live (pc : Int) (s : Span) : Bool := decide (s.st ≤ pc) && decide (pc < s.en)
noncomputable def aliveAt (sp : List Span) (pc : Int) : List AT := (sp.filter (live pc)).map fun s => .bytes s.name
theorem alive_len (sp : List Span) (pc : Int) : (aliveAt sp pc).length ≤ sp.length := by
  unfold aliveAt; rw [List.length_map]; exact List.length_filter_le _ _
theorem alive_snoc {sp : List Span} {s : Span} {pc : Int} : aliveAt (sp ++ [s]) pc = aliveAt sp pc ++ if live pc s = true then [.bytes s.name] else [] := by
  unfold aliveAt
  rw [List.filter_append, List.map_append]
  congr 1
  by_cases h : live pc s = true
  · rw [if_pos h, List.filter_cons_of_pos h]; rfl
  · rw [if_neg h, List.filter_cons_of_neg h]; rfl
theorem alive_none {pc : Int} : ∀ {sp : List Span}, (∀ s ∈ sp, pc < s.st) → aliveAt sp pc = []
  | [], _ => rfl
  | s :: r, h => by
    have h1 := h s (.head _)
    have : live pc s = false := by
      unfold live
      rw [decide_eq_false (by omega)]; rfl
    unfold aliveAt
    rw [List.filter_cons_of_neg (by simp [this])]
    exact alive_none (sp := r) fun s hs => h s (.tail _ hs)
theorem localName_alive {pc : Int} : ∀ {sp : List Span} {num : Nat}, sp.Pairwise (fun a b => a.st ≤ b.st) → 1 ≤ num → localNameP sp num pc = (aliveAt sp pc).getD (num - 1) .none
  | [], _, _, _ => rfl
  | s :: r, num, hp, hn => by
    have hp' := List.pairwise_cons.mp hp
    rw [localNameP]
    by_cases h1 : s.st > pc
    · rw [if_pos h1, alive_none]; · rfl
      intro u hu
      rcases List.mem_cons.mp hu with rfl | hu
      · exact h1
      · have := hp'.1 u hu; omega
    · rw [if_neg h1]
      unfold aliveAt
      by_cases h2 : pc < s.en
      · have : live pc s = true := by unfold live; rw [decide_eq_true h2, decide_eq_true (by omega)]; rfl
        rw [if_pos h2, List.filter_cons_of_pos this, List.map_cons]
        by_cases h3 : num = 1
        · subst h3; rw [if_pos (by rfl)]; rfl
        · rw [if_neg (by omega)]
          have ih := localName_alive (pc := pc) (sp := r) (num := num - 1) hp'.2 (by omega)
          have e : ((num : Int) - 1) = ((num - 1 : Nat) : Int) := by omega
          rw [e, ih]
          obtain ⟨k, rfl⟩ : ∃ k, num = k + 2 := ⟨num - 2, by omega⟩
          rfl
      · have : live pc s = false := by unfold live; rw [decide_eq_false h2]; simp
        rw [if_neg h2, List.filter_cons_of_neg (by simp [this])]
        exact localName_alive hp'.2 hn

set_option maxHeartbeats 8000000 in
theorem c_asked_right {x kl : Addr} {n : NP} {t : Told} {kvs : List Value} {m : Nat} {p td ki : Addr} {n' : TD} {kvs' : List Value} {m' : Nat} (N : NodeG G w x n kl t kvs m) (D : TDG G w p td ki n' t kvs' m') (S : t.Small) (hs : t.locals.Pairwise fun a b => a.st ≤ b.st) :
    CJ w G bx 3 (.ref 216) [.ref p, .ref x] [] fun v H' => v = .bool true ∧ H' = [] := by
  refine CJ_defC (binds := [(Str.ofString "plan", .ref p), (Str.ofString "made", .ref x)]) (lb := [(Str.ofString "plan", .ref p), (Str.ofString "made", .ref x)]) (Str.ofString "pc") none (by k_is) (by k_is) (by rfl) (by intro _; rfl) (by walk_at "JdefC") (bindL_lo (by with_unfolding_all rfl) (by rfl)) (by with_unfolding_all rfl) ?_
  intro c hG hbx ok ca oc hca hoc hne
  subst hG hbx hca
  refine J_lose ?_
  have N0 := N
  obtain ⟨nx, ndx, nfs, nc, nk, nl, nv, nu, np, nH, nok⟩ := N
  obtain ⟨dp, dtd, dfs, dc, dk, dl, dv, du, dHs, di, dok⟩ := D
  have S' := S
  obtain ⟨z1, z2, z3, z4, z5⟩ := S
  have e1 := dok.code.length
  have e3 := dok.lines.length
  have e4 := dok.locals.length
  have e5 := dok.ups.length
  simp only [List.length_map] at e5
  walk_at "w"
  refine J_ForW ?_
  walk_at "w"
  refine J_range2 fun r tr ur vr hr => ?_
  refine ⟨_, _, _, fun i l H => ∃ v o, IsCell v o ∧ l = [(Str.ofString "plan", .ref p), (Str.ofString "made", .ref x), (Str.ofString "told", .ref td)] ∧ H = [(c.L + 1, o)], Source.range ok.hd (.inl mem_hd) rfl (by decide) (by decide) (by omega) (by omega) (by intro _ _; rfl), ⟨_, _, by walk_at "JHas", by walk_at "JSub", none, oc, hoc, rfl, rfl⟩, ?_, ?_⟩
  · rintro i v K l₃ H₃ hi ⟨tpc, rfl, rfl⟩ ⟨v, o, ho, rfl, rfl⟩ G' hG' -
    have ok' := ok.up hG'
    generalize hpc : (-1 + (i : Int)) = pc
    have dp' := hG' _ _ dp
    have dtd' := hG' _ _ dtd
    have dl' := hG' _ _ dl
    have dv' := hG' _ _ dv
    have du' := hG' _ _ du
    have nx' := hG' _ _ nx
    have ndx' := hG' _ _ ndx
    walk_at "w"
    have upG : ∀ {G₂ : Addr → Option Obj}, (∀ a o, G' a = some o → G₂ a = some o) → ∀ a o, c.G a = some o → G₂ a = some o := fun g2 a o e => g2 _ _ (hG' _ _ e)
    refine J_callR ok' (fun G₂ g2 _ => (c_line_at (N0.up (upG g2)) S').room (by decide)) fun r1 q1 => ?_
    refine J_cut (Q' := fun v => AtomV v (.int (if 0 ≤ pc ∧ pc < t.lines.length then t.lines.getD pc.toNat 0 else 0))) ?_ fun r2 q2 => ?_
    · walk_at "w"
      refine J_ite (fun h1 => ?_) (fun h1 => ?_)
      · have h1 := of_decide_eq_true h1
        walk_at "w"
        refine J_ite (fun h2 => ?_) (fun h2 => ?_)
        · have h2 := of_decide_eq_true h2
          walk_at "w"
          obtain ⟨k, hk⟩ := dok.lines.get pc.toNat (t.lines.getD pc.toNat 0) (by rw [List.getD_eq_getElem?_getD, List.getElem?_eq_getElem (by omega)]; rfl)
          refine J_itemL (by walk_at "JRoom") (by omega) (by omega) hk ?_
          rw [if_pos ⟨h1, by omega⟩]
          exact ⟨⟨rfl, rfl⟩, .int _ _⟩
        · have h2 := of_decide_eq_false h2
          walk_at "w"
          rw [if_neg (by omega)]
          exact ⟨⟨rfl, rfl⟩, .int _ _⟩
      · have h1 := of_decide_eq_false h1
        walk_at "w"
        rw [if_neg (by omega)]
        exact ⟨⟨rfl, rfl⟩, .int _ _⟩
    refine J_neAtom q1 q2 rfl ?_
    walk_at "w"
    refine J_ite (fun h => absurd h (by simp)) fun _ => ?_
    walk_at "w"
    rename_i o2 hcell _ _
    refine J_Assign_ListComp [(Str.ofString "pc", c.L + 1)] [Str.ofString "name", Str.ofString "start", Str.ofString "end"] ok'.hd ?_
    walk_at "w"
    refine ⟨_, _, _, fun i vals => ∃ s tn ts te, t.locals[i]? = some s ∧ vals = [.bytes s.name tn, .int s.st ts, .int s.en te], fun i ys H => H = [(c.L + 1, o2)] ∧ Atoms ys (aliveAt (t.locals.take i) pc), by omega, Source.list ok'.hd dv', ⟨rfl, .nil⟩, ?_, ⟨?_, ?_⟩, ?_⟩
    · rintro i ys H ⟨rfl, f⟩
      have := f.length
      have h2 := alive_len (t.locals.take i) pc
      simp at h2; omega
    · rintro i x K hi ⟨hx, rfl⟩
      obtain ⟨T, s, tn, ts, te, hs, rfl, hT⟩ := SpR.get dok.locals hx
      refine ⟨_, ⟨s, tn, ts, te, hs, rfl⟩, rfl, fun G' C H hG₂ hK hh => ?_⟩
      have hT' := hG₂ _ _ (hG' _ _ (dHs _ hT))
      refine J_names3 hh (.inr hT') rfl rfl ?_
      walk_at "w"
      exact ⟨rfl, rfl⟩
    · rintro i vals ys H₃ G₃ C hi ⟨s, tn, ts, te, hs, rfl⟩ ⟨rfl, f⟩ hG₃ hok
      have ok3 := hok _ ok'
      have etake : t.locals.take (i + 1) = t.locals.take i ++ [s] := by rw [List.take_add_one, hs]; rfl
      refine J_tests_one ?_
      walk_at "w"
      refine J_ite (fun h1 => ?_) (fun h1 => ?_)
      · have h1 := of_decide_eq_true h1
        walk_at "w"
        by_cases h2 : pc < s.en
        · rw [decide_eq_true h2, if_pos rfl]
          walk_at "w"
          refine ⟨rfl, ?_⟩
          rw [etake, alive_snoc, if_pos (by unfold live; rw [decide_eq_true h1, decide_eq_true h2]; rfl)]
          exact f.snoc (.bytes _ _)
        · rw [decide_eq_false h2, if_neg (by simp)]
          refine ⟨rfl, ?_⟩
          rw [etake, alive_snoc, if_neg (by unfold live; rw [decide_eq_false h2]; simp), List.append_nil]
          exact f
      · have h1 := of_decide_eq_false h1
        dsimp only
        rw [if_neg (by simp)]
        refine ⟨rfl, ?_⟩
        rw [etake, alive_snoc, if_neg (by unfold live; rw [decide_eq_false h1]; simp), List.append_nil]
        exact f
    · rintro D ys mD H₃ ⟨rfl, f⟩
      rw [List.take_of_length_le (by omega)] at f
      have fl := f.length
      have al := alive_len t.locals pc
      walk_at "w"
      refine J_ForW ?_
      walk_at "w"
      refine J_range2 fun r tr ur vr hr => ?_
      refine ⟨_, _, _, fun i l H => l = [(Str.ofString "plan", .ref p), (Str.ofString "made", .ref x), (Str.ofString "told", .ref td), (Str.ofString "alive", .ref D)] ∧ H = [(D, lst ys mD), (c.L + 1, o2)], Source.range ok'.hd (.inl mem_hd) rfl (by decide) (by decide) (by decide) (by decide) (by intro _ _; rfl), ⟨_, _, by walk_at "JHas", by walk_at "JSub", rfl, rfl⟩, ?_, ?_⟩
      · rintro j v K l₃ H₃ hj ⟨tj, rfl, rfl⟩ ⟨rfl, rfl⟩ G₂ hG₂ -
        have ok2 := ok'.up hG₂
        have nx2 := hG₂ _ _ nx'
        have ndx2 := hG₂ _ _ ndx'
        walk_at "w"
        refine J_callR ok2 (fun G₃ g3 _ => (c_local_name (N0.up (upG fun a o e => g3 _ _ (hG₂ _ _ e))) S').room (by decide)) fun r3 q3 => ?_
        have e : (1 : Int) + (j : Int) = ((j + 1 : Nat) : Int) := by omega
        rw [e, localName_alive hs (by omega), Nat.add_sub_cancel] at q3
        refine J_cut (Q' := fun v => AtomV v ((aliveAt t.locals pc).getD j .none)) ?_ fun r4 q4 => ?_
        · walk_at "w"
          refine J_ite (fun h1 => ?_) (fun h1 => ?_)
          · have h1 := of_decide_eq_true h1
            walk_at "w"
            obtain ⟨v, hv, hq⟩ := f.getD (i := j) (d := (aliveAt t.locals pc).getD j .none) (by rw [List.getD_eq_getElem?_getD, List.getElem?_eq_getElem (by omega)]; rfl)
            refine J_itemL (by walk_at "JRoom") (by omega) (by omega) (by rw [show (1 + (j : Int) - 1).toNat = j by omega]; exact hv) ?_
            exact ⟨⟨rfl, rfl⟩, hq⟩
          · have h1 := of_decide_eq_false h1
            walk_at "w"
            rw [List.getD_eq_getElem?_getD, List.getElem?_eq_none (by omega)]
            exact ⟨⟨rfl, rfl⟩, .none⟩
        refine J_neAtom q3 q4 rfl ?_
        walk_at "w"
        refine J_ite (fun h => absurd h (by simp)) fun _ => ?_
        walk_at "w"
        exact ⟨_, _, by walk_at "JHas", by walk_at "JSub", rfl, rfl⟩
      · intro l₃ H₃ W
        refine Fl_next ?_
        refine W.at fun l' H' iv => ?_
        obtain ⟨rfl, rfl⟩ := iv
        walk_at "w"
        refine J_callR ok' (fun G₂ g2 _ => (c_upvalue_name (N0.up (upG g2)) S').room (by decide)) fun r3 q3 => ?_
        refine J_cut (Q' := fun v => AtomV v (if 0 ≤ pc ∧ pc < t.ups.length then .bytes (t.ups.getD pc.toNat #[]) else .none)) ?_ fun r4 q4 => ?_
        · walk_at "w"
          refine J_ite (fun h1 => ?_) (fun h1 => ?_)
          · have h1 := of_decide_eq_true h1
            walk_at "w"
            refine J_ite (fun h2 => ?_) (fun h2 => ?_)
            · have h2 := of_decide_eq_true h2
              walk_at "w"
              obtain ⟨v, hv, ha⟩ := dok.ups.getD (i := pc.toNat) (d := .bytes (t.ups.getD pc.toNat #[])) (by rw [List.getD_eq_getElem?_getD, List.getElem?_map, List.getElem?_eq_getElem (by omega)]; rfl)
              refine J_itemL (by walk_at "JRoom") (by omega) (by omega) hv ?_
              rw [if_pos ⟨h1, by omega⟩]
              exact ⟨⟨rfl, rfl⟩, ha⟩
            · have h2 := of_decide_eq_false h2
              walk_at "w"
              rw [if_neg (by omega)]
              exact ⟨⟨rfl, rfl⟩, .none⟩
          · have h1 := of_decide_eq_false h1
            walk_at "w"
            rw [if_neg (by omega)]
            exact ⟨⟨rfl, rfl⟩, .none⟩
        refine J_neAtom q3 q4 rfl ?_
        walk_at "w"
        refine J_ite (fun h => absurd h (by simp)) fun _ => ?_
        walk_at "w"
        exact ⟨_, _, by walk_at "JHas", by walk_at "JSub", _, _, hcell, rfl, rfl⟩
  · intro l₃ H₃ W
    refine W.at fun l' H' iv => ?_
    obtain ⟨v, o, ho, rfl, rfl⟩ := iv
    walk_at "w"
    exact ⟨[], by walk_at "JSub", rfl, rfl⟩
end
end

-- J20
section
open PySem PySem.W PyProof.Rows PySem.Calls PySem.Spec PySem.SeqAt
-- a proto that the ledger bears, with all its nodes, the first first
mutual
inductive ProtoL (w : World) : Value → Tree → List Value → Led → Prop
  | mk {x kl : Addr} {n : NP} {t : Told} {kvs : List Value} {kids : List Tree} {m : Nat} {Ls : List Value} {Hk : Led} : n.Ok w kl t → t.Small → ProtosL w kvs kids Ls Hk → ProtoL w (.ref x) (.node t kids) (.ref x :: Ls) (n.led x ++ (kl, lst kvs m) :: Hk)
inductive ProtosL (w : World) : List Value → List Tree → List Value → Led → Prop
  | nil : ProtosL w [] [] [] []
  | cons {v : Value} {t : Tree} {L Ls : List Value} {H Hs : Led} {vs : List Value} {ts : List Tree} : ProtoL w v t L H → ProtosL w vs ts Ls Hs → ProtosL w (v :: vs) (t :: ts) (L ++ Ls) (H ++ Hs)
end
theorem ProtoR.l {w : World} {v T H} (P : ProtoR w v T H) : ∃ L, ProtoL w v T L H :=
  ProtoR.rec (motive_1 := fun v T H _ => ∃ L, ProtoL w v T L H) (motive_2 := fun vs ts H _ => ∃ L, ProtosL w vs ts L H) (fun N S _ k => k.elim fun _ h => ⟨_, .mk N S h⟩) ⟨_, .nil⟩ (fun _ _ p r => p.elim fun _ h => r.elim fun _ h' => ⟨_, .cons h h'⟩) P
theorem ProtosL.pg {G : Addr → Option Obj} {w : World} {vs ts L H} (P : ProtosL w vs ts L H) : Kn G H → PGs G w vs ts L :=
  ProtosL.rec (motive_1 := fun v T L H _ => Kn G H → PG G w v T L) (motive_2 := fun vs ts L H _ => Kn G H → PGs G w vs ts L) (fun ok S _ k h => .mk (NodeG.of ok h) S (k h.right.tail)) (fun _ => .nil) (fun _ _ p r h => .cons (p h.left) (r h.right)) P
theorem ProtoL.pg {G : Addr → Option Obj} {w : World} {v T L H} (P : ProtoL w v T L H) (h : Kn G H) : PG G w v T L := by cases P with | mk ok S k => exact .mk (NodeG.of ok h) S (k.pg h.right.tail)
theorem ProtosL.length {w : World} {vs ts L H} (P : ProtosL w vs ts L H) : L.length = tsizes ts :=
  ProtosL.rec (motive_1 := fun _ T L _ _ => L.length = tsize T) (motive_2 := fun _ ts L _ _ => L.length = tsizes ts) (fun _ _ _ k => by rw [tsize, List.length_cons, k, Nat.add_comm]) rfl
    (fun _ _ p r => by rw [tsizes, List.length_append, p, r]) P
theorem ProtoL.length {w : World} {v T L H} (P : ProtoL w v T L H) : L.length = tsize T := by cases P with | mk _ _ k => rw [tsize, List.length_cons, k.length, Nat.add_comm]
theorem ProtosL.len {w : World} {vs ts L H} (P : ProtosL w vs ts L H) : vs.length = ts.length :=
  ProtosL.rec (motive_1 := fun _ _ _ _ _ => True) (motive_2 := fun vs ts _ _ _ => vs.length = ts.length) (fun _ _ _ _ => trivial) rfl (fun _ _ _ r => congrArg Nat.succ r) P
/-- one of the functions within, its number to be turned -/
theorem ProtosL.kid {w : World} {vs ts L H} (P : ProtosL w vs ts L H) : ∀ {i : Nat} {v : Value}, vs[i]? = some v → ∃ (x : Addr) (n : NP) (kl : Addr) (t : Told) (A B : Led), v = .ref x ∧ H = A ++ (x, instObj 94 n.dx) :: (n.dx, n.od) :: B ∧ IsI w n.od (n.fs kl t) ∧
    ∀ od' i' k', IsI w od' (({ n with inum := i', num := k' } : NP).fs kl t) → ProtosL w vs ts L (A ++ (x, instObj 94 n.dx) :: (n.dx, od') :: B) := by
  refine ProtosL.rec (motive_1 := fun _ _ _ _ _ => True) (motive_2 := fun vs ts L H _ => ∀ {i : Nat} {v : Value}, vs[i]? = some v → ∃ (x : Addr) (n : NP) (kl : Addr) (t : Told) (A B : Led), v = .ref x ∧ H = A ++ (x, instObj 94 n.dx) :: (n.dx, n.od) :: B ∧ IsI w n.od (n.fs kl t) ∧
    ∀ od' i' k', IsI w od' (({ n with inum := i', num := k' } : NP).fs kl t) → ProtosL w vs ts L (A ++ (x, instObj 94 n.dx) :: (n.dx, od') :: B)) (fun _ _ _ _ => trivial) (fun e => nomatch e) ?_ P
  intro v t L Ls H Hs vs ts p r _ ih i u e
  cases i with
  | zero =>
    cases e
    cases p with
    | @mk x kl n t kvs kids m Ls Hk ok S k =>
      refine ⟨x, n, kl, t, [], (n.ac, lst n.vc n.mc) :: (n.ak, lst n.vk n.mk_) :: (n.al, lst n.vl n.ml) :: (n.av, lst n.vv n.mv) :: (n.au, lst n.vu n.mu) :: n.Hv ++ (kl, lst kvs m) :: Hk ++ Hs, rfl, by simp [NP.led], ok.fs, fun od' i' k' I => ?_⟩
      have := ProtosL.cons (ProtoL.mk (w := w) (x := x) (kl := kl) (n := { n with od := od', inum := i', num := k' }) (m := m) ⟨I, ok.code, ok.consts, ok.lines, ok.locals, ok.ups⟩ S k) r
      simpa [NP.led] using this
  | succ i =>
    obtain ⟨x, n, kl, t, A, B, h1, h2, h3, h4⟩ := ih e
    refine ⟨x, n, kl, t, H ++ A, B, h1, by rw [h2, List.append_assoc], h3, fun od' i' k' I => ?_⟩
    rw [List.append_assoc]
    exact .cons p (h4 od' i' k' I)
/-- the numbers of the functions within -/
theorem ProtosL.nums {w : World} {vs ts L H} (P : ProtosL w vs ts L H) : ∃ ns : List Int, ns.length = vs.length ∧ ∀ (i : Nat) (v : Value), vs[i]? = some v → ∃ (x : Addr) (n : NP) (kl : Addr) (t : Told), v = .ref x ∧ (x, instObj 94 n.dx) ∈ H ∧ (n.dx, n.od) ∈ H ∧ IsI w n.od (n.fs kl t) ∧ ns[i]? = some n.inum := by
  refine ProtosL.rec (motive_1 := fun _ _ _ _ _ => True) (motive_2 := fun vs ts L H _ => ∃ ns : List Int, ns.length = vs.length ∧ ∀ (i : Nat) (v : Value), vs[i]? = some v → ∃ (x : Addr) (n : NP) (kl : Addr) (t : Told), v = .ref x ∧ (x, instObj 94 n.dx) ∈ H ∧ (n.dx, n.od) ∈ H ∧ IsI w n.od (n.fs kl t) ∧ ns[i]? = some n.inum) (fun _ _ _ _ => trivial) ⟨[], rfl, fun i v e => nomatch e⟩ ?_ P
  intro v t L Ls H Hs vs ts p r _ ⟨ns, h1, h2⟩
  cases p with
  | @mk x kl n t kvs kids m Ls Hk ok S k =>
  refine ⟨n.inum :: ns, congrArg Nat.succ h1, fun i v e => ?_⟩
  cases i with
  | zero =>
    cases e
    exact ⟨x, n, kl, t, rfl, .head _, .tail _ (.head _), ok.fs, rfl⟩
  | succ i =>
    obtain ⟨x', n', kl', t', g1, g2, g3, g4, g5⟩ := h2 i v e
    exact ⟨x', n', kl', t', g1, List.mem_append_right _ g2, List.mem_append_right _ g3, g4, g5⟩
/-- one node taken out, and laid back turned -/
noncomputable def Back (w : World) (v : Value) (T : Tree) (L : List Value) (i : Nat) (u : Value) (U : Tree) (Lu : List Value) (R : Led) : Prop :=
  ∀ U' Lu' Hu', ProtoL w u U' Lu' Hu' → Lu'.length ≤ Lu.length → ∃ T' L' H', ProtoL w v T' L' H' ∧ H'.Perm (Hu' ++ R) ∧ (pre T')[i]? = some U' ∧ L'.length ≤ L.length ∧ ((pre U').map headT = (pre U).map headT → (pre T').map headT = (pre T).map headT) ∧ (U' = U → Lu' = Lu → T' = T ∧ L' = L)
theorem perm_mid {α : Type} {A B Hu R : List α} (h : A.Perm (Hu ++ R)) : (B ++ A).Perm (Hu ++ (B ++ R)) := by
  refine (h.append_left _).trans ?_
  rw [← List.append_assoc, ← List.append_assoc]
  exact List.perm_append_comm.append_right _
noncomputable def Backs (w : World) (vs : List Value) (ts : List Tree) (L : List Value) (i : Nat) (u : Value) (U : Tree) (Lu : List Value) (R : Led) : Prop :=
  ∀ U' Lu' Hu', ProtoL w u U' Lu' Hu' → Lu'.length ≤ Lu.length → ∃ ts' L' H', ProtosL w vs ts' L' H' ∧ H'.Perm (Hu' ++ R) ∧ (pres ts')[i]? = some U' ∧ L'.length ≤ L.length ∧ ((pre U').map headT = (pre U).map headT → (pres ts').map headT = (pres ts).map headT) ∧ ts'.length = ts.length ∧ (U' = U → Lu' = Lu → ts' = ts ∧ L' = L)
theorem ProtoL.nth {w : World} {v T L H} (P : ProtoL w v T L H) : ∀ {i : Nat} {u : Value}, L[i]? = some u → ∃ U Lu Hu R, (pre T)[i]? = some U ∧ ProtoL w u U Lu Hu ∧ H.Perm (Hu ++ R) ∧ Lu.length ≤ L.length ∧ Back w v T L i u U Lu R := by
  refine ProtoL.rec (motive_1 := fun v T L H _ => ∀ {i : Nat} {u : Value}, L[i]? = some u → ∃ U Lu Hu R, (pre T)[i]? = some U ∧ ProtoL w u U Lu Hu ∧ H.Perm (Hu ++ R) ∧ Lu.length ≤ L.length ∧ Back w v T L i u U Lu R)
    (motive_2 := fun vs ts L H _ => ∀ {i : Nat} {u : Value}, L[i]? = some u → ∃ U Lu Hu R, (pres ts)[i]? = some U ∧ ProtoL w u U Lu Hu ∧ H.Perm (Hu ++ R) ∧ Lu.length ≤ L.length ∧ Backs w vs ts L i u U Lu R) ?_ (fun e => nomatch e) ?_ P
  · intro x kl n t kvs kids m Ls Hk N S k ih i u e
    cases i with
    | zero =>
      cases e
      refine ⟨.node t kids, _, _, [], by rw [pre]; rfl, .mk (m := m) N S k, by rw [List.append_nil], Nat.le_refl _, fun U' Lu' Hu' P hl => ⟨U', Lu', Hu', P, by rw [List.append_nil], ?_, hl, id, fun a b => ⟨a, b⟩⟩⟩
      cases P; rw [pre]; rfl
    | succ i =>
      obtain ⟨U, Lu, Hu, R, h1, h2, h3, h4, h5⟩ := ih (i := i) (u := u) e
      have pm : ∀ {X Y : Led}, X.Perm (Y ++ R) → (n.led x ++ (kl, lst kvs m) :: X).Perm (Y ++ (n.led x ++ (kl, lst kvs m) :: R)) := fun {X Y} h => by
        have := perm_mid (B := n.led x ++ [(kl, lst kvs m)]) h
        rwa [List.append_assoc, List.append_assoc] at this
      refine ⟨U, Lu, Hu, n.led x ++ (kl, lst kvs m) :: R, by rw [pre]; exact h1, h2, pm h3, Nat.le_succ_of_le h4, fun U' Lu' Hu' P hl => ?_⟩
      obtain ⟨ts', L', H', g1, g2, g3, g4, g5, g6, g7⟩ := h5 U' Lu' Hu' P hl
      refine ⟨.node t ts', .ref x :: L', n.led x ++ (kl, lst kvs m) :: H', .mk N S g1, pm g2, by rw [pre]; exact g3, Nat.succ_le_succ g4, fun q => ?_, fun a b => ?_⟩
      · rw [pre, pre, List.map_cons, List.map_cons, g5 q]
        show headOf t ts'.length :: _ = headOf t kids.length :: _
        rw [g6]
      · obtain ⟨rfl, rfl⟩ := g7 a b
        exact ⟨rfl, rfl⟩
  · intro v t L Ls H Hs vs ts p r ih1 ih2 i u e
    have lp : L.length = (pre t).length := by rw [pre_length]; exact p.length
    rcases Nat.lt_or_ge i L.length with hi | hi
    · rw [List.getElem?_append_left hi] at e
      obtain ⟨U, Lu, Hu, R, h1, h2, h3, h4, h5⟩ := ih1 e
      refine ⟨U, Lu, Hu, R ++ Hs, by rw [pres, List.getElem?_append_left (lp ▸ hi)]; exact h1, h2, by rw [← List.append_assoc]; exact h3.append_right _, by rw [List.length_append]; exact Nat.le_trans h4 (Nat.le_add_right _ _), fun U' Lu' Hu' P hl => ?_⟩
      obtain ⟨T', L', H', g1, g2, g3, g4, g5, g6⟩ := h5 U' Lu' Hu' P hl
      have hlt : i < (pre T').length := by
        rcases Nat.lt_or_ge i (pre T').length with q | q
        · exact q
        · rw [List.getElem?_eq_none q] at g3; cases g3
      refine ⟨T' :: ts, L' ++ Ls, H' ++ Hs, .cons g1 r, by rw [← List.append_assoc]; exact g2.append_right _, by rw [pres, List.getElem?_append_left hlt]; exact g3, by rw [List.length_append, List.length_append]; exact Nat.add_le_add_right g4 _, fun q => ?_, rfl, fun a b => ?_⟩
      · rw [pres, pres, List.map_append, List.map_append, g5 q]
      · obtain ⟨rfl, rfl⟩ := g6 a b; exact ⟨rfl, rfl⟩
    · rw [List.getElem?_append_right hi] at e
      obtain ⟨U, Lu, Hu, R, h1, h2, h3, h4, h5⟩ := ih2 e
      refine ⟨U, Lu, Hu, H ++ R, by rw [pres, List.getElem?_append_right (lp ▸ hi), ← lp]; exact h1, h2, perm_mid h3, by rw [List.length_append]; exact Nat.le_trans h4 (Nat.le_add_left _ _), fun U' Lu' Hu' P hl => ?_⟩
      obtain ⟨ts', L', H', g1, g2, g3, g4, g5, g6, g7⟩ := h5 U' Lu' Hu' P hl
      refine ⟨t :: ts', L ++ L', H ++ H', .cons p g1, perm_mid g2, by rw [pres, List.getElem?_append_right (lp ▸ hi), ← lp]; exact g3, by rw [List.length_append, List.length_append]; exact Nat.add_le_add_left g4 _, fun q => ?_, congrArg Nat.succ g6, fun a b => ?_⟩
      · rw [pres, pres, List.map_append, List.map_append, g5 q]
      · obtain ⟨rfl, rfl⟩ := g7 a b; exact ⟨rfl, rfl⟩
theorem Kn.at {G : Addr → Option Obj} {H : Led} {a : Addr} {o : Obj} (h : Kn G H) (m : (a, o) ∈ H) : G a = some o := h _ m
theorem node_make {w : World} {G : Addr → Option Obj} {x dx : Addr} {od : Obj} {ac ak al av au kl : Addr} {vc vk vl vv vu kvs : List Value} {mc mk_ ml mv mu m : Nat} {inum : Int} {num : Tok} {mark size : Value} {src ld ll uc pc va ms : Tok} {Hv : Led} (t : Told)
    (fs : IsI w od [("number", .int inum num), ("mark", mark), ("size", size), ("code", .ref ac), ("constants", .ref ak), ("protos", .ref kl), ("line_info", .ref al), ("locals", .ref av), ("upvalue_names", .ref au),
      ("source", .bytes t.source src), ("line_defined", .int t.ld ld), ("last_line", .int t.ll ll), ("upvalue_count", .int t.uc uc), ("param_count", .int t.pc pc), ("is_vararg", .int t.va va), ("max_stack", .int t.ms ms)])
    (hx : G x = some (instObj 94 dx)) (hdx : G dx = some od) (hc : G ac = some (lst vc mc)) (hk : G ak = some (lst vk mk_)) (hl : G al = some (lst vl ml)) (hv : G av = some (lst vv mv)) (hu : G au = some (lst vu mu)) (hp : G kl = some (lst kvs m)) (hHv : Kn G Hv)
    (code : IntsAre vc t.code) (consts : Atoms vk t.consts) (lines : IntsAre vl t.lines) (locals : LvsR w vv t.locals Hv) (ups : Atoms vu (t.ups.map .bytes)) :
    NodeG G w x ⟨dx, od, ac, ak, al, av, au, vc, vk, vl, vv, vu, mc, mk_, ml, mv, mu, inum, num, mark, size, src, ld, ll, uc, pc, va, ms, Hv⟩ kl t kvs m :=
  ⟨hx, hdx, fs, hc, hk, hl, hv, hu, hp, hHv, np_make fs code consts lines locals ups⟩
theorem SubLed.perm {H H' : Led} (h : H.Perm H') : SubLed H' H := ⟨[], by simpa using h⟩
theorem SubLed.trans {A B C : Led} (h : SubLed A B) (h' : SubLed B C) : SubLed A C := by
  obtain ⟨R, e⟩ := h
  obtain ⟨R', e'⟩ := h'
  exact ⟨R ++ R', by rw [← List.append_assoc]; exact e'.trans (e.append_right _)⟩
theorem SubLed.app {A B A' B' : Led} (h : SubLed A B) (h' : SubLed A' B') : SubLed (A ++ A') (B ++ B') := by
  obtain ⟨R, e⟩ := h
  obtain ⟨R', e'⟩ := h'
  refine ⟨R ++ R', (e.append e').trans ?_⟩
  simp only [List.append_assoc]
  refine List.Perm.append_left A ?_
  rw [← List.append_assoc, ← List.append_assoc]
  exact List.perm_append_comm.append_right _
end

-- F15
section
open PySem PySem.W PyProof.Rows PySem.Calls PySem.Spec
section
variable {w : World} {G : Addr → Option Obj} {bx : Option (Addr × Addr)}
noncomputable def menu : List AT := [.none, .bool false, .bool true, .int 0, .int 1, .bytes #[], .bytes #[107]]
structure Told.Good (t : Told) : Prop where
  code : 1 ≤ t.code.length ∧ t.code.length ≤ 10
  consts : t.consts.length ≤ 10
  lines : t.lines.length ≤ 10
  locals : t.locals.length ≤ 10
  ups : t.ups.length ≤ 10
  menu : ∀ d ∈ t.consts, d ∈ menu
  asc : t.locals.Pairwise fun a b => a.st ≤ b.st
  source : t.source = #[61, 115]
noncomputable def toldOf : Tree → Told
  | .node t _ => t
set_option maxHeartbeats 8000000 in
theorem c_copy_right {v : Value} {T : Tree} {L : List Value} {H : Led} (P : ProtoL w v T L H) (hz : L.length ≤ 10) (g : (toldOf T).Good) :
    CJ w G bx 6 (.ref 221) [v] H fun r H' => r = .bool true ∧ ProtoL w v T L H' := by
  cases P with
  | @mk x kl n t kvs kids m Ls Hk nok S k =>
  refine CJ_def (binds := [(Str.ofString "made", .ref x)]) (by k_is) (by k_is) (by rfl) (by exact locs rfl) (by rfl) ?_ (by decide)
  intro c hG hbx ok
  subst hG hbx
  refine J_lose ?_
  have g : t.Good := g
  obtain ⟨z1, z2, z3, z4, z5, -, -, -⟩ := g
  have kl1 := k.len
  have kl2 := k.length
  have kl3 := tsizes_le kids
  simp only [List.length_cons] at hz
  refine J_fix ok (A := n.led x ++ [(kl, lst kvs m)]) (by walk_at "JSplit") fun G₁ g1 kn ok₁ => ?_
  have N : NodeG G₁ w x n kl t kvs m := NodeG.of (Hk := []) nok kn
  have nx := N.x
  have ndx := N.dx
  have nfs := N.fs
  have np := N.p
  walk_at "w"
  refine J_callS ok₁ (A := []) .nil (fun G₂ g2 _ => c_copy_proto (N.up g2) S (by omega)) ?_
  rintro _ _ ⟨y, n', kl', m', rfl, nok', rfl⟩ -
  have nfs' := nok'.fs
  walk_at "w"
  refine J_callR ok₁ (fun G₂ g2 _ => (c_proto_size (N.up g2) S (by omega)).room (by decide)) fun r1 q1 => ?_
  cases q1 with
  | int _ ts =>
  walk_at "w"
  refine J_callR ok₁ (fun G₂ g2 kn2 => (c_equal_protos (PG.mk (NodeG.of (Hk := []) nok' kn2.left) S (ProtosL.pg k kn2.right)) (PG.mk (N.up g2) S (ProtosL.pg k kn2.right)) (by simp; omega) (by simp; omega)).room (by decide)) fun r2 q2 => ?_
  subst q2
  walk_at "w"
  refine J_ite (fun h => absurd h (by simp)) fun _ => ?_
  walk_at "w"
  refine J_callR ok₁ (fun G₂ g2 kn2 => (c_proto_size (NodeG.of (Hk := []) nok' kn2.left) S (by omega)).room (by decide)) fun r2 q2 => ?_
  walk_at "w"
  refine J_neAtom q2 (.int _ _) rfl ?_
  walk_at "w"
  refine J_ite (fun h => absurd h (by simp)) fun _ => ?_
  walk_at "w"
  refine J_fix ok₁ (A := n'.led y ++ [(kl', lst kvs m')]) (by walk_at "JSplit") fun G₂ g2 kn2 ok₂ => ?_
  have N2 : NodeG G₂ w y n' kl' t kvs m' := NodeG.of (Hk := []) nok' kn2
  have nx2 := N2.x
  have ndx2 := N2.dx
  have np2 := N2.p
  refine J_ForW ?_
  walk_at "w"
  refine ⟨_, _, _, fun i l H => ∃ Hk', ProtosL w kvs kids Ls Hk' ∧ l = [(Str.ofString "made", .ref x), (Str.ofString "size", .int (16 + t.code.length + t.consts.length + kvs.length + t.lines.length + 3 * t.locals.length + t.ups.length) ts), (Str.ofString "fresh", .ref y)] ∧ H = Hk', Source.list ok₂.hd np2, ⟨_, _, by walk_at "JHas", .refl, Hk, k, rfl, rfl⟩, ?_, ?_⟩
  · rintro i v K l₃ H₃ hi ⟨hv, rfl⟩ ⟨Hk', k', rfl, rfl⟩ G₃ g3 -
    have ok₃ := ok₂.up g3
    obtain ⟨xi, ni, kli, ti, A, B, rfl, rfl, I, back⟩ := k'.kid hv
    simp only [NP.fs] at I
    walk_at "w"
    exact ⟨_, _, by walk_at "JHas", .refl, _, back _ _ _ (by assumption), rfl, rfl⟩
  · intro l₃ H₃ W ap
    refine Fl_next ?_
    obtain ⟨l', H', hl, hs, Hk', k', rfl, rfl⟩ := W
    refine J_weak hl (hs.app .refl) ?_
    obtain ⟨ns, hns, num⟩ := k'.nums
    refine J_execs_cons (J_If ?_)
    refine J_fix ok₁ (R := []) (Split.one .all) fun G₃ g3 kn3 ok₃ => ?_
    have np3 := g3 _ _ np
    have nx3 := g3 _ _ nx
    have ndx3 := g3 _ _ ndx
    have N2 : NodeG G₃ w y n' kl' t kvs m' := NodeG.of (Hk := []) nok' kn3.right
    have ny3 := N2.x
    have ndy3 := N2.dx
    have npy3 := N2.p
    walk_at "w"
    have inv : ∀ (i : Nat) (ys : List Value) (H : Led), (H = [] ∧ IntsAre ys (ns.take i)) → ys.length ≤ i := by
      rintro i ys H ⟨rfl, f⟩; have := f.length; simp at this; omega
    refine J_ListComp [] [Str.ofString "one"] ok₃.hd ?_
    walk_at "w"
    refine ⟨_, _, _, fun i vals => ∃ u, kvs[i]? = some u ∧ vals = [u], fun i ys H => H = [] ∧ IntsAre ys (ns.take i), by omega, Source.list ok₃.hd np3, ⟨rfl, .nil⟩, inv, ⟨?_, ?_⟩, ?_⟩
    · rintro i x K hi ⟨hx, rfl⟩
      refine ⟨_, ⟨x, hx, rfl⟩, rfl, fun G' C H hG' hK hh => ?_⟩
      walk_at "w"
      exact ⟨rfl, rfl⟩
    · rintro i vals ys H₃ G₄ C hi ⟨u, hx, rfl⟩ ⟨rfl, f⟩ hG₄ hok
      have ok₄ := hok _ ok₃
      obtain ⟨xi, ni, kli, ti, rfl, m1, m2, I, hn⟩ := num _ _ hx
      have m1 := hG₄ _ _ (kn3.left _ m1)
      have m2 := hG₄ _ _ (kn3.left _ m2)
      refine J_tests_nil (if_tt ?_)
      walk_at "w"
      refine ⟨rfl, ?_⟩
      rw [List.take_add_one, hn]
      exact IntsAre.snoc f
    · rintro D₁ ys₁ m₁ H₄ ⟨rfl, f₁⟩
      rw [List.take_of_length_le (by omega)] at f₁
      refine J_fix ok₃ (R := []) (A := [(D₁, lst ys₁ m₁)]) (by walk_at "JSplit") fun G₄ g4 kn4 ok₄ => ?_
      have npy4 := g4 _ _ npy3
      have ny4 := g4 _ _ ny3
      have ndy4 := g4 _ _ ndy3
      have hD := kn4.head
      refine J_ListComp [] [Str.ofString "one"] ok₄.hd ?_
      walk_at "w"
      refine ⟨_, _, _, fun i vals => ∃ u, kvs[i]? = some u ∧ vals = [u], fun i ys H => H = [] ∧ IntsAre ys (ns.take i), by omega, Source.list ok₄.hd npy4, ⟨rfl, .nil⟩, inv, ⟨?_, ?_⟩, ?_⟩
      · rintro i x K hi ⟨hx, rfl⟩
        refine ⟨_, ⟨x, hx, rfl⟩, rfl, fun G' C H hG' hK hh => ?_⟩
        walk_at "w"
        exact ⟨rfl, rfl⟩
      · rintro i vals ys H₃ G₅ C hi ⟨u, hx, rfl⟩ ⟨rfl, f⟩ hG₅ hok
        have ok₅ := hok _ ok₄
        obtain ⟨xi, ni, kli, ti, rfl, m1, m2, I, hn⟩ := num _ _ hx
        have m1 := hG₅ _ _ (g4 _ _ (kn3.left _ m1))
        have m2 := hG₅ _ _ (g4 _ _ (kn3.left _ m2))
        refine J_tests_nil (if_tt ?_)
        walk_at "w"
        refine ⟨rfl, ?_⟩
        rw [List.take_add_one, hn]
        exact IntsAre.snoc f
      · rintro D₂ ys₂ m₂ H₄ ⟨rfl, f₂⟩ ap2
        rw [List.take_of_length_le (by omega)] at f₂
        have hnl : ns.length ≤ 100 := by omega
        refine J_neLists ok₃ (by walk_at "JRoom") (by walk_at "JRoom") (Atoms.ints.mpr f₁) (Atoms.ints.mpr f₂) sameKinds_ints ?_
        walk_at "w"
        intro ap3
        refine J_ite (fun h => absurd h (by simp)) fun _ => ?_
        walk_at "w"
        refine J_led (H' := n'.led y ++ ((kl', lst kvs m') :: H')) (by walk_at "JSub") ?_
        clear ap3 ap2 ap kn3 kn4 kn2
        have e1 := nok'.code.length
        have e2 := nok'.consts.length
        have e3 := nok'.lines.length
        have e4 := nok'.locals.length
        have e5 := nok'.ups.length
        simp only [List.length_map] at e5
        simp only [NP.fs] at nfs'
        simp only [NP.led, List.cons_append]
        walk_at "w"
        rename_i x2 dx2 od2 I2 _ _
        have LV := LvsR.snoc (y := x2) (dy := dx2) (s := ⟨#[110], 0, 1⟩) nok'.locals I2
        generalize hHv : n'.Hv ++ [(x2, instObj 52 dx2), (dx2, od2)] = Hv2 at LV
        generalize hvv : n'.vv ++ [Value.ref x2] = vv2 at LV ⊢
        generalize hsp : t.locals ++ [({ name := #[110], st := 0, en := 1 } : Span)] = sp2 at LV
        have hsl : sp2.length = t.locals.length + 1 := by rw [← hsp]; simp
        have hvl := LV.length
        refine J_led (H' := Hv2 ++ ((y, instObj 94 n'.dx) :: (n'.dx, n'.od) :: (n'.ac, lst (n'.vc ++ [_]) _) :: (n'.ak, lst (n'.vk ++ [_]) _) :: (n'.al, lst (n'.vl ++ [_]) _) :: (n'.av, lst vv2 _) :: (n'.au, lst (n'.vu ++ [_]) _) :: (kl', lst kvs m') :: H')) (by rw [← hHv]; simp only [List.append_assoc, List.cons_append, List.nil_append]; walk_at "JSub") ?_
        cases LV with
        | nil => simp at hsl
        | @cons y1 dy1 od1 nm s1 en1 tn1 ts1 te1 vs1 sp1 H1 I1 LV1 =>
        refine J_itemL (by walk_at "JRoom") (by decide) (by decide) (by rfl) ?_
        walk_at "w"
        rename_i od1' I1' px pdx pod _ _ _ _ _ _ _ _ _ _ _ _ _ _ _ _ _ _
        refine J_callR ok₁ (fun G₅ g5 kn5 => (c_proto_size (node_make { t with code := t.code ++ [1], consts := t.consts ++ [.int 1], lines := t.lines ++ [1], locals := ⟨nm, 77, en1⟩ :: sp1, ups := t.ups ++ [#[110]] } nfs' (kn5.at (by walk_at "JMem")) (kn5.at (by walk_at "JMem")) (kn5.at (by walk_at "JMem")) (kn5.at (by walk_at "JMem")) (kn5.at (by walk_at "JMem")) (kn5.at (by walk_at "JMem")) (kn5.at (by walk_at "JMem")) (kn5.at (by walk_at "JMem")) kn5.tail.tail.left
          (IntsAre.snoc nok'.code) (nok'.consts.snoc (.int _ _)) (IntsAre.snoc nok'.lines) (.cons I1' LV1) (by rw [List.map_append]; exact nok'.ups.snoc (.bytes _ _))) ⟨by simp; omega, by simp; omega, by simp; omega, by simp at hsl ⊢; omega, by simp; omega⟩ (by simp; omega)).room (by decide)) fun r3 q3 => ?_
        cases q3 with
        | int _ t3 =>
        walk_at "w"
        rename_i t8
        have eq8 : ∀ a b : Int, a = b → (a == b) = true := fun a b h => by rw [h]; exact beq_self_eq_true b
        rw [eq8 _ _ (by simp at hsl ⊢; omega), if_pos rfl]
        walk_at "w"
        refine J_callR ok₁ (fun G₂ g2 _ => (c_proto_size (N.up g2) S (by omega)).room (by decide)) fun r4 q4 => ?_
        cases q4 with
        | int _ t4 =>
        walk_at "w"
        rw [eq8 _ _ rfl]
        intro ap
        refine ⟨n.led x ++ (kl, lst kvs m) :: H', ?_, rfl, .mk nok S k'⟩
        simp only [NP.led, List.cons_append]
        walk_at "JSub"
end
end

-- J21
section
open PySem PySem.W PyProof.Rows PySem.Calls PySem.Spec PySem.SeqAt
theorem slot_bytes_repr : Slot "bytes" "__repr__" "bytes.__repr__" :=
  .of (owner := "bytes") (n := "__repr__") (by rw [typeLookup_type, builtinLookup_eq_fast]; kernel_rfl) (by decide +kernel) (by decide +kernel) (by decide +kernel)
    (by first | exact .inl (by decide +kernel) | exact .inr (by decide +kernel)) (by rw [isSubtype_type]; kernel_rfl)
theorem entry_bytes_repr : entryFor table "bytes.__repr__" = some Builtin.«bytes.__repr__» := entryFor_of_tree (by kernel_rfl)
theorem args_bytes_repr_1 (a : Value) : argsOk "bytes.__repr__" ⟨[a], []⟩ := by
  unfold argsOk; rw [signature?_of (id := "bytes.__repr__") (n := ['_', '_', 'r', 'p', 'e', 'r', '_', '_']) (o := ['s', 'e', 't', 'y', 'b']) (by kernel_rfl) PySem.W.FB.owner_bytes]; kernel_rfl
noncomputable def reprOf : AT → Str
  | .none => "None"
  | .bool b => if b then "True" else "False"
  | .int i => toString i
  | .bytes b => if b = #[] then "b''" else "b'k'"
theorem gives_bytes_repr (b : Array UInt8) (t : Tok) (h : (Builtin.Bytes.tooLong (4 * b.size + 3 + 0) && Builtin.Bytes.tooLong (Builtin.Bytes.literalLength b false + 0)) = false) : Gives (Builtin.«bytes.__repr__» ⟨[.bytes b t], []⟩) (.str (Builtin.Bytes.literal b)) := by
  show Gives (do let x ← (if (Builtin.Bytes.tooLong (4 * b.size + 3 + 0) && Builtin.Bytes.tooLong (Builtin.Bytes.literalLength b false + 0)) = true then _ else _); retStr x) _
  rw [h]
  exact .of_eq rfl
theorem gives_bytes0 (t : Tok) : Gives (Builtin.«bytes.__repr__» ⟨[.bytes #[] t], []⟩) (.str (reprOf (.bytes #[]))) := by
  have := gives_bytes_repr #[] t (by decide +kernel)
  rwa [show Builtin.Bytes.literal #[] = reprOf (.bytes #[]) by decide +kernel] at this
theorem gives_bytes1 (t : Tok) : Gives (Builtin.«bytes.__repr__» ⟨[.bytes #[107] t], []⟩) (.str (reprOf (.bytes #[107]))) := by
  have := gives_bytes_repr #[107] t (by decide +kernel)
  rwa [show Builtin.Bytes.literal #[107] = reprOf (.bytes #[107]) by decide +kernel] at this
theorem repr_menu : ∀ d ∈ menu, ∀ e ∈ menu, (reprOf d == reprOf e) = decide (d = e) := by decide +kernel
theorem J_repr {w : World} {c : Cx} {l : Loc} {H : Led} {v : Value} {d : AT} {Q : Value → Loc → Led → Prop} (x : AtomV v d) (hd : d ∈ menu) (q : ∀ t, Q (.str (reprOf d) t) l H) : J w c (call (.builtin "repr") [v]) l H Q :=
  .mk fun _ _ s re => by
    simp only [menu, List.mem_cons, List.not_mem_nil, or_false] at hd
    rcases hd with rfl | rfl | rfl | rfl | rfl | rfl | rfl <;> cases x
    · exact P.repr_of_none (re.tok.post (q _))
    · exact P.repr_of_bool (re.tok.post (q _))
    · exact P.repr_of_bool (re.tok.post (q _))
    · exact P.repr_of_int (by decide) (re.tok.post (q _))
    · exact P.repr_of_int (by decide) (re.tok.post (q _))
    · exact call_repr_gives (typeIs_bytes s _ _) slot_bytes_repr entry_bytes_repr (args_bytes_repr_1 _) (gives_bytes0 _) (re.tok.post (q _)) (hx := by decide)
    · exact call_repr_gives (typeIs_bytes s _ _) slot_bytes_repr entry_bytes_repr (args_bytes_repr_1 _) (gives_bytes1 _) (re.tok.post (q _)) (hx := by decide)

inductive PairR : List Value → List (AT × AT) → Led → Prop
  | nil : PairR [] [] []
  | cons {T : Addr} {v u : Value} {d e : AT} {vs : List Value} {ps : List (AT × AT)} {H : Led} : AtomV v d → AtomV u e → PairR vs ps H → PairR (.ref T :: vs) ((d, e) :: ps) ((T, tup [v, u]) :: H)
theorem PairR.length {vs ps H} (h : PairR vs ps H) : vs.length = ps.length := by
  induction h with
  | nil => rfl
  | cons _ _ _ ih => simp [ih]
theorem PairR.get {vs : List Value} {ps : List (AT × AT)} {H : Led} (h : PairR vs ps H) {i : Nat} {v : Value} (e : vs[i]? = some v) : ∃ T a b d e, ps[i]? = some (d, e) ∧ v = .ref T ∧ (T, tup [a, b]) ∈ H ∧ AtomV a d ∧ AtomV b e := by
  induction h generalizing i with
  | nil => cases e
  | cons x y r ih =>
    cases i with
    | zero => cases e; exact ⟨_, _, _, _, _, rfl, rfl, .head _, x, y⟩
    | succ i =>
      obtain ⟨T, a, b, d, f, h1, h2, h3, h4, h5⟩ := ih e
      exact ⟨T, a, b, d, f, h1, h2, .tail _ h3, h4, h5⟩
noncomputable def swaps : List (AT × AT) := [(.none, .bool false), (.bool false, .int 0), (.bool true, .int 1), (.int 0, .bool false), (.int 1, .bool true), (.bytes #[], .none), (.bytes #[107], .bytes #[75])]
noncomputable def swapOf (d : AT) (ps : List (AT × AT)) : List AT := (ps.filter fun p => decide (p.1 = d)).map (·.2)
theorem swap_menu : ∀ d ∈ menu, ∃ e, swapOf d swaps = [e] ∧ e ≠ d := by
  intro d hd
  simp only [menu, List.mem_cons, List.not_mem_nil, or_false] at hd
  rcases hd with rfl | rfl | rfl | rfl | rfl | rfl | rfl <;> exact ⟨_, rfl, by decide⟩
theorem swaps_menu : ∀ p ∈ swaps, p.1 ∈ menu := by decide
theorem swapOf_snoc {d : AT} {ps : List (AT × AT)} {p : AT × AT} : swapOf d (ps ++ [p]) = swapOf d ps ++ if p.1 = d then [p.2] else [] := by
  unfold swapOf
  rw [List.filter_append, List.map_append]
  congr 1
  by_cases h : p.1 = d
  · rw [if_pos h, List.filter_cons_of_pos (by simpa using h)]; rfl
  · rw [if_neg h, List.filter_cons_of_neg (by simpa using h)]; rfl
theorem swapOf_len (d : AT) (ps : List (AT × AT)) : (swapOf d ps).length ≤ ps.length := by
  unfold swapOf; rw [List.length_map]; exact List.length_filter_le _ _

/-- what a turn does to a tree -/
noncomputable def Turned (T U : Tree) (dbg : Bool) : Prop := (dbg = false → headT U ≠ headT T) ∧ (dbg = true → hdT U ≠ hdT T ∧ (pre U).map headT = (pre T).map headT)
theorem turned_head {t t' : Told} {kids kids' : List Tree} (h : headOf t' kids'.length = headOf t kids.length → False) : Turned (.node t kids) (.node t' kids') false :=
  ⟨fun _ e => h e, fun e => by cases e⟩
theorem turned_debug {t t' : Told} {kids : List Tree} (h : debugOf t' = debugOf t → False) (e : ∀ n, headOf t' n = headOf t n) : Turned (.node t kids) (.node t' kids) true :=
  ⟨(fun e => by cases e), fun _ => ⟨fun q => h (congrArg Prod.snd q), by rw [pre, pre, List.map_cons, List.map_cons]; show headOf t' kids.length :: _ = headOf t kids.length :: _; rw [e]⟩⟩
theorem ProtosL.init {w : World} {us ts L H} (P : ProtosL w us ts L H) : ∀ {vs v}, us = vs ++ [v] → ∃ ts' t' L' L'' H' H'', ts = ts' ++ [t'] ∧ L = L' ++ L'' ∧ H = H' ++ H'' ∧ ProtosL w vs ts' L' H' := by
  refine ProtosL.rec (motive_1 := fun _ _ _ _ _ => True) (motive_2 := fun us ts L H _ => ∀ {vs v}, us = vs ++ [v] → ∃ ts' t' L' L'' H' H'', ts = ts' ++ [t'] ∧ L = L' ++ L'' ∧ H = H' ++ H'' ∧ ProtosL w vs ts' L' H') (fun _ _ _ _ => trivial) (fun {vs v} e => by cases vs <;> cases e) ?_ P
  intro v t L Ls H Hs us ts p r _ ih vs u e
  cases vs with
  | nil =>
    cases e
    cases r
    exact ⟨[], t, [], L, [], H, rfl, List.append_nil _, List.append_nil _, .nil⟩
  | cons u vs =>
    obtain ⟨rfl, e2⟩ := List.cons.inj e
    obtain ⟨ts', t', L', L'', H', H'', h1, h2, h3, h⟩ := ih e2
    exact ⟨t :: ts', t', L ++ L', L'', H ++ H', H'', by rw [h1]; rfl, by rw [h2, List.append_assoc], by rw [h3, List.append_assoc], .cons p h⟩
end

-- F16
section
open PySem PySem.W PyProof.Rows PySem.Calls PySem.Spec
section
variable {w : World} {G : Addr → Option Obj} {bx : Option (Addr × Addr)}
noncomputable def swapsLed (T1 T2 T3 T4 T5 T6 T7 : Addr) (k2 k3 k4 k5 k6 k7 k8 : Tok) : Led := [(T1, tup [.none, .bool false]), (T2, tup [.bool false, .int 0 k2]), (T3, tup [.bool true, .int 1 k3]), (T4, tup [.int 0 k4, .bool false]), (T5, tup [.int 1 k5, .bool true]), (T6, tup [.bytes [].toArray k6, .none]), (T7, tup [.bytes [107].toArray k7, .bytes [75].toArray k8])]
theorem swaps_pairs (T1 T2 T3 T4 T5 T6 T7 : Addr) (k2 k3 k4 k5 k6 k7 k8 : Tok) : PairR [.ref T1, .ref T2, .ref T3, .ref T4, .ref T5, .ref T6, .ref T7] swaps (swapsLed T1 T2 T3 T4 T5 T6 T7 k2 k3 k4 k5 k6 k7 k8) :=
  .cons .none (.bool _) (.cons (.bool _) (.int _ _) (.cons (.bool _) (.int _ _) (.cons (.int _ _) (.bool _) (.cons (.int _ _) (.bool _) (.cons (.bytes _ _) .none (.cons (.bytes _ _) (.bytes _ _) .nil))))))
theorem J_cutL {c : Cx} {α : Type} {t : Sem α} {l : Loc} {H : Led} {Q : α → Loc → Led → Prop} (Q' : α → Led → Prop) (x : J w c t l H fun v l' H' => l' = l ∧ Q' v H') (k : ∀ v H', Q' v H' → Q v l H') : J w c t l H Q :=
  x.mono fun v l' H' ⟨e1, q⟩ => by subst e1; exact k v H' q
/-- a test, by what its answer tells -/
theorem J_cutB {c : Cx} {t : Sem Bool} {l : Loc} {H : Led} {Q : Bool → Loc → Led → Prop} (P : Bool → Prop) (x : J w c t l H fun b l' H' => l' = l ∧ SubLed H H' ∧ P b) (k : ∀ b, P b → Q b l H) : J w c t l H Q :=
  J_loseL (x.mono fun b l' H' ⟨e, s, p⟩ => ⟨H, s, by subst e; exact k b p⟩)
set_option maxHeartbeats 16000000 in
theorem c_turned {b ca : Addr} {v : Value} {T : Tree} {L : List Value} {H : Led} {p td ki : Addr} {n' : TD} {kvs' : List Value} {m' : Nat} (P : ProtoL w v T L H) (hz : L.length ≤ 10) (g : (toldOf T).Good) (D : TDG G w p td ki n' (toldOf T) kvs' m') :
    CJ w G (some (b, ca)) 3 (.ref 211) [.ref b, .ref p, v] H fun r H' => ∃ dbg U L', r = .bool dbg ∧ ProtoL w v U L' H' ∧ L'.length ≤ L.length ∧ Turned T U dbg := by
  cases P with
  | @mk x kl n t kvs kids m Ls Hk nok S k =>
  refine CJ_defC (binds := [(Str.ofString "box", .ref b), (Str.ofString "plan", .ref p), (Str.ofString "made", .ref x)]) (lb := [(Str.ofString "box", .ref b), (Str.ofString "plan", .ref p), (Str.ofString "made", .ref x)]) (Str.ofString "value") none (by k_is) (by k_is) (by rfl) (by intro _; rfl) (by walk_at "JdefC") (bindL_lo (by with_unfolding_all rfl) (by rfl)) (by with_unfolding_all rfl) ?_
  intro c hG hbx ok cc oc hca hoc hne
  subst hG hca
  refine J_lose ?_
  have g : t.Good := g
  have D : TDG c.G w p td ki n' t kvs' m' := D
  have S' := S
  obtain ⟨⟨z0, z1⟩, z2, z3, z4, z5, zm, za, zs⟩ := g
  obtain ⟨s1, s2, s3, s4, s5⟩ := S
  obtain ⟨dp, dtd, dfs, dc, dk, dl, dv, du, dHs, di, dok⟩ := D
  have kl1 := k.len
  have kl2 := k.length
  have kl3 := tsizes_le kids
  simp only [List.length_cons] at hz
  have e1 := nok.code.length
  have e2 := nok.consts.length
  have e3 := nok.lines.length
  have e4 := nok.locals.length
  have e5 := nok.ups.length
  have f2 := dok.consts.length
  simp only [List.length_map] at e5
  have nfs := nok.fs
  simp only [NP.fs] at nfs
  simp only [NP.led, List.cons_append]
  walk_at "w"
  refine J_draw (k := 1) ok hbx (by decide) fun f tf h0 h1 => ?_
  walk_at "w"
  refine J_ite (fun _ => ?_) (fun _ => ?_)
  · obtain ⟨u, hu⟩ := nok.code.get 0 (t.code.getD 0 0) (by rw [List.getD_eq_getElem?_getD, List.getElem?_eq_getElem (by omega)]; rfl)
    walk_at "w"
    refine J_itemL (by walk_at "JRoom") (by decide) (by decide) hu ?_
    walk_at "w"
    refine' ⟨_, ?sub, false, .node { t with code := t.code.set 0 (t.code.getD 0 0 + 1) } kids, .ref x :: Ls, rfl, .mk (m := m) (np_make (by assumption) ?cd nok.consts nok.lines nok.locals nok.ups) ⟨by simp; omega, s2, s3, s4, s5⟩ k, Nat.le_refl _, turned_head fun h => ?_⟩
    case sub => simp only [NP.led, List.cons_append]; walk_at "JSub"
    case cd => exact Atoms.ints.mp (by rw [List.map_set]; exact (Atoms.ints.mpr nok.code).set (.int _ _) 0)
    have := congrArg (fun a => a.code[0]?) h
    simp only [headOf] at this
    rw [List.getElem?_set_self (by omega), List.getD_eq_getElem?_getD, List.getElem?_eq_getElem (by omega)] at this
    simp at this
    omega
  walk_at "w"
  refine J_ite (fun _ => ?_) (fun _ => ?_)
  · walk_at "w"
    refine' ⟨_, ?sub, false, .node { t with consts := t.consts ++ [.none] } kids, .ref x :: Ls, rfl, .mk (m := m) (np_make (by assumption) nok.code (nok.consts.snoc .none) nok.lines nok.locals nok.ups) ⟨s1, by simp; omega, s3, s4, s5⟩ k, Nat.le_refl _, turned_head fun h => ?_⟩
    case sub => simp only [NP.led, List.cons_append]; walk_at "JSub"
    have := congrArg Head.consts h
    simp [headOf] at this
  refine J_execs_cons (J_If ?_)
  refine J_cutB (fun b => b = true → n'.vk.length ≠ 0) ?_ fun b hb => ?_
  · walk_at "w"
    refine J_ite (fun _ => ?_) (fun _ => ⟨rfl, .refl, fun h => Bool.noConfusion h⟩)
    walk_at "w"
    refine J_neLen ok (by walk_at "JRoom") (by walk_at "JRoom") rfl ?_
    walk_at "w"
    refine J_ite (fun h => ?_) (fun _ => ⟨rfl, ?_, fun h => Bool.noConfusion h⟩)
    · walk_at "w"
      exact ⟨rfl, by walk_at "JSub", fun _ q => by rw [q] at h; simp at h⟩
    · walk_at "JSub"
  refine J_ite (fun hbt => ?_) (fun _ => ?_)
  · have hc : 1 ≤ t.consts.length := by
      have h2 : n'.vk.length ≠ 0 := hb hbt
      omega
    obtain ⟨v0, hv0, av0⟩ := dok.consts.getD (i := 0) (d := t.consts.getD 0 .none) (by rw [List.getD_eq_getElem?_getD, List.getElem?_eq_getElem (by omega)]; rfl)
    have hm : t.consts.getD 0 .none ∈ menu := zm _ (by rw [List.getD_eq_getElem?_getD, List.getElem?_eq_getElem (by omega)]; exact List.getElem_mem _)
    generalize hd : t.consts.getD 0 .none = d0 at av0 hm
    walk_at "w"
    refine J_itemL (by walk_at "JRoom") (by decide) (by decide) hv0 ?_
    walk_at "w"
    rename_i co hco T1 _ k2 T2 _ k3 T3 _ k4 T4 _ k5 T5 _ k6 T6 _ k7 k8 T7 _ La _
    refine J_cutL (Q' := fun v H' => ∃ D e, v = .ref D ∧ swapOf d0 swaps = [e] ∧ e ≠ d0 ∧ ∃ ve mD, AtomV ve e ∧ H' = (D, lst [ve] mD) :: (c.L + 1, co) :: (x, instObj 94 n.dx) :: (n.dx, n.od) :: (n.ac, lst n.vc n.mc) :: (n.ak, lst n.vk n.mk_) :: (n.al, lst n.vl n.ml) :: (n.av, lst n.vv n.mv) :: (n.au, lst n.vu n.mu) :: (n.Hv ++ (kl, lst kvs m) :: Hk)) ?_ ?_
    · refine J_loseL ?_
      refine J_fix ok (A := (La, lst [.ref T1, .ref T2, .ref T3, .ref T4, .ref T5, .ref T6, .ref T7] 0) :: swapsLed T1 T2 T3 T4 T5 T6 T7 k2 k3 k4 k5 k6 k7 k8) (by unfold swapsLed; walk_at "JSplit") fun G₁ g1 kn ok₁ => ?_
      have PR := swaps_pairs T1 T2 T3 T4 T5 T6 T7 k2 k3 k4 k5 k6 k7 k8
      have knP := kn.tail
      have hLa := kn.head
      refine J_ListCompB [(Str.ofString "value", c.L + 1)] [Str.ofString "one", Str.ofString "other"] ok₁.hd (fun Hb i ys H => H = Hb ∧ Atoms ys (swapOf d0 (swaps.take i))) ?_
      walk_at "w"
      refine ⟨_, _, _, fun i vals => ∃ a b d e, swaps[i]? = some (d, e) ∧ vals = [a, b] ∧ AtomV a d ∧ AtomV b e, by simp, Source.list ok₁.hd hLa, ⟨rfl, .nil⟩, ?_, ⟨?_, ?_⟩, ?_⟩
      · rintro i ys H ⟨rfl, f⟩
        have h1 := f.length
        have h2 := swapOf_len d0 (swaps.take i)
        simp at h2; omega
      · rintro i y K hi ⟨hy, rfl⟩
        obtain ⟨T0, a, b, d, e, hs, rfl, hT, xa, xb⟩ := PairR.get PR hy
        refine ⟨_, ⟨a, b, d, e, hs, rfl, xa, xb⟩, rfl, fun G' C H hG₂ hK hh => ?_⟩
        have hT' := hG₂ _ _ (knP.at hT)
        refine J_names2 hh (.inr hT') rfl rfl ?_
        walk_at "w"
        exact ⟨rfl, rfl⟩
      · rintro i vals ys H₃ G₃ C hi ⟨a, b', d, e, hs, rfl, xa, xb⟩ ⟨rfl, f⟩ hG₃ hok
        have ok3 := hok _ ok₁
        have etake : swaps.take (i + 1) = swaps.take i ++ [(d, e)] := by rw [List.take_add_one, hs]; rfl
        have hdm : d ∈ menu := swaps_menu _ (List.mem_of_getElem? hs)
        refine J_tests_one ?_
        walk_at "w"
        refine J_repr xa hdm fun t1 => ?_
        walk_at "w"
        refine J_repr av0 hm fun t2 => ?_
        walk_at "w"
        rw [repr_menu _ hdm _ hm]
        by_cases h2 : d = d0
        · rw [decide_eq_true h2, if_pos rfl]
          walk_at "w"
          refine ⟨rfl, ?_⟩
          rw [etake, swapOf_snoc, if_pos h2]
          exact f.snoc xb
        · rw [decide_eq_false h2, if_neg (by simp)]
          refine ⟨rfl, ?_⟩
          rw [etake, swapOf_snoc, if_neg h2, List.append_nil]
          exact f
      · rintro D ys mD H₃ ⟨rfl, f⟩ ap
        rw [List.take_of_length_le (by simp [swaps])] at f
        obtain ⟨e, he, hne⟩ := swap_menu d0 hm
        rw [he] at f
        cases f with
        | cons xe r =>
        cases r
        refine ⟨_, ?_, rfl, D, e, rfl, he, hne, _, mD, xe, rfl⟩
        walk_at "JSub"
    · rintro _ _ ⟨D, e, rfl, he, hne, ve, mD, xe, rfl⟩
      walk_at "w"
      refine' ⟨_, ?sub, false, .node { t with consts := t.consts.set 0 e } kids, .ref x :: Ls, rfl, .mk (m := m) (np_make (by assumption) nok.code ?cd nok.lines nok.locals nok.ups) ⟨s1, by simp; omega, s3, s4, s5⟩ k, Nat.le_refl _, turned_head fun h => ?_⟩
      case sub => simp only [NP.led, List.cons_append]; walk_at "JSub"
      case cd => exact nok.consts.set xe 0
      have := congrArg (fun a => a.consts[0]?) h
      simp only [headOf] at this
      rw [List.getElem?_set_self (by omega), List.getElem?_eq_getElem (by omega)] at this
      rw [List.getD_eq_getElem?_getD, List.getElem?_eq_getElem (by omega)] at hd
      simp at this hd
      exact hne (this.trans hd)
  walk_at "w"
  refine J_ite (fun _ => ?_) (fun _ => ?_)
  · walk_at "w"
    refine' ⟨_, ?sub, false, .node { t with ld := t.ld + 1 } kids, .ref x :: Ls, rfl, .mk (m := m) (np_make (by assumption) nok.code nok.consts nok.lines nok.locals nok.ups) ⟨s1, s2, s3, s4, s5⟩ k, Nat.le_refl _, turned_head fun h => ?_⟩
    case sub => simp only [NP.led, List.cons_append]; walk_at "JSub"
    have := congrArg Head.ld h
    simp only [headOf] at this
    omega
  walk_at "w"
  refine J_ite (fun _ => ?_) (fun _ => ?_)
  · walk_at "w"
    refine' ⟨_, ?sub, false, .node { t with ll := t.ll + 1 } kids, .ref x :: Ls, rfl, .mk (m := m) (np_make (by assumption) nok.code nok.consts nok.lines nok.locals nok.ups) ⟨s1, s2, s3, s4, s5⟩ k, Nat.le_refl _, turned_head fun h => ?_⟩
    case sub => simp only [NP.led, List.cons_append]; walk_at "JSub"
    have := congrArg Head.ll h
    simp only [headOf] at this
    omega
  walk_at "w"
  refine J_ite (fun _ => ?_) (fun _ => ?_)
  · walk_at "w"
    refine' ⟨_, ?sub, false, .node { t with uc := t.uc + 1 } kids, .ref x :: Ls, rfl, .mk (m := m) (np_make (by assumption) nok.code nok.consts nok.lines nok.locals nok.ups) ⟨s1, s2, s3, s4, s5⟩ k, Nat.le_refl _, turned_head fun h => ?_⟩
    case sub => simp only [NP.led, List.cons_append]; walk_at "JSub"
    have := congrArg Head.uc h
    simp only [headOf] at this
    omega
  walk_at "w"
  refine J_ite (fun _ => ?_) (fun _ => ?_)
  · walk_at "w"
    refine' ⟨_, ?sub, false, .node { t with pc := t.pc + 1 } kids, .ref x :: Ls, rfl, .mk (m := m) (np_make (by assumption) nok.code nok.consts nok.lines nok.locals nok.ups) ⟨s1, s2, s3, s4, s5⟩ k, Nat.le_refl _, turned_head fun h => ?_⟩
    case sub => simp only [NP.led, List.cons_append]; walk_at "JSub"
    have := congrArg Head.pc h
    simp only [headOf] at this
    omega
  walk_at "w"
  refine J_ite (fun _ => ?_) (fun _ => ?_)
  · walk_at "w"
    refine' ⟨_, ?sub, false, .node { t with va := t.va + 1 } kids, .ref x :: Ls, rfl, .mk (m := m) (np_make (by assumption) nok.code nok.consts nok.lines nok.locals nok.ups) ⟨s1, s2, s3, s4, s5⟩ k, Nat.le_refl _, turned_head fun h => ?_⟩
    case sub => simp only [NP.led, List.cons_append]; walk_at "JSub"
    have := congrArg Head.va h
    simp only [headOf] at this
    omega
  refine J_execs_cons (J_If ?_)
  refine J_cutB (fun b => b = true → kvs.length ≠ 0) ?_ fun b hb => ?_
  · walk_at "w"
    refine J_ite (fun _ => ?_) (fun _ => ⟨rfl, .refl, fun h => Bool.noConfusion h⟩)
    walk_at "w"
    refine J_neLen ok (by walk_at "JRoom") (by walk_at "JRoom") rfl ?_
    walk_at "w"
    refine J_ite (fun h => ?_) (fun _ => ⟨rfl, ?_, fun h => Bool.noConfusion h⟩)
    · walk_at "w"
      exact ⟨rfl, by walk_at "JSub", fun _ q => by rw [q] at h; simp at h⟩
    · walk_at "JSub"
  refine J_ite (fun hbt => ?_) (fun _ => ?_)
  · have h := hb hbt
    rcases List.eq_nil_or_concat kvs with rfl | ⟨kvs1, kv, hkv⟩
    · simp at h
    have hkv : kvs = kvs1 ++ [kv] := by simpa using hkv
    subst hkv
    obtain ⟨ts', t', L', L'', H', H'', rfl, rfl, rfl, k'⟩ := k.init (vs := kvs1) (v := kv) (by simp)
    simp only [List.length_append, List.length_cons, List.length_nil] at kl1 kl2 kl3 hz
    walk_at "w"
    refine J_pop (by walk_at "JAtF") (by omega) ?_
    walk_at "w"
    refine' ⟨_, ?sub, false, .node t ts', .ref x :: L', rfl, .mk (m := m + 1) (np_make (by assumption) nok.code nok.consts nok.lines nok.locals nok.ups) ⟨s1, s2, s3, s4, s5⟩ k', by simp, turned_head fun h => ?_⟩
    case sub => simp only [NP.led, List.cons_append]; walk_at "JSub"
    have := congrArg Head.n h
    simp [headOf] at this
  walk_at "w"
  refine J_ite (fun _ => ?_) (fun _ => ?_)
  · walk_at "w"
    refine' ⟨_, ?sub, true, .node { t with lines := t.lines ++ [1] } kids, .ref x :: Ls, rfl, .mk (m := m) (np_make (by assumption) nok.code nok.consts (IntsAre.snoc nok.lines) nok.locals nok.ups) ⟨s1, s2, by simp; omega, s4, s5⟩ k, Nat.le_refl _, turned_debug (fun h => ?_) fun _ => rfl⟩
    case sub => simp only [NP.led, List.cons_append]; walk_at "JSub"
    have := congrArg Debug.lines h
    simp [debugOf] at this
  walk_at "w"
  refine J_ite (fun _ => ?_) (fun _ => ?_)
  · walk_at "w"
    refine' ⟨_, ?sub, true, .node { t with ups := t.ups ++ [#[117]] } kids, .ref x :: Ls, rfl, .mk (m := m) (np_make (by assumption) nok.code nok.consts nok.lines nok.locals ?cd) ⟨s1, s2, s3, s4, by simp; omega⟩ k, Nat.le_refl _, turned_debug (fun h => ?_) fun _ => rfl⟩
    case sub => simp only [NP.led, List.cons_append]; walk_at "JSub"
    case cd => rw [List.map_append]; exact nok.ups.snoc (.bytes _ _)
    have := congrArg Debug.ups h
    simp [debugOf] at this
  walk_at "w"
  refine J_ite (fun _ => ?_) (fun _ => ?_)
  · walk_at "w"
    refine' ⟨_, ?sub, true, .node { t with source := #[61, 116] } kids, .ref x :: Ls, rfl, .mk (m := m) (np_make (by assumption) nok.code nok.consts nok.lines nok.locals nok.ups) ⟨s1, s2, s3, s4, s5⟩ k, Nat.le_refl _, turned_debug (fun h => ?_) fun _ => rfl⟩
    case sub => simp only [NP.led, List.cons_append]; walk_at "JSub"
    have := congrArg Debug.source h
    simp [debugOf, zs] at this
  refine J_execs_cons (J_If ?_)
  refine J_cutB (fun b => b = true → n.vv.length ≠ 0) ?_ fun b hb => ?_
  · walk_at "w"
    refine J_ite (fun _ => ?_) (fun _ => ⟨rfl, .refl, fun h => Bool.noConfusion h⟩)
    walk_at "w"
    refine J_neLen ok (by walk_at "JRoom") (by walk_at "JRoom") rfl ?_
    walk_at "w"
    refine J_ite (fun h => ?_) (fun _ => ⟨rfl, ?_, fun h => Bool.noConfusion h⟩)
    · walk_at "w"
      exact ⟨rfl, by walk_at "JSub", fun _ q => by rw [q] at h; simp at h⟩
    · walk_at "JSub"
  refine J_ite (fun hbt => ?_) (fun _ => ?_)
  · have h := hb hbt
    have LV := nok.locals
    generalize hHv : n.Hv = Hv2 at LV ⊢
    generalize hvv : n.vv = vv2 at LV h ⊢
    generalize hsp : t.locals = sp2 at LV
    cases LV with
    | nil => simp at h
    | @cons y1 dy1 od1 nm s1' en1 tn1 ts1 te1 vs1 sp1 H1 I1 LV1 =>
    have hz2 := LV1.length
    rw [hsp] at s4
    simp only [List.length_cons] at s4
    walk_at "w"
    refine' ⟨_, ?sub, true, .node { t with locals := ⟨nm, s1', en1 + 1⟩ :: sp1 } kids, .ref x :: Ls, rfl, .mk (m := m) (np_make (by assumption) nok.code nok.consts nok.lines (.cons (by assumption) LV1) nok.ups) ⟨s1, s2, s3, by simp; omega, s5⟩ k, Nat.le_refl _, turned_debug (fun h => ?_) fun _ => rfl⟩
    case sub => simp only [NP.led, List.cons_append]; walk_at "JSub"
    have := congrArg Debug.locals h
    simp [debugOf, hsp] at this
    omega
  walk_at "w"
  refine' ⟨_, ?sub, false, .node { t with ms := t.ms + 1 } kids, .ref x :: Ls, rfl, .mk (m := m) (np_make (by assumption) nok.code nok.consts nok.lines nok.locals nok.ups) ⟨s1, s2, s3, s4, s5⟩ k, Nat.le_refl _, turned_head fun h => ?_⟩
  case sub => simp only [NP.led, List.cons_append]; walk_at "JSub"
  have := congrArg Head.ms h
  simp only [headOf] at this
  omega
end
end

-- J22
section
open PySem PySem.W PyProof.Rows PySem.Calls PySem.Spec PySem.SeqAt
section
variable {w : World} {c : Cx} {l l' : Loc} {H H' H₀ R : Led} {h₀ h' h : Heap} {α β : Type} {t : Sem α} {s : Shared} {a b : Addr} {o o' : Obj} {tk : Nat} {env : Env} {k n : Nat} {fp wr : List Addr} {target : Expr} {P : Nat → Value → Led → Prop}
/-- a list that the ledger holds, handed over to a loop -/
theorem Source.listH {vs : List Value} {m : Nat} (hh : c.A.handled = none) : Source w c target (.ref a) l ((a, lst vs m) :: H) H vs.length (fun i v K => vs[i]? = some v ∧ K = []) := fun s ok S => by
  have z := S.led (a, lst vs m) (.head _)
  have nd := List.nodup_cons.mp S.nd
  have hl := isList_of z.1
  refine wpAny_pyIter_list hl ?_
  have re : Re c ((a, lst vs m) :: H) s.heap l H s := ⟨ok, ⟨S.ns, fun a o e => have z := S.kn a o e; ⟨z.1, z.2.1, fun q => z.2.2 (.tail _ q)⟩, fun p hp => S.led p (.tail _ hp), nd.2, S.bx⟩, Pres.refl, fun a ha => .inl (.tail _ ha)⟩
  have f := S.fresh (Heap.none_size s.heap)
  have ne : a ≠ s.heap.objs.size := Nat.ne_of_lt (Heap.lt_size z.1)
  have W := Walks.list (prog := PR) (w := w) (A := c.A) hh s.heap.objs.size a ne vs.toArray
  have W2 : Trn w c.A target s.heap.objs.size [s.heap.objs.size, a] [s.heap.objs.size] vs.length (fun i v K => vs[i]? = some v ∧ K = []) (fun i h => h.IsListIter s.heap.objs.size a i ∧ h.IsList a vs.toArray) := by
    have := Trn.of (target := target) W (fun i h st b hb => by
      rcases List.mem_cons.mp hb with rfl | hb
      · obtain ⟨o, e, _⟩ := st.1; rw [e]; rfl
      · rw [List.mem_singleton.mp hb]; obtain ⟨o, e, _⟩ := st.2; rw [e]; rfl) (fun i v s Q E st q => letGo_listiter st.1 q)
    rw [List.size_toArray] at this
    refine ⟨this.sub, this.alive, this.frame, fun i s Q E hi st h => this.item i s Q E hi st fun v K h' tk hP => h v K h' tk ?_, this.done, this.self⟩
    exact ⟨by simpa using hP.1, hP.2⟩
  refine ⟨_, _, _, _, rfl, W2, ⟨⟨_, Heap.get?_push_size _ rfl, rfl, rfl⟩, hl.at fun o e => Heap.get?_push_of_some _ e⟩, re.keep fun _ _ e => Heap.get?_push_of_some _ e, ⟨fun b hb => ?_, fun b hb => ?_⟩⟩
  · rcases List.mem_cons.mp hb with rfl | hb
    · exact ⟨fun q => f.2.1 (.tail _ q), f.1⟩
    · rw [List.mem_singleton.mp hb]
      exact ⟨nd.1, z.2⟩
  · rw [List.mem_singleton.mp hb]
    exact ⟨f.2.2, .inr (Heap.none_size _)⟩
end
end

-- F17
section
open PySem PySem.W PyProof.Rows PySem.Calls PySem.Spec
section
variable {w : World} {G : Addr → Option Obj} {bx : Option (Addr × Addr)}
theorem IntsAre.take {vs : List Value} {ns : List Int} (h : IntsAre vs ns) (k : Nat) : IntsAre (vs.take k) (ns.take k) := Atoms.ints.mp (by rw [List.map_take]; exact (Atoms.ints.mpr h).take k)
/-- cut to a length: a list told by its class and its items -/
theorem J_uptoO {c : Cx} {l : Loc} {H : Led} {env : Env} {Q : Value → Loc → Led → Prop} {value u : Expr} {p pos : Pos} (x : J w c (eval value env) l H fun o l₁ H₁ => J w c (eval u env) l₁ H₁ fun v l₂ H₂ => ∃ (a : Addr) (ob : Obj) (vs : List Value) (n i : Nat) (t : Tok), o = .ref a ∧ v = .int (i : Nat) t ∧ ((a, ob) ∈ H₂ ∨ c.G a = some ob) ∧ ob.cls = .type "list" ∧ ob.data = .seq vs.toArray n ∧ vs.length ≤ sizeLine ∧ ∀ b, (∀ p ∈ H₂, p.1 ≠ b) → Q (.ref b) l₂ ((b, lst (vs.take i) 0) :: H₂)) :
    J w c (eval (.Subscript value (.Slice none (some u) none p) pos) env) l H Q :=
  .mk fun _ _ s re => Subscript_ (x.to re fun o s₁ l₁ H₁ re₁ q => wpAny_Slice (by
    rw [evalPart_none, evalPart_some]
    refine wpAny_pure (q.to re₁ fun v s₂ l₂ H₂ re₂ q => ?_)
    obtain ⟨a, ob, vs, n, i, t, rfl, rfl, ma, hc, hd, hz, q⟩ := q
    refine wpAny_pure ?_
    have hl : s₂.heap.IsList a vs.toArray := ⟨ob, re₂.get ma, hc, n, hd⟩
    refine tail_any (Heap.IsList.typeIs (s := { s₂ with heap := s₂.heap.push { cls := .type "slice", data := .fields #[.none, .int i t, .none] } }) (hl.push _)) slot_list_getitem.lookup
      (wpAny_getItem_list_slice (hl.push _) (Heap.IsSliceOf.new ..) .none (.int _ t) .none (by simp) ?_ (by rw [List.size_toArray]; exact hz)) rfl
    rw [slicePick_upto']
    have n1 : s₂.heap.get? (s₂.heap.push { cls := .type "slice", data := .fields #[.none, .int i t, .none] }).objs.size = none := by
      cases e : s₂.heap.get? (s₂.heap.push { cls := .type "slice", data := .fields #[.none, .int i t, .none] }).objs.size with
      | none => rfl
      | some o => have := Heap.lt_size e; rw [Heap.size_push] at this; exact absurd this (Nat.not_lt.mpr (Nat.le_succ _))
    exact (re₂.alloc (fun _ _ e => Heap.get?_push_of_some _ (Heap.get?_push_of_some _ e)) n1 (Heap.get?_push_size _ rfl)).post (q _ fun p hp e => by rw [← e, (re₂.st.led p hp).1] at n1; cases n1)))
set_option maxHeartbeats 4000000 in
theorem c_law_box {a : Addr} {ob : Obj} {vs : List Value} {ns : List Int} {n : Nat} (ha : G a = some ob) (hcl : ob.cls = .type "list") (hda : ob.data = .seq vs.toArray n) (X : IntsAre vs ns) (hz : vs.length ≤ 100) :
    CJ w G bx 1 (.ref 184) [.ref a] [] fun r H' => ∃ b ca bo co, r = .ref b ∧ H' = [(b, bo), (ca, co)] ∧ BoxObj ca bo ∧ CellsObj co := by
  refine CJ_def (binds := [(Str.ofString "script", .ref a)]) (by k_is) (by k_is) (by rfl) (by exact locs rfl) (by rfl) ?_ (by decide)
  intro c hG hbx ok
  subst hG hbx
  refine J_lose ?_
  refine J_execs_cons (J_Assign_ListComp [] [Str.ofString "cell"] ok.hd ?_)
  refine J_uptoO ?_
  walk_at "w"
  rename_i tk
  refine ⟨a, ob, vs, n, 40, tk, rfl, rfl, .inr ha, hcl, hda, Nat.le_trans hz (by decide), fun d hd => ?_⟩
  have hl : (vs.take 40).length ≤ 40 := by simp; omega
  refine ⟨_, _, _, fun i vals => ∃ x t, vals = [.int x t], fun i ys H => H = [] ∧ ys.length = i ∧ ∃ xs, IntsAre ys xs, by omega, Source.listH ok.hd, ⟨rfl, rfl, [], .nil⟩, ?_, ⟨?_, ?_⟩, ?_⟩
  · rintro i ys H ⟨rfl, h, -⟩; omega
  · rintro i x K hi ⟨hx, rfl⟩
    obtain ⟨d, hd, Ax⟩ := (Atoms.ints.mpr (X.take 40)).get hx
    rw [List.getElem?_map] at hd
    cases hq : (ns.take 40)[i]? with
    | none => rw [hq] at hd; cases hd
    | some z =>
      rw [hq] at hd
      cases hd
      cases Ax
      rename_i tz
      refine ⟨[.int z tz], ⟨z, tz, rfl⟩, rfl, fun G' C H hG' hK hh => ?_⟩
      walk_at "w"
      exact ⟨rfl, rfl⟩
  · rintro i vals ys H₃ G' C hi ⟨x, t, rfl⟩ ⟨rfl, hl, xs, f⟩ hG' hok
    have ok' := hok _ ok
    refine J_tests_nil (if_tt ?_)
    walk_at "w"
    refine J_abs fun y t' => ?_
    exact ⟨rfl, by simp [hl], _, IntsAre.snoc f⟩
  · rintro D ys mD H₃ ⟨rfl, hl2, xs, f⟩
    walk_at "w"
    refine J_sum ok.hd (by walk_at "JRoom") f fun ts => ?_
    walk_at "w"
    refine ⟨_, .refl, _, _, _, _, rfl, rfl, ⟨_, _, _, _, _, rfl, by decide⟩, ⟨ys, xs, _, rfl, f, by omega⟩⟩
end
end

-- F18a
section
open PySem PySem.W PyProof.Rows PySem.Calls PySem.Spec
section
variable {w : World} {G : Addr → Option Obj} {bx : Option (Addr × Addr)}
theorem stored_new {fs : Loc} {x : Str} {v : Value} (h : x ∉ fs.map (·.1)) : stored fs x v = fs ++ [(x, v)] := by
  unfold stored
  rw [if_neg]
  intro q
  obtain ⟨p, hp, e⟩ := List.any_eq_true.mp q
  exact h (by have := of_decide_eq_true e; rw [← this]; exact List.mem_map_of_mem hp)
noncomputable def base5 : List Str := [Str.ofString "constants", Str.ofString "code", Str.ofString "locals", Str.ofString "line_info", Str.ofString "upvalue_names"]
noncomputable def tail7 : List Str := [Str.ofString "source", Str.ofString "line_defined", Str.ofString "last_line", Str.ofString "upvalue_count", Str.ofString "param_count", Str.ofString "is_vararg", Str.ofString "max_stack"]
theorem fresh7' : ∀ i : Fin 7, (tail7[i.val]?.map fun x => decide (x ∈ base5 ++ tail7.take i.val)) = some false := by decide +kernel
theorem fresh7 {i : Nat} {x : Str} (h : tail7[i]? = some x) : x ∉ base5 ++ tail7.take i := by
  have hi : i < 7 := by
    rcases Nat.lt_or_ge i 7 with q | q
    · exact q
    · rw [List.getElem?_eq_none (by simpa [tail7] using q)] at h; cases h
  have := fresh7' ⟨i, hi⟩
  simp only [h, Option.map_some, Option.some.injEq] at this
  exact of_decide_eq_false this
inductive StrsR : List Value → List Str → Prop
  | nil : StrsR [] []
  | cons {x : Str} {t : Tok} {vs : List Value} {xs : List Str} : StrsR vs xs → StrsR (.str x t :: vs) (x :: xs)
theorem StrsR.get {vs xs} (h : StrsR vs xs) {i : Nat} {v : Value} (e : vs[i]? = some v) : ∃ x t, xs[i]? = some x ∧ v = .str x t := by
  induction h generalizing i with
  | nil => cases e
  | cons r ih =>
    cases i with
    | zero => cases e; exact ⟨_, _, rfl, rfl⟩
    | succ i => exact ih e
noncomputable def Ext (i : Nat) (es : Loc) : Prop := es.map (·.1) = tail7.take i ∧ ∀ p ∈ es, (p.1 = Str.ofString "source" → ∃ t, p.2 = .bytes #[61, 115] t) ∧ (p.1 ≠ Str.ofString "source" → ∃ k t, p.2 = .int k t)
theorem Ext.full {es : Loc} (h : Ext 7 es) : ∃ a ld b ll c uc d pc e va f ms g, es = [(Str.ofString "source", .bytes #[61, 115] a), (Str.ofString "line_defined", .int ld b), (Str.ofString "last_line", .int ll c), (Str.ofString "upvalue_count", .int uc d), (Str.ofString "param_count", .int pc e), (Str.ofString "is_vararg", .int va f), (Str.ofString "max_stack", .int ms g)] := by
  obtain ⟨h1, h2⟩ := h
  match es, h1, h2 with
  | [(n1, v1), (n2, v2), (n3, v3), (n4, v4), (n5, v5), (n6, v6), (n7, v7)], h1, h2 =>
    simp only [List.map_cons, List.map_nil, tail7, List.take_succ_cons, List.take_zero, List.cons.injEq, and_true] at h1
    obtain ⟨rfl, rfl, rfl, rfl, rfl, rfl, rfl⟩ := h1
    obtain ⟨a, e1⟩ := (h2 _ (.head _)).1 rfl
    obtain ⟨ld, b, e2⟩ := (h2 _ (.tail _ (.head _))).2 (by dsimp only; decide +kernel)
    obtain ⟨ll, c, e3⟩ := (h2 _ (.tail _ (.tail _ (.head _)))).2 (by dsimp only; decide +kernel)
    obtain ⟨uc, d, e4⟩ := (h2 _ (.tail _ (.tail _ (.tail _ (.head _))))).2 (by dsimp only; decide +kernel)
    obtain ⟨pc, e, e5⟩ := (h2 _ (.tail _ (.tail _ (.tail _ (.tail _ (.head _)))))).2 (by dsimp only; decide +kernel)
    obtain ⟨va, f, e6⟩ := (h2 _ (.tail _ (.tail _ (.tail _ (.tail _ (.tail _ (.head _))))))).2 (by dsimp only; decide +kernel)
    obtain ⟨ms, g, e7⟩ := (h2 _ (.tail _ (.tail _ (.tail _ (.tail _ (.tail _ (.tail _ (.head _)))))))).2 (by dsimp only; decide +kernel)
    dsimp only at e1 e2 e3 e4 e5 e6 e7
    subst e1 e2 e3 e4 e5 e6 e7
    exact ⟨a, ld, b, ll, c, uc, d, pc, e, va, f, ms, g, rfl⟩
  | [], h1, _ => simp [tail7] at h1
  | [_], h1, _ => simp [tail7] at h1
  | [_, _], h1, _ => simp [tail7] at h1
  | [_, _, _], h1, _ => simp [tail7] at h1
  | [_, _, _, _], h1, _ => simp [tail7] at h1
  | [_, _, _, _, _], h1, _ => simp [tail7] at h1
  | [_, _, _, _, _, _], h1, _ => simp [tail7] at h1
  | _ :: _ :: _ :: _ :: _ :: _ :: _ :: _ :: _, h1, _ => simp [tail7] at h1
end
end

-- F18
section
open PySem PySem.W PyProof.Rows PySem.Calls PySem.Spec
section
variable {w : World} {G : Addr → Option Obj} {bx : Option (Addr × Addr)}
theorem le3 {n : Nat} {f : Int} (h : n = (f - 0).toNat) (h1 : f < 3) : n ≤ 3 := by omega
theorem c13 {n : Nat} {f : Int} (h : n = (1 + f - 0).toNat) (h0 : 0 ≤ f) (h1 : f < 3) : 1 ≤ n ∧ n ≤ 3 := by omega
theorem l3 {n m k : Nat} (h : n = ((m : Int) - 0).toNat) (h1 : m = k) (h2 : k ≤ 3) : n ≤ 3 := by omega
theorem tle {n : Nat} {rm most : Int} (h : rm + (n : Int) ≤ most - 1) (h0 : 0 ≤ rm) : ((1 + n : Nat) : Int) ≤ most := by omega
theorem rg3 {f : Int} (h0 : 0 ≤ f) (h1 : f < 3) : (f - 0).toNat ≤ 900 ∧ -2 ^ 62 ≤ f ∧ f < 2 ^ 62 := by omega
theorem rg4 {f : Int} (h0 : 0 ≤ f) (h1 : f < 3) : (1 + f - 0).toNat ≤ 900 ∧ -2 ^ 62 ≤ 1 + f ∧ 1 + f < 2 ^ 62 := by omega
theorem rgn {n : Nat} (h : n ≤ 3) : ((n : Int) - 0).toNat ≤ 900 ∧ -2 ^ 62 ≤ (n : Int) ∧ (n : Int) < 2 ^ 62 := by omega
theorem byt {f k : Int} {i : Nat} (h : i < (f - 0).toNat) (h1 : f < 3) (h2 : 0 ≤ k) (h3 : k ≤ 200) : 0 ≤ k + (0 + (i : Int)) ∧ k + (0 + (i : Int)) < 256 := by omega
theorem tdn {rm : Int} {n : Nat} (h : 0 < rm) (h1 : (n : Int) ≤ rm) (h2 : 1 ≤ n) : (rm - (n : Int)).toNat < rm.toNat := by omega
theorem roomN {N a b : Nat} {most rm : Int} (h : most ≤ ((N + 1 : Nat) : Int)) (h1 : N + 1 ≤ 10) (h2 : rm + (a : Int) ≤ most - 1) (h3 : (b : Int) ≤ rm) : b ≤ 10 := by omega
theorem roomK {N a b : Nat} {most rm : Int} (h : most ≤ ((N + 1 : Nat) : Int)) (h1 : N + 1 ≤ 10) (h2 : rm + (a : Int) ≤ most - 1) (h3 : 0 ≤ rm) (h4 : b ≤ a) : b ≤ 100 := by omega
theorem roomM {N a : Nat} {most rm : Int} (h : most ≤ ((N + 1 : Nat) : Int)) (h2 : rm + (a : Int) ≤ most - 1) : rm ≤ (N : Int) := by omega
theorem z99 {f : Int} (h0 : 0 ≤ f) (h1 : f < 2) : (((99 * f).toNat : Nat) : Int) = 99 * f := by omega
theorem le9 {a b : Nat} (h : a = b) (h1 : b ≤ 100) : a ≤ 1000 := by omega
noncomputable def GoodTree (T : Tree) : Prop := ∀ U ∈ pre T, (toldOf U).Good
set_option maxHeartbeats 16000000 in
theorem c_law_plan {b ca : Addr} : ∀ (N : Nat) (G : Addr → Option Obj) (most : Int) (tk : Tok), 1 ≤ most → most ≤ (N : Int) → N ≤ 10 →
    CJ w G (some (b, ca)) (N + 10) (.ref 189) [.ref b, .int most tk] [] fun r H' => ∃ T, PlanR w r T H' ∧ GoodTree T ∧ (tsize T : Int) ≤ most
  | 0, _, most, _, h1, h2, _ => by omega
  | N + 1, G, most, tk, h1, h2, hN => by
    have ih := c_law_plan (b := b) (ca := ca) N
    rw [show N + 1 + 10 = (N + 10) + 1 by omega]
    refine CJ_defC (binds := [(Str.ofString "box", .ref b), (Str.ofString "most", .int most tk)]) (lb := [(Str.ofString "most", .int most tk)]) (Str.ofString "box") (some (.ref b)) (by k_is) (by k_is) (by rfl) (by intro _; rfl) (by walk_at "JdefC") (bindL_lo (by with_unfolding_all rfl) (by rfl)) (by with_unfolding_all rfl) ?_
    intro c hG hbx ok cc oc hca hoc hne
    subst hG hca
    refine J_lose ?_
    refine J_fix ok (A := [(c.L + 1, oc)]) (by walk_at "JSplit") fun G₁ g1 kn ok₁ => ?_
    have hc := kn.head
    walk_at "w"
    refine J_ForW ?_
    walk_at "w"
    refine J_draw (k := N + 9) ok₁ hbx (by decide) fun f tf hf0 hf1 => ?_
    walk_at "w"
    refine J_range1 fun r tr ur vr hr => ?_
    rename_i sa _ _ _
    refine ⟨_, _, _, fun i l H => ∃ vv sp Hs st ts m, SpR vv sp Hs ∧ sp.length = i ∧ (sp.Pairwise fun a b => a.st ≤ b.st) ∧ (∀ s ∈ sp, s.st ≤ st) ∧ l = [(Str.ofString "most", .int most tk), (Str.ofString "start", .int st ts), (Str.ofString "spans", .ref sa)] ∧ H = (sa, lst vv m) :: Hs,
      Source.range ok₁.hd (.inl mem_hd) rfl (by decide) (by decide) (rg3 hf0 hf1).2.1 (rg3 hf0 hf1).2.2 (by intro _ _; rfl), ⟨_, _, by walk_at "JHas", by walk_at "JSub", [], [], [], 0, _, _, .nil, rfl, .nil, by simp, rfl, rfl⟩, ?_, ?_⟩
    · rintro i v K l₃ H₃ hi ⟨ti, rfl, rfl⟩ ⟨vv, sp, Hs, st, ts, m, SP, hsl, hsa, hst, rfl, rfl⟩ G' hG' -
      have ok' := ok₁.up hG'
      have hc' := hG' _ _ hc
      have hvl := SP.length
      walk_at "w"
      refine J_draw (k := N + 9) ok' hbx (by decide) fun d td hd0 hd1 => ?_
      walk_at "w"
      refine J_bytesOf (ns := [97 + (0 + (i : Int))]) ok'.hd (by walk_at "JRoom") (.cons _ _ .nil) (by intro n hn; rw [List.mem_singleton.mp hn]; exact byt hi hf1 (by decide) (by decide)) (by simp) fun tb => ?_
      refine J_addBytes (by simp [byteArr]) fun tb2 => ?_
      walk_at "w"
      refine J_draw (k := N + 9) ok' hbx (by decide) fun e te he0 he1 => ?_
      walk_at "w"
      rename_i tS _ _ _ tc _ _ tE T hT
      have SP' := SP.snoc (T := T) (s := ⟨[118].toArray ++ byteArr [97 + (0 + (i : Int))], st + d, st + d + e⟩) (tn := tb2) (ts := tS) (te := tE)
      refine ⟨_, _, by walk_at "JHas", by walk_at "JSub", _, _, _, st + d, tS, m + 1, SP', by simp [hsl], ?_, ?_, rfl, rfl⟩
      · rw [List.pairwise_append]
        refine ⟨hsa, by simp, fun a ha b hb => ?_⟩
        rw [List.mem_singleton.mp hb]
        have := hst a ha
        show a.st ≤ st + d
        omega
      · intro s hs
        rcases List.mem_append.mp hs with hs | hs
        · have := hst s hs; omega
        · rw [List.mem_singleton.mp hs]; exact Int.le_refl _
    · intro l₃ H₃ W
      refine Fl_next ?_
      refine W.at fun l' H' iv => ?_
      obtain ⟨vv, sp, Hs, st, ts, m, SP, hsl, hsa, hst, rfl, rfl⟩ := iv
      clear W
      refine J_execs_cons (J_Assign_Name (J_Dict fun d hd => ?_))
      refine J_pairs_cons ?_
      walk_at "w"
      refine J_ListCompB [(Str.ofString "box", c.L + 1)] [Str.ofString "turn"] ok₁.hd (fun Hb i ys H => H = Hb ∧ ∃ ds, Atoms ys ds ∧ ds.length = i ∧ ∀ d ∈ ds, d ∈ menu) ?_
      walk_at "w"
      refine J_draw (k := N + 9) ok₁ hbx (by decide) fun fk tfk hk0 hk1 => ?_
      walk_at "w"
      refine J_range1 fun r tr ur vr hr => ?_
      refine ⟨_, _, _, fun i vals => ∃ v, vals = [v], (rg3 hk0 hk1).1, Source.range ok₁.hd (.inl mem_hd) rfl (by decide) (by decide) (rg3 hk0 hk1).2.1 (rg3 hk0 hk1).2.2 (by intro _ _; rfl), ⟨rfl, [], .nil, rfl, by simp⟩, ?_, ⟨?_, ?_⟩, ?_⟩
      · rintro i ys H ⟨rfl, ds, f, h, -⟩; exact Nat.le_of_eq (f.length.trans h)
      · rintro i x K hi ⟨ti, rfl, rfl⟩
        refine ⟨[.int (0 + (i : Int)) ti], ⟨_, rfl⟩, rfl, fun G' C H hG' hK hh => ?_⟩
        walk_at "w"
        exact ⟨rfl, rfl⟩
      · rintro i vals ys H₃ G' C hi ⟨v, rfl⟩ ⟨rfl, ds, f, hl, hm⟩ hG' hok
        have ok' := hok _ ok₁
        have hc' := hG' _ _ hc
        refine J_tests_nil (if_tt ?_)
        refine J_loseL ?_
        walk_at "w"
        rename_i k0 k1 k2 k3 la hla _
        have A : Atoms [.none, .bool false, .bool true, .int 0 k0, .int 1 k1, .bytes [].toArray k2, .bytes [107].toArray k3] menu := .cons .none (.cons (.bool _) (.cons (.bool _) (.cons (.int _ _) (.cons (.int _ _) (.cons (.bytes _ _) (.cons (.bytes _ _) .nil))))))
        refine J_draw (k := N + 9) ok' hbx (by decide) fun j tj hj0 hj1 => ?_
        have hjm : j.toNat < menu.length := by show j.toNat < 7; omega
        obtain ⟨v, hv, hq⟩ := A.getD (i := j.toNat) (d := menu[j.toNat]) (List.getElem?_eq_getElem hjm)
        refine J_itemL (by walk_at "JRoom") (by omega) (by omega) hv ?_
        refine ⟨_, by walk_at "JSub", rfl, _, f.snoc hq, by simp [hl], fun d hd => ?_⟩
        rcases List.mem_append.mp hd with hd | hd
        · exact hm d hd
        · rw [List.mem_singleton.mp hd]; exact List.getElem_mem _
      · rintro D ys mD H₃ ⟨rfl, ds, fds, hdl, hdm⟩
        refine J_pairs_cons ?_
        walk_at "w"
        refine J_ListCompB [(Str.ofString "box", c.L + 1)] [Str.ofString "turn"] ok₁.hd (fun Hb i ys H => H = Hb ∧ ∃ ns : List Int, IntsAre ys ns ∧ ns.length = i) ?_
        walk_at "w"
        refine J_draw (k := N + 9) ok₁ hbx (by decide) fun fc tfc hc0 hc1 => ?_
        walk_at "w"
        refine J_range1 fun r2 tr2 ur2 vr2 hr2 => ?_
        refine ⟨_, _, _, fun i vals => ∃ v, vals = [v], (rg4 hc0 hc1).1, Source.range ok₁.hd (.inl mem_hd) rfl (by decide) (by decide) (rg4 hc0 hc1).2.1 (rg4 hc0 hc1).2.2 (by intro _ _; rfl), ⟨rfl, [], .nil, rfl⟩, ?_, ⟨?_, ?_⟩, ?_⟩
        · rintro i ys H ⟨rfl, ds, f, h⟩; exact Nat.le_of_eq (f.length.trans h)
        · rintro i x K hi ⟨ti, rfl, rfl⟩
          refine ⟨[.int (0 + (i : Int)) ti], ⟨_, rfl⟩, rfl, fun G' C H hG' hK hh => ?_⟩
          walk_at "w"
          exact ⟨rfl, rfl⟩
        · rintro i vals ys H₃ G' C hi ⟨v, rfl⟩ ⟨rfl, ns, f, hl⟩ hG' hok
          have ok' := hok _ ok₁
          have hc' := hG' _ _ hc
          refine J_tests_nil (if_tt ?_)
          walk_at "w"
          refine J_draw (k := N + 9) ok' hbx (by decide) fun j tj hj0 hj1 => ?_
          exact ⟨rfl, _, IntsAre.snoc f, by simp [hl]⟩
        rintro Dc yc mDc H₃ ⟨rfl, cs, fcs, hcl⟩
        refine J_pairs_cons ?_
        walk_at "w"
        refine J_pairs_nil ?_
        refine ⟨_, _, carries_strPairs PR w _ (by rfl), by walk_at "JAtF", fun od Id => ?_⟩
        have Id : IsD w od [(Str.ofString "constants", .ref D), (Str.ofString "code", .ref Dc), (Str.ofString "locals", .ref sa)] := by with_unfolding_all exact Id
        have hcl2 := fcs.length
        have hc3 := c13 hcl hc0 hc1
        have hy3 : yc.length ≤ 3 := hcl2 ▸ hc3.2
        have hy4 : yc.length ≤ 1000 := Nat.le_trans hy3 (by decide)
        walk_at "J"
        walk_at "J"
        walk_at "J"
        walk_at "J"
        refine J_upto (i := 0) (t := 0) ?_
        refine J_ListCompB [] [Str.ofString "at"] ok₁.hd (fun Hb i ys H => H = Hb ∧ ∃ ns : List Int, IntsAre ys ns ∧ ns.length = i) ?_
        walk_at "w"
        refine J_range1 fun r3 tr3 ur3 vr3 hr3 => ?_
        refine ⟨_, _, _, fun i vals => ∃ k t, vals = [.int k t], (rgn hy3).1, Source.range ok₁.hd (.inl mem_hd) rfl (by decide) (by decide) (rgn hy3).2.1 (rgn hy3).2.2 (by intro _ _; rfl), ⟨rfl, [], .nil, rfl⟩, ?_, ⟨?_, ?_⟩, ?_⟩
        · rintro i ys H ⟨rfl, ds, f, h⟩; exact Nat.le_of_eq (f.length.trans h)
        · rintro i x K hi ⟨ti, rfl, rfl⟩
          refine ⟨[.int (0 + (i : Int)) ti], ⟨_, _, rfl⟩, rfl, fun G' C H hG' hK hh => ?_⟩
          walk_at "w"
          exact ⟨rfl, rfl⟩
        · rintro i vals ys H₃ G' C hi ⟨k, t, rfl⟩ ⟨rfl, ns, f, hl⟩ hG' hok
          refine J_tests_nil (if_tt ?_)
          walk_at "w"
          exact ⟨rfl, _, IntsAre.snoc f, by simp [hl]⟩
        rintro Dl yl mDl H₃ ⟨rfl, ls, fls, hll⟩
        have hll2 := fls.length
        walk_at "w"
        refine J_draw (k := N + 9) ok₁ hbx (by decide) fun fz tfz hz0 hz1 => ?_
        walk_at "w"
        rename_i tz
        refine ⟨_, _, _, (99 * fz).toNat, tz, rfl, by rw [z99 hz0 hz1], .inl (by walk_at "JMem"), Nat.le_trans (m := 3) (hll2 ▸ l3 hll hcl2 hc3.2) (by decide), fun La hLa => ?_⟩
        have flt := IntsAre.take fls (99 * fz).toNat
        walk_at "w"
        rename_i od2 Id2
        have Id2 : IsD w od2 [(Str.ofString "constants", .ref D), (Str.ofString "code", .ref Dc), (Str.ofString "locals", .ref sa), (Str.ofString "line_info", .ref La)] := by with_unfolding_all exact Id2
        refine J_ListCompB [] [Str.ofString "at"] ok₁.hd (fun Hb i ys H => H = Hb ∧ ∃ us : List (Array UInt8), Atoms ys (us.map .bytes) ∧ us.length = i) ?_
        walk_at "w"
        refine J_draw (k := N + 9) ok₁ hbx (by decide) fun fu tfu hu0 hu1 => ?_
        walk_at "w"
        refine J_range1 fun r4 tr4 ur4 vr4 hr4 => ?_
        refine ⟨_, _, _, fun i vals => ∃ t, vals = [.int (0 + (i : Int)) t], (rg3 hu0 hu1).1, Source.range ok₁.hd (.inl mem_hd) rfl (by decide) (by decide) (rg3 hu0 hu1).2.1 (rg3 hu0 hu1).2.2 (by intro _ _; rfl), ⟨rfl, [], .nil, rfl⟩, ?_, ⟨?_, ?_⟩, ?_⟩
        · rintro i ys H ⟨rfl, ds, f, h⟩; exact Nat.le_of_eq (f.length.trans ((List.length_map _).trans h))
        · rintro i x K hi ⟨ti, rfl, rfl⟩
          refine ⟨[.int (0 + (i : Int)) ti], ⟨_, rfl⟩, rfl, fun G' C H hG' hK hh => ?_⟩
          walk_at "w"
          exact ⟨rfl, rfl⟩
        · rintro i vals ys H₃ G' C hi ⟨t, rfl⟩ ⟨rfl, us, f, hl⟩ hG' hok
          have ok' := hok _ ok₁
          refine J_tests_nil (if_tt ?_)
          refine J_loseL ?_
          walk_at "w"
          refine J_bytesOf (ns := [117 + (0 + (i : Int))]) ok'.hd (by walk_at "JRoom") (.cons _ _ .nil) (by intro n hn; rw [List.mem_singleton.mp hn]; exact byt hi hu1 (by decide) (by decide)) (by simp) fun tb => ?_
          exact ⟨_, by walk_at "JSub", rfl, us ++ [byteArr [117 + (0 + (i : Int))]], by rw [List.map_append]; exact f.snoc (.bytes _ _), by simp [hl]⟩
        rintro Du yu mDu H₃ ⟨rfl, us, fus, hul⟩
        walk_at "w"
        rename_i od3 Id3
        have Id3 : IsD w od3 ([(Str.ofString "constants", .ref D), (Str.ofString "code", .ref Dc), (Str.ofString "locals", .ref sa), (Str.ofString "line_info", .ref La), (Str.ofString "upvalue_names", .ref Du)] ++ []) := by with_unfolding_all exact Id3
        have rest : ∃ Hr, Hr = (Du, lst yu mDu) :: (La, lst (yl.take (99 * fz).toNat) 0) :: (Dc, lst yc mDc) :: (D, lst ys mD) :: (sa, lst vv m) :: Hs := ⟨_, rfl⟩
        obtain ⟨Hr, hHr⟩ := rest
        refine J_led (H' := (d, od3) :: Hr) (by rw [hHr]; walk_at "JSub") ?_
        refine J_ForW ?_
        walk_at "w"
        rename_i k1 k2 k3 k4 k5 k6 k7 Ln hLn
        have SR : StrsR [.str (Str.ofString "source") k1, .str (Str.ofString "line_defined") k2, .str (Str.ofString "last_line") k3, .str (Str.ofString "upvalue_count") k4, .str (Str.ofString "param_count") k5, .str (Str.ofString "is_vararg") k6, .str (Str.ofString "max_stack") k7] tail7 := .cons (.cons (.cons (.cons (.cons (.cons (.cons .nil))))))
        generalize hbase : [(Str.ofString "constants", Value.ref D), (Str.ofString "code", .ref Dc), (Str.ofString "locals", .ref sa), (Str.ofString "line_info", .ref La), (Str.ofString "upvalue_names", .ref Du)] = bs at Id3
        have hbk : bs.map (·.1) = base5 := by rw [← hbase]; rfl
        refine ⟨_, _, _, fun i l H => ∃ od es, IsD w od (bs ++ es) ∧ Ext i es ∧ l = [(Str.ofString "most", .int most tk), (Str.ofString "told", .ref d)] ∧ H = (d, od) :: Hr, Source.listH ok₁.hd, ⟨_, _, by walk_at "JHas", .refl, od3, [], Id3, ⟨rfl, by simp⟩, rfl, rfl⟩, ?_, ?_⟩
        · rintro i v K l₃ H₃ hi ⟨hv, rfl⟩ ⟨od, es, Id, E, rfl, rfl⟩ G' hG' -
          have ok' := ok₁.up hG'
          have hc' := hG' _ _ hc
          obtain ⟨x, t, hx, rfl⟩ := SR.get hv
          have hfr : x ∉ (bs ++ es).map (·.1) := by rw [List.map_append, hbk, E.1]; exact fresh7 hx
          have hel : bs.length ≤ 100 ∧ es.length ≤ 100 := by
            have h1 := congrArg List.length E.1
            have h2 := congrArg List.length hbk
            rw [List.length_map] at h1 h2
            rw [h1, h2]
            exact ⟨by decide, Nat.le_trans (List.length_take_le' _ _) (by decide)⟩
          walk_at "w"
          refine J_ite (fun hq => ?_) (fun hq => ?_)
          · have hq := eq_of_beq hq
            subst hq
            walk_at "w"
            rename_i od' Id'
            rw [stored_new hfr, List.append_assoc] at Id'
            refine ⟨_, _, by walk_at "JHas", .refl, od', _, Id', ⟨?_, ?_⟩, rfl, rfl⟩
            · rw [List.map_append, E.1, List.take_add_one, hx]; rfl
            · intro p hp
              rcases List.mem_append.mp hp with hp | hp
              · exact E.2 p hp
              · rw [List.mem_singleton.mp hp]; exact ⟨fun _ => ⟨_, rfl⟩, fun h => absurd rfl h⟩
          · have hq : x ≠ Str.ofString "source" := fun e => by subst e; simp at hq
            walk_at "w"
            refine J_draw (k := N + 9) ok' hbx (by decide) fun j tj hj0 hj1 => ?_
            walk_at "w"
            rename_i od' Id'
            rw [stored_new hfr, List.append_assoc] at Id'
            refine ⟨_, _, by walk_at "JHas", .refl, od', _, Id', ⟨?_, ?_⟩, rfl, rfl⟩
            · rw [List.map_append, E.1, List.take_add_one, hx]; rfl
            · intro p hp
              rcases List.mem_append.mp hp with hp | hp
              · exact E.2 p hp
              · rw [List.mem_singleton.mp hp]; exact ⟨fun h => absurd h hq, fun _ => ⟨_, _, rfl⟩⟩
        intro l₃ H₃ W
        refine Fl_next ?_
        refine W.at fun l' H' iv => ?_
        obtain ⟨od, es, Id, E, rfl, rfl⟩ := iv
        clear W
        obtain ⟨a, ld, b2, ll, c2, uc, d2, pc, e2, va, f2, ms, g2, rfl⟩ := E.full
        walk_at "w"
        rename_i ki hki t1 t2
        have hle := hsl
        refine J_WhileW (fun n l H => ∃ rm tr kv ks Hk m, PlansR w kv ks Hk ∧ (∀ U ∈ pres ks, (toldOf U).Good) ∧ rm + (tsizes ks : Int) ≤ most - 1 ∧ 0 ≤ rm ∧ n = rm.toNat ∧ l = [(Str.ofString "told", .ref d), (Str.ofString "room", .int rm tr), (Str.ofString "inner", .ref ki)] ∧ H = (ki, lst kv m) :: (d, od) :: (Hr ++ Hk)) (most - 1).toNat
          ⟨_, (ki, lst [] 0) :: (d, od) :: (Hr ++ []), by walk_at "JHas", by simp only [List.append_nil]; exact .refl, most - 1, _, [], [], [], 0, .nil, by simp [pres], by simp [tsizes], by omega, rfl, rfl, rfl⟩ ?_
        rintro n l H ⟨rm, tr, kv, ks, Hk, m, PR, hg, hrm, hrm0, rfl, rfl, rfl⟩
        have hkl := PR.length
        have hkz := tsizes_le ks
        have hkb : ks.length ≤ 100 := roomK h2 hN hrm hrm0 hkz
        have hkc : kv.length ≤ 1000 := le9 hkl hkb
        refine J_cutB (fun b => b = true → 0 < rm) ?_ fun b hb => ?_
        · walk_at "w"
          refine J_ite (fun hq => ?_) (fun _ => ⟨rfl, .refl, fun h => Bool.noConfusion h⟩)
          have hq := of_decide_eq_true hq
          walk_at "w"
          refine J_draw (k := N + 9) ok₁ hbx (by decide) fun j tj hj0 hj1 => ?_
          walk_at "w"
          by_cases hjj : 0 < j
          · rw [decide_eq_true hjj]
            walk_at "w"
            exact ⟨rfl, .refl, fun _ => hq⟩
          · rw [decide_eq_false hjj]
            walk_at "w"
            exact ⟨rfl, .refl, fun h => Bool.noConfusion h⟩
        cases b with
        | true =>
          have hq := hb rfl
          walk_at "w"
          refine J_callS ok₁ (A := []) .nil (fun G₂ g2 _ => by rw [hbx]; exact ih G₂ rm tr hq (roomM h2 hrm) (Nat.le_of_succ_le hN)) ?_
          rintro v H' ⟨T, PT, gT, hT⟩ -
          walk_at "w"
          refine J_callR ok₁ (fun G₂ g2 kn2 => (c_law_many 10 G₂ v T (PlanR.g PT kn2.left) (roomN h2 hN hrm hT) (by decide)).room (Nat.le_add_left 10 N)) fun r q => ?_
          cases q with
          | int _ t3 =>
          have hTp := tsize_pos T
          walk_at "w"
          refine' ⟨(rm - (tsize T : Nat)).toNat, tdn hq hT hTp, _, (ki, lst (kv ++ [v]) (m + 1)) :: (d, od) :: (Hr ++ (Hk ++ H')), by walk_at "JHas", by walk_at "JSub", rm - (tsize T : Nat), _, kv ++ [v], ks ++ [T], Hk ++ H', m + 1, PR.snoc PT, ?_, ?_, Int.sub_nonneg_of_le hT, rfl, rfl, rfl⟩
          · intro U hU
            rw [pres_append] at hU
            rcases List.mem_append.mp hU with hU | hU
            · exact hg U hU
            · simp only [pres, List.append_nil] at hU
              exact gT U hU
          · rw [tsizes_append]; simp only [tsizes]; push_cast; omega
        | false =>
          walk_at "w"
          rename_i pa hpa
          intro _
          have hd3 := le3 hdl hk1
          have hu3 := le3 hul hu1
          have hs3 := le3 hsl hf1
          have hl3 : (ls.take (99 * fz).toNat).length ≤ 3 := Nat.le_trans (List.length_take_le' _ _) (l3 hll hcl2 hc3.2)
          have hT : ∃ t : Told, t = ⟨cs, ds, ls.take (99 * fz).toNat, sp, us, #[61, 115], ld, ll, uc, pc, va, ms⟩ := ⟨_, rfl⟩
          obtain ⟨t, ht⟩ := hT
          rw [← hbase] at Id
          refine' ⟨_, ?sub, .node t ks, PlanR.mk (td_make (t := t) (od := od) (src := a) (by rw [ht]; exact Id) (by rw [ht]; exact fcs) (by rw [ht]; exact fds) (by rw [ht]; exact flt) (by rw [ht]; exact SP) (by rw [ht]; exact fus)) ⟨by rw [ht]; exact Nat.le_trans hc3.2 (by decide), by rw [ht]; exact Nat.le_trans hd3 (by decide), by rw [ht]; exact Nat.le_trans hl3 (by decide), by rw [ht]; exact Nat.le_trans hs3 (by decide), by rw [ht]; exact Nat.le_trans hu3 (by decide)⟩ PR, ?gd, ?ts⟩
          case sub => rw [hHr]; simp only [TD.led, List.cons_append]; walk_at "JSub"
          case ts => rw [tsize]; exact tle hrm hrm0
          case gd =>
            intro U hU
            rw [pre] at hU
            rcases List.mem_cons.mp hU with rfl | hU
            · show t.Good
              rw [ht]
              exact ⟨⟨hc3.1, Nat.le_trans hc3.2 (by decide)⟩, Nat.le_trans hd3 (by decide), Nat.le_trans hl3 (by decide), Nat.le_trans hs3 (by decide), Nat.le_trans hu3 (by decide), hdm, hsa, rfl⟩
            · exact hg U hU
end
end

-- J23
section
open PySem PySem.W PyProof.Rows PySem.Calls PySem.Spec PySem.SeqAt
section
variable {w : World} {c : Cx} {l l' : Loc} {H H' H₀ R : Led} {k : Nat}
/-- a call: what the callee asks is taken out of the ledger, in any order -/
theorem J_callP {A R : Led} {f : Value} {vs : List Value} {Q : Value → Loc → Led → Prop} {Q' : Value → Led → Prop} (ok : Ok w c k) (hp : H.Perm (A ++ R))
    (x : ∀ G', (∀ a o, c.G a = some o → G' a = some o) → Kn G' R → CJ w G' c.bx k f vs A Q')
    (q : ∀ v H', Q' v H' → (∀ p ∈ H', ∀ r ∈ R, p.1 ≠ r.1) → Q v l (H' ++ R)) : J w c (call f vs) l H Q :=
  J_led ⟨[], by simpa using hp⟩ (J_call (R := R) ok (fun G' h1 h2 _ => x G' h1 h2) q)
end
theorem J_notB {w : World} {c : Cx} {l : Loc} {H : Led} {b : Bool} {Q : Value → Loc → Led → Prop} (q : Q (.bool (!b)) l H) : J w c (unaryOp .Not (.bool b)) l H Q := .mk fun _ _ _ re => PyProof.Rows.not_of (wpAny_truthy_bool (re.post q))
theorem PGs.get_code {G : Addr → Option Obj} {w : World} {v : Value} {T : Tree} {L : List Value} (P : PG G w v T L) {i : Nat} {u : Value} (h : L[i]? = some u) :
    ∃ x n kl t kvs kids m, u = .ref x ∧ (Mine.pre T)[i]? = some (Mine.Tree.node t kids) ∧ NodeG G w x n kl t kvs m ∧ t.Small := by
  obtain ⟨U, Lu, hU, PU, -⟩ := P.pre.2 i u h
  cases PU with
  | mk N S k => exact ⟨_, _, _, _, _, _, _, rfl, hU, N, S⟩
theorem PlanL.get_node {G : Addr → Option Obj} {w : World} {v : Value} {T : Tree} {L : List Value} (P : PlanL G w v T L) {i : Nat} {u : Value} (h : L[i]? = some u) :
    ∃ p td ki n t kvs kids m, u = .ref p ∧ (Mine.pre T)[i]? = some (Mine.Tree.node t kids) ∧ TDG G w p td ki n t kvs m ∧ t.Small := by
  obtain ⟨U, hU, PU⟩ := PlansG.get P.pre h
  cases PU with
  | mk N S k => exact ⟨_, _, _, _, _, _, _, _, rfl, hU, N, S⟩
theorem LL.up {K K' : Addr → Obj → Prop} {vs : List Value} {nss : List (List Int)} (h : LL K vs nss) (hm : ∀ a o, K a o → K' a o) : LL K' vs nss := h.mono hm
noncomputable def codesOf (T : Tree) : List (List Int) := (pre T).map fun U => (toldOf U).code
theorem pre_pos (T : Tree) : 1 ≤ (pre T).length := by rw [pre_length]; exact tsize_pos T
theorem hd_ne {T T' : Tree} {i : Nat} {U U' : Tree} (h : (pre T)[i]? = some U) (h' : (pre T')[i]? = some U') (hne : hdT U' ≠ hdT U) : (pre T).map hdT ≠ (pre T').map hdT := map_get_ne h h' (Ne.symm hne)
theorem head_ne {T T' : Tree} {i : Nat} {U U' : Tree} (h : (pre T)[i]? = some U) (h' : (pre T')[i]? = some U') (hne : headT U' ≠ headT U) : (pre T).map headT ≠ (pre T').map headT := map_get_ne h h' (Ne.symm hne)
end

-- F19
section
open PySem PySem.W PyProof.Rows PySem.Calls PySem.Spec
section
variable {w : World} {G : Addr → Option Obj} {bx : Option (Addr × Addr)}
local macro_rules | `(tactic| walk_at "we") => `(tactic| repeat ((fail_if_success (with_reducible show J _ _ (execs _ _) _ _ _)); walk_at "J"))
set_option maxHeartbeats 16000000 in
theorem law_body (w : World) : ∃ (oc : Value) (od : Option Addr) (name qual : Str) (params : Arguments) (body : List Stmt) (scope : Scope) (dV kV doc pm cdv ct : Value) (an : Option Addr) (osl : Array (Option Value)),
    List.lookup 226 (Mine.hd.heap_39 w.params) = some ⟨oc, od, .func (fnOf name qual params body scope dV kV doc pm an cdv ct), osl⟩ ∧
    ∀ (c : Cx) (a : Addr) (ob : Obj) (vs : List Value) (ns : List Int) (nn : Nat), c.bx = none → Ok w c 20 → c.G a = some ob → ob.cls = .type "list" → ob.data = .seq vs.toArray nn → IntsAre vs ns → vs.length ≤ 100 →
      J w c (execs body (envOf qual scope c.L 226 cdv)) [(Str.ofString "script", .ref a)] [] fun fl _ _ => retOf fl = .bool true := by
  refine ⟨_, _, _, _, _, _, _, _, _, _, _, _, _, _, _, by k_is, ?_⟩
  intro c a ob vs ns nn hbx ok ha hcl hda X hz
  walk_at "w"
  refine J_callS ok (A := []) .nil (fun G₂ g2 _ => by rw [hbx]; exact (c_law_box (g2 _ _ ha) hcl hda X hz).room (by decide)) ?_
  rintro _ _ ⟨b, ca, bo, co, rfl, rfl, BB, CC⟩ -
  walk_at "JL"
  refine J_store (by walk_at "JSet") ?_
  refine Fl_next ?_
  refine J_inbox hbx BB CC ?_
  have okb : Ok w { c with bx := some (b, ca) } 20 := ⟨by obtain ⟨hB, mg, mb, B⟩ := ok.base; exact ⟨hB, mg, mb, B.kin, B.top, B.sub, B.above⟩, ok.hd, ok.dep, ok.un⟩
  walk_at "w"
  refine J_callS okb (A := []) .nil (fun G₂ g2 _ => (c_law_plan (b := b) (ca := ca) 4 G₂ 4 _ (by decide) (by decide) (by decide)).room (by decide)) ?_
  rintro pv Hp ⟨T, PT, gT, hT⟩ -
  simp only [List.append_nil]
  walk_at "we"
  rename_i fa hfa pa hpa
  have hT4 : tsize T ≤ 4 := by omega
  have hT1 := tsize_pos T
  refine J_fix okb (A := Hp) (R := [(pa, lst [] 0), (fa, lst [] 0)]) (by walk_at "JSplit") fun G₁ g1 kn ok₁ => ?_
  have PG₁ := PlanR.g PT kn
  obtain ⟨Lp, PL⟩ := PG₁.l
  have hLp := PL.length
  walk_at "w"
  refine J_callS ok₁ (A := []) .nil (fun G₂ g2 _ => (c_law_made 4 G₂ pv T (PG₁.up g2) hT4 (by decide)).room (by decide)) ?_
  rintro mv Hm MR -
  walk_at "w"
  refine J_callS ok₁ (A := []) .nil (fun G₂ g2 _ => (c_law_made 4 G₂ pv T (PG₁.up g2) hT4 (by decide)).room (by decide)) ?_
  rintro av Ha AR -
  obtain ⟨Lm, ML⟩ := MR.l
  obtain ⟨La, AL⟩ := AR.l
  have hLm := ML.length
  have hLa := AL.length
  walk_at "w"
  refine J_callS ok₁ (A := [(fa, lst [] 0), (pa, lst [] 0)]) (by walk_at "JSplit") (fun G₂ g2 _ => (c_law_nodes 4 G₂ pv T Lp 0 _ fa pa [] [] 0 0 (PL.up g2) hT4 (by decide) (by simp; omega) (by simp; omega)).room (by decide)) ?_
  rintro _ _ ⟨kk, qs, Hn, mf, mp, rfl, FR, rfl⟩ -
  simp only [List.nil_append, List.append_nil, List.cons_append]
  walk_at "w"
  refine J_callS ok₁ (A := []) .nil (fun G₂ g2 kn2 => (c_walk_protos (ML.pg kn2.tail.tail.right.right) (by omega)).room (by decide)) ?_
  rintro _ _ ⟨wa, mw, rfl, rfl⟩ -
  walk_at "JL"
  walk_at "w"
  refine J_callS ok₁ (A := []) .nil (fun G₂ g2 kn2 => (c_walk_protos (AL.pg kn2.tail.tail.tail.right.left) (by omega)).room (by decide)) ?_
  rintro _ _ ⟨oa, mo, rfl, rfl⟩ -
  walk_at "JL"
  walk_at "we"
  refine J_fix ok₁ (A := (oa, lst La mo) :: (wa, lst Lm mw) :: (fa, lst Lp mf) :: (pa, lst qs mp) :: Hn) (R := Ha ++ Hm) (by walk_at "JSplit") fun G₂ g2 kn2 ok₂ => ?_
  have PL2 := PL.up g2
  have hoa := kn2.head
  have hwa := kn2.tail.head
  have hfa := kn2.tail.tail.head
  have hpa := kn2.tail.tail.tail.head
  have hHn := kn2.tail.tail.tail.tail
  have qll := FR.length
  rw [placesOf_length] at qll
  refine J_execs_cons (J_If ?_)
  refine J_fix ok₂ (A := Ha ++ Hm) (R := []) (Split.one .all) fun G₃ g3 kn3 ok₃ => ?_
  have MP := ML.pg kn3.right
  have AP := AL.pg kn3.left
  have PL3 := PL2.up g3
  have hwa3 := g3 _ _ hwa
  have hfa3 := g3 _ _ hfa
  have hpa3 := g3 _ _ hpa
  have inv : ∀ (i : Nat) (ys : List Value) (H : Led), (H = [] ∧ LL (fun a o => G₃ a = some o) ys ((codesOf T).take i)) → ys.length ≤ i := by
    rintro i ys H ⟨rfl, f⟩; have := f.length; simp at this; omega
  have hcl : (codesOf T).length = tsize T := by unfold codesOf; rw [List.length_map, pre_length]
  walk_at "w"
  refine J_ListComp [] [Str.ofString "one"] ok₃.hd ?_
  walk_at "w"
  refine ⟨_, _, _, fun i vals => ∃ u, Lm[i]? = some u ∧ vals = [u], fun i ys H => H = [] ∧ LL (fun a o => G₃ a = some o) ys ((codesOf T).take i), by omega, Source.list ok₃.hd hwa3, ⟨rfl, .nil⟩, inv, ⟨?_, ?_⟩, ?_⟩
  · rintro i x K hi ⟨hx, rfl⟩
    refine ⟨_, ⟨x, hx, rfl⟩, rfl, fun G' C H hG' hK hh => ?_⟩
    walk_at "w"
    exact ⟨rfl, rfl⟩
  · rintro i vals ys H₃ G₄ C hi ⟨u, hx, rfl⟩ ⟨rfl, f⟩ hG₄ hok
    have ok₄ := hok _ ok₃
    obtain ⟨x, n, kl, t, kvs, kids, m, rfl, hU, N, S⟩ := PGs.get_code MP hx
    have nx := hG₄ _ _ N.x
    have ndx := hG₄ _ _ N.dx
    have nfs := N.fs
    refine J_tests_nil (if_tt ?_)
    walk_at "w"
    refine ⟨rfl, ?_⟩
    have e : (codesOf T).take (i + 1) = (codesOf T).take i ++ [t.code] := by
      unfold codesOf
      rw [List.take_add_one, List.getElem?_map, hU]; rfl
    rw [e]
    exact f.snoc N.c N.ok.code
  rintro D₁ ys₁ m₁ H₄ ⟨rfl, f₁⟩
  rw [List.take_of_length_le (by omega)] at f₁
  refine J_fix ok₃ (R := []) (A := [(D₁, lst ys₁ m₁)]) (by walk_at "JSplit") fun G₄ g4 kn4 ok₄ => ?_
  have hD := kn4.head
  have hfa4 := g4 _ _ hfa3
  have inv2 : ∀ (i : Nat) (ys : List Value) (H : Led), (H = [] ∧ LL (fun a o => G₃ a = some o) ys ((codesOf T).take i)) → ys.length ≤ i := by
    rintro i ys H ⟨rfl, f⟩; have := f.length; simp at this; omega
  refine J_ListComp [] [Str.ofString "one"] ok₄.hd ?_
  walk_at "w"
  refine ⟨_, _, _, fun i vals => ∃ u, Lp[i]? = some u ∧ vals = [u], fun i ys H => H = [] ∧ LL (fun a o => G₃ a = some o) ys ((codesOf T).take i), by omega, Source.list ok₄.hd hfa4, ⟨rfl, .nil⟩, inv2, ⟨?_, ?_⟩, ?_⟩
  · rintro i x K hi ⟨hx, rfl⟩
    refine ⟨_, ⟨x, hx, rfl⟩, rfl, fun G' C H hG' hK hh => ?_⟩
    walk_at "w"
    exact ⟨rfl, rfl⟩
  · rintro i vals ys H₃ G₅ C hi ⟨u, hx, rfl⟩ ⟨rfl, f⟩ hG₅ hok
    have ok₅ := hok _ ok₄
    obtain ⟨p, td, ki, n, t, kvs, kids, m, rfl, hU, N, S⟩ := PL3.get_node hx
    have dp := hG₅ _ _ (g4 _ _ N.p)
    have dtd := hG₅ _ _ (g4 _ _ N.td)
    have dfs := N.fs
    refine J_tests_nil (if_tt ?_)
    walk_at "w"
    refine ⟨rfl, ?_⟩
    have e : (codesOf T).take (i + 1) = (codesOf T).take i ++ [t.code] := by
      unfold codesOf
      rw [List.take_add_one, List.getElem?_map, hU]; rfl
    rw [e]
    exact f.snoc N.c N.ok.code
  rintro D₂ ys₂ m₂ H₄ ⟨rfl, f₂⟩ ap2
  rw [List.take_of_length_le (by omega)] at f₂
  refine J_neLL ok₃ (by walk_at "JRoom") (by walk_at "JRoom") (f₁.mono fun a o h => .inr h) (f₂.mono fun a o h => .inr h) ?_
  walk_at "w"
  refine J_ite (fun h => absurd h (by simp)) fun _ => ?_
  walk_at "w"
  refine J_callS ok₃ (A := []) .nil (fun G₅ g5 _ => (c_inner_places (g5 _ _ hwa3) (MP.up g5) (by omega)).room (by decide)) ?_
  rintro _ _ ⟨ia, ivs, mi, Hi, rfl, FR2, rfl⟩ -
  walk_at "w"
  refine J_neLL ok₃ (by walk_at "JRoom") (by walk_at "JRoom") (FR2.ll fun p hp => .inl (by
    refine List.mem_append_left _ ?_
    exact List.mem_cons_of_mem _ hp)) (FR.ll fun p hp => .inr (g3 _ _ (hHn p hp))) ?_
  walk_at "w"
  refine J_ite (fun h => absurd h (by simp)) fun _ => ?_
  walk_at "w"
  intro ap3
  walk_at "J"
  walk_at "J"
  walk_at "J"
  refine J_led (H' := Ha ++ Hm) (by walk_at "JSub") ?_
  clear ap3 ap2 f₁ f₂
  walk_at "w"
  refine J_callR ok₂ (fun G₅ g5 kn5 => (c_equal_protos (ML.pg kn5.right) (AL.pg kn5.left) (by omega) (by omega)).room (by decide)) fun r1 q1 => ?_
  subst q1
  walk_at "w"
  refine J_ite (fun h => absurd h (by simp)) fun _ => ?_
  walk_at "w"
  refine J_callR ok₂ (fun G₅ g5 kn5 => (c_equal_code (ML.pg kn5.right) (AL.pg kn5.left) (by omega) (by omega)).room (by decide)) fun r2 q2 => ?_
  subst q2
  walk_at "w"
  refine J_ite (fun h => absurd h (by simp)) fun _ => ?_
  walk_at "w"
  refine J_ForW ?_
  walk_at "w"
  refine J_range1 fun r tr ur vr hr => ?_
  refine ⟨_, _, _, fun i l H => ∃ Hm', ProtoL w mv T Lm Hm' ∧ l = [(Str.ofString "box", .ref b), (Str.ofString "found", .ref fa), (Str.ofString "made", mv), (Str.ofString "again", av), (Str.ofString "walked", .ref wa), (Str.ofString "others", .ref oa)] ∧ H = Ha ++ Hm', Source.range ok₂.hd (.inl mem_hd) rfl (by decide) (by decide) (by omega) (by omega) (by intro _ _; rfl), ⟨_, _, by walk_at "JHas", by walk_at "JSub", Hm, ML, rfl, rfl⟩, ?_, ?_⟩
  · rintro i v K l₃ H₃ hi ⟨ti, rfl, rfl⟩ ⟨Hm', ML', rfl, rfl⟩ G' hG' -
    have ok' := ok₂.up hG'
    have hfa' := hG' _ _ hfa
    have hwa' := hG' _ _ hwa
    obtain ⟨up, hup⟩ : ∃ u, Lp[i]? = some u := ⟨_, List.getElem?_eq_getElem (by omega)⟩
    obtain ⟨um, hum⟩ : ∃ u, Lm[i]? = some u := ⟨_, List.getElem?_eq_getElem (by omega)⟩
    have ei : (0 + (i : Int)).toNat = i := by omega
    walk_at "w"
    refine J_itemL (by walk_at "JRoom") (by omega) (by omega) (by rw [ei]; exact hup) ?_
    walk_at "w"
    refine J_itemL (by walk_at "JRoom") (by omega) (by omega) (by rw [ei]; exact hum) ?_
    walk_at "w"
    refine J_callR ok' (Q' := fun v => v = .bool true) (fun G₅ g5 kn5 => by
      obtain ⟨x, n, kl, t, kvs, kids, m, rfl, hU, N, S⟩ := PGs.get_code (ML'.pg kn5.right) hum
      obtain ⟨p, td, ki, n', t', kvs', kids', m', rfl, hU', D, S'⟩ := (PL2.up fun a o e => g5 _ _ (hG' _ _ e)).get_node hup
      rw [hU] at hU'
      cases hU'
      exact (c_asked_right N D S (gT _ (List.mem_of_getElem? hU)).asc).room (by decide)) fun v q => ?_
    subst q
    walk_at "w"
    refine J_ite (fun h => absurd h (by simp)) fun _ => ?_
    walk_at "w"
    refine J_itemL (by walk_at "JRoom") (by omega) (by omega) (by rw [ei]; exact hum) ?_
    obtain ⟨U, Lu, Hu, R, hU, PU, hperm, hlu, back⟩ := ML'.nth hum
    walk_at "w"
    refine J_callP ok' (A := Hu) (R := R ++ Ha) (List.perm_append_comm.trans (by rw [← List.append_assoc]; exact hperm.append_right Ha)) (fun G₅ g5 kn5 => (c_copy_right PU (by omega) (gT U (List.mem_of_getElem? hU))).room (by decide)) ?_
    rintro _ H' ⟨rfl, PU'⟩ -
    obtain ⟨T', L', H'', b1, b2, b3, b4, b5, b6⟩ := back U Lu H' PU' (Nat.le_refl _)
    obtain ⟨rfl, rfl⟩ := b6 rfl rfl
    refine J_led (H' := Ha ++ H'') (SubLed.perm (by rw [← List.append_assoc]; exact (List.perm_append_comm.trans (b2.symm.append_left Ha)))) ?_
    walk_at "w"
    refine J_ite (fun h => absurd h (by simp)) fun _ => ?_
    walk_at "w"
    exact ⟨_, _, by walk_at "JHas", .refl, H'', b1, rfl, rfl⟩
  intro l₃ H₃ W
  refine Fl_next ?_
  refine W.at fun l' H' iv => ?_
  obtain ⟨Hm', ML', rfl, rfl⟩ := iv
  clear W
  walk_at "w"
  refine J_callR ok₂ (fun G₅ g5 kn5 => (c_equal_protos (ML'.pg kn5.right) (AL.pg kn5.left) (by omega) (by omega)).room (by decide)) fun r1 q1 => ?_
  subst q1
  walk_at "w"
  refine J_ite (fun h => absurd h (by simp)) fun _ => ?_
  walk_at "w"
  refine J_draw (k := 19) ok₂ rfl (by omega) fun sp tsp hsp0 hsp1 => ?_
  walk_at "w"
  obtain ⟨up, hup⟩ : ∃ u, Lp[sp.toNat]? = some u := ⟨_, List.getElem?_eq_getElem (by omega)⟩
  obtain ⟨ua, hua⟩ : ∃ u, La[sp.toNat]? = some u := ⟨_, List.getElem?_eq_getElem (by omega)⟩
  refine J_itemL (by walk_at "JRoom") (by omega) (by omega) hup ?_
  walk_at "w"
  refine J_itemL (by walk_at "JRoom") (by omega) (by omega) hua ?_
  walk_at "w"
  obtain ⟨U, Lu, Hu, R, hU, PU, hperm, hlu, back⟩ := AL.nth hua
  obtain ⟨p, td, ki, n', t', kvs', kids', m', rfl, hU', D, S'⟩ := PL2.get_node hup
  rw [hU] at hU'
  cases hU'
  refine J_callP ok₂ (A := Hu) (R := R ++ Hm') (by rw [← List.append_assoc]; exact hperm.append_right _) (fun G₅ g5 kn5 => (c_turned (b := b) (ca := ca) PU (by omega) (gT _ (List.mem_of_getElem? hU)) (D.up g5)).room (by decide)) ?_
  rintro _ H' ⟨dbg, U', Lu', rfl, PU', hlu', turned⟩ -
  obtain ⟨T', L', H'', b1, b2, b3, b4, b5, -⟩ := back U' Lu' H' PU' hlu'
  refine J_led (H' := H'' ++ Hm') (SubLed.perm (by rw [← List.append_assoc]; exact (b2.symm.append_right Hm'))) ?_
  walk_at "w"
  have hne : (pre T).map hdT ≠ (pre T').map hdT := by
    refine map_get_ne hU b3 (Ne.symm ?_)
    cases dbg with
    | false => exact fun e => turned.1 rfl (congrArg Prod.fst e)
    | true => exact (turned.2 rfl).1
  have hcd : decide ((pre T).map headT = (pre T').map headT) = dbg := by
    cases dbg with
    | false => exact decide_eq_false (map_get_ne hU b3 (Ne.symm (turned.1 rfl)))
    | true => exact decide_eq_true (b5 (turned.2 rfl).2).symm
  refine J_callR ok₂ (fun G₅ g5 kn5 => (c_equal_protos (ML'.pg kn5.right) (b1.pg kn5.left) (by omega) (by omega)).room (by decide)) fun r1 q1 => ?_
  subst q1
  rw [decide_eq_false hne]
  refine J_notB ?_
  walk_at "w"
  refine J_ite (fun _ => ?_) (fun h => absurd h (by simp))
  walk_at "w"
  refine J_callR ok₂ (fun G₅ g5 kn5 => (c_equal_code (ML'.pg kn5.right) (b1.pg kn5.left) (by omega) (by omega)).room (by decide)) fun r2 q2 => ?_
  subst q2
  rw [hcd]
  walk_at "w"
  refine J_eqBool ?_
  intro _ _ bo' co' _ _
  show retOf (.ret (.bool (decide (AT.bool dbg = AT.bool dbg)))) = _
  rw [decide_eq_true rfl]; rfl
end
end

end

section
open PySem.Calls PySem.Spec
set_option maxHeartbeats 8000000 in
theorem fin : PySem.Challenge.rw_pc0164_01.Holds := by
  w_on
  refine holds_law (by kernel_rfl) fun said => ?_
  refine holds_open (q := Mine.hd.view_39) (loose := [Str.ofString "HeapObject", Str.ofString "Proto"]) (Xt := XT) (XP := XL Mine.hd.view_39 []) (Yf := Hook.obs HH) (Ya := Hook.val HH) (YP := Hook.says HH) (N := 3144) left_ok (Hook.of HH) (Hook.keeps HH) (fun s e => xl_of s (Bool.and_eq_true_iff.mp e).1) XL.keeps (by rfl) (by rfl) (by rfl) (fun s e => recFacts_of (Bool.and_eq_true_iff.mp e).2) (by rfl) (by first | assumption | decide +kernel) (by decide +kernel) ⟨rfl, rfl, rfl, rfl, rfl, by decide +kernel⟩ ?hw ?hc
  case hw => w_witness2
  k_fill
  intro w s₀ s₁ mg mb G Y fa o pm cd doc dV kV ho hd hcd hD hmg hg args vals as hpre hlay hrd hwl hlo
  have KX : (Mine.hd.heap_39 w.params).In s₁.heap := kIn_of (K := Mine.hd.heap_39) Y
  obtain ⟨oc, od, name, qual, params, body, scope, dV', kV', doc', pm', cdv, ct, an, osl, hlk, hJ⟩ := law_body w
  have hT : TopRead Mine.hd.view_39 LS mg mb s₁.heap := Ground.open G fun T _ _ _ _ => topRead_of T
  have e226 : mg (Str.ofString "law") = some (.ref 226) := mg_of KX hT.g (by k_is)
  have hfa : fa = 226 := by
    have h2 : mg (Str.ofString "law") = some (.ref fa) := hmg
    rw [e226] at h2
    cases h2; rfl
  have eo := KX _ _ hlk
  have hd2 : Data.func (fnOf name qual params body scope dV' kV' doc' pm' an cdv ct) = o.data := by
    rw [hfa, eo] at ho
    cases ho; rfl
  rw [hd] at hd2
  simp only [fnOf, docDef, Data.func.injEq, FuncData.mk.injEq] at hd2
  obtain ⟨-, hq, -, hb, hs, -, -, -, -, -, -, -, hc, -⟩ := hd2
  have hb := FuncBody.stmts.inj hb
  subst hq hb hs hc
  subst hfa
  clear hlk eo e226
  refine Ground.open G ?_
  intro T B D TE TW
  try (refine guard_noD D (by decide +kernel) ?_; clear D)
  obtain ⟨_, _, M⟩ := bmod_of_top T
  have TA := at_of_top T
  try (obtain ⟨_, _, he, B0⟩ := based_of_top T rfl hmg ho hd; have he' : cdv = _ := he; subst he'; clear he)
  clear hmg
  wrow_args hpre hlay hrd hwl hlo
  refine enter_call ?_
  w_top on
  refine codeAny_mono ?_ (fun _ _ g => GoodW.toG g)
  have K0 := below_caller (Top.heap T)
  w_call any ho hd hcd hD T F
  have F := ‹Fr s₁.heap _ _ _›
  have hL := ‹s₁.heap.IsList _ _›
  have hI := ‹IntsAre _ _›
  have hC := ‹¬ (63 : Int) < _›
  obtain ⟨lo', hlo1, hlo2, nn, hlo3⟩ := hL
  refine wpAny_mono (hJ { A := callerA.deeper (envOf _ _ s₁.heap.objs.size 226 _), G := fun a => s₁.heap.get? a, L := s₁.heap.objs.size, bx := none, os := s₁.os } _ lo' _ _ nn rfl ⟨⟨s₁.heap, mg, mb, KX, hT, fun a o e => e, Nat.le_refl _⟩, rfl, ?dep, ?un⟩ hlo1 hlo2 hlo3 hI (by have := hI.length; omega) _ ⟨hg, rfl⟩ ⟨⟨_, F.ns, fun x v e => e⟩, fun a o e => ⟨F.keep a o e, ⟨Nat.ne_of_lt (Heap.lt_size e), fun p hp => (by cases hp)⟩, (by simp)⟩, fun p hp => (by cases hp), List.nodup_nil, fun p hp => (by cases hp)⟩) (fun fl s' P => ?_) fun _ _ e => e.elim
  case dep => show callerA.depth + 1 + 20 ≤ 900; decide +kernel
  case un => show callerA.units + 3 + 8 * 20 ≤ 9000; decide +kernel
  obtain ⟨ok', l', H', S', p', n', q⟩ := P
  have keep : ∀ b o, s₁.heap.get? b = some o → s'.heap.get? b = some o := fun b o e => (S'.kn b o e).1
  have hv : ∀ x, (match fl with | .ret v => v | x => Value.none) = x → x = retOf fl := by intro x e; cases fl <;> exact e.symm
  refine ⟨.inl ⟨.bool true, .bool true, [], ?_, fun _ => rfl, .bool true, (by wrow_post), fun _ => ⟨.nil, fun _ ha => nomatch ha⟩⟩, keep, ok'.2, ok'.1⟩
  rw [← q]
  cases fl <;> rfl
end
end Mine

theorem PySem.Challenge.cw_pc0164_01_holds : PySem.Challenge.rw_pc0164_01.Holds := by
  exact Mine.fin
