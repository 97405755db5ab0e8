import PyProof.Rows.All
import Wide.All
import OpenK.AllK
import Wide.FinOn
import Lean
import PySem.Challenge.RW_sf0018_01
set_option Elab.async false
set_option maxRecDepth 100000
namespace Mine
set_option maxHeartbeats 4000000
section KD
open PySem PySem.W PyProof.Rows PySem.Calls PySem.Spec
noncomputable def fnBody : Stmt → List Stmt
  | .FunctionDef _ _ b _ _ _ _ _ _ _ => b
  | _ => []
noncomputable def fnScope : Stmt → Scope
  | .FunctionDef _ _ _ _ _ _ sc _ _ _ => sc
  | _ => { kind := .function, names := [], isGenerator := false, isCoroutine := false }
noncomputable def fnParams : Stmt → Arguments
  | .FunctionDef _ a _ _ _ _ _ _ _ _ => a
  | _ => { posonlyargs := [], args := [], vararg := none, kwonlyargs := [], kw_defaults := [], kwarg := none, defaults := [] }
noncomputable def clsBody : Stmt → List Stmt
  | .ClassDef _ _ _ b _ _ _ _ _ _ _ => b
  | _ => []
/-- the text's statements, and those of its classes -/
noncomputable def S (i : Nat) : Stmt := PySem.Challenge.rw_sf0018_01.row.prog.main.body.getD i (.Pass default)
noncomputable def M (i j : Nat) : Stmt := (clsBody (S i)).getD j (.Pass default)
/-- the objects that the text's top has made, as far as the proof needs them -/
noncomputable def KD : Params → Frag := fun P =>
  (nat_lit 2, { cls := Value.none, data := Data.dict #[] }) ::
  (nat_lit 3, { cls := Value.type "dict", data := Data.dict #[{ hash := PyData.keyHash P (Str.ofString "__name__"), key := Value.str (Str.ofString "__name__") 165, val := Value.str (Str.ofString "law_sf0018_01") 667 }, { hash := PyData.keyHash P (Str.ofString "__doc__"), key := Value.str (Str.ofString "__doc__") 166, val := Value.none }, { hash := PyData.keyHash P (Str.ofString "__package__"), key := Value.str (Str.ofString "__package__") 167, val := Value.none }, { hash := PyData.keyHash P (Str.ofString "__loader__"), key := Value.str (Str.ofString "__loader__") 168, val := Value.builtin "__main__.__loader__#opaque" }, { hash := PyData.keyHash P (Str.ofString "__spec__"), key := Value.str (Str.ofString "__spec__") 169, val := Value.none }, { hash := PyData.keyHash P (Str.ofString "__annotations__"), key := Value.str (Str.ofString "__annotations__") 170, val := Value.ref 6 }, { hash := PyData.keyHash P (Str.ofString "__builtins__"), key := Value.str (Str.ofString "__builtins__") 171, val := Value.ref 4 }, { hash := PyData.keyHash P (Str.ofString "__file__"), key := Value.str (Str.ofString "__file__") 173, val := Value.str (Str.ofString "/claim/cut.py") 172 }, { hash := PyData.keyHash P (Str.ofString "__cached__"), key := Value.str (Str.ofString "__cached__") 174, val := Value.none }, { hash := PyData.keyHash P (Str.ofString "_wall"), key := Value.str (Str.ofString "_wall") 193, val := Value.ref 21 }, { hash := PyData.keyHash P (Str.ofString "Tables"), key := Value.str (Str.ofString "Tables") 325, val := Value.ref 115 }, { hash := PyData.keyHash P (Str.ofString "KINDS"), key := Value.str (Str.ofString "KINDS") 346, val := Value.ref 124 }, { hash := PyData.keyHash P (Str.ofString "row_key"), key := Value.str (Str.ofString "row_key") 352, val := Value.ref 129 }, { hash := PyData.keyHash P (Str.ofString "owners_of"), key := Value.str (Str.ofString "owners_of") 363, val := Value.ref 136 }, { hash := PyData.keyHash P (Str.ofString "packing_order"), key := Value.str (Str.ofString "packing_order") 369, val := Value.ref 141 }, { hash := PyData.keyHash P (Str.ofString "Comb"), key := Value.str (Str.ofString "Comb") 445, val := Value.ref 193 }, { hash := PyData.keyHash P (Str.ofString "pack_rows"), key := Value.str (Str.ofString "pack_rows") 451, val := Value.ref 202 }, { hash := PyData.keyHash P (Str.ofString "look_up"), key := Value.str (Str.ofString "look_up") 464, val := Value.ref 209 }, { hash := PyData.keyHash P (Str.ofString "PackedRows"), key := Value.str (Str.ofString "PackedRows") 554, val := Value.ref 275 }, { hash := PyData.keyHash P (Str.ofString "packed_rows"), key := Value.str (Str.ofString "packed_rows") 564, val := Value.ref 286 }, { hash := PyData.keyHash P (Str.ofString "PackedTables"), key := Value.str (Str.ofString "PackedTables") 643, val := Value.ref 331 }, { hash := PyData.keyHash P (Str.ofString "cell_kind"), key := Value.str (Str.ofString "cell_kind") 656, val := Value.ref 340 }, { hash := PyData.keyHash P (Str.ofString "octets"), key := Value.str (Str.ofString "octets") 666, val := Value.ref 347 }, { hash := PyData.keyHash P (Str.ofString "_law_sizes"), key := Value.str (Str.ofString "_law_sizes") 679, val := Value.ref 348 }, { hash := PyData.keyHash P (Str.ofString "_law_worths"), key := Value.str (Str.ofString "_law_worths") 695, val := Value.ref 349 }, { hash := PyData.keyHash P (Str.ofString "_law_trug"), key := Value.str (Str.ofString "_law_trug") 701, val := Value.ref 354 }, { hash := PyData.keyHash P (Str.ofString "_law_dig"), key := Value.str (Str.ofString "_law_dig") 712, val := Value.ref 361 }, { hash := PyData.keyHash P (Str.ofString "_law_worth"), key := Value.str (Str.ofString "_law_worth") 719, val := Value.ref 368 }, { hash := PyData.keyHash P (Str.ofString "_law_row"), key := Value.str (Str.ofString "_law_row") 725, val := Value.ref 373 }, { hash := PyData.keyHash P (Str.ofString "_law_laid"), key := Value.str (Str.ofString "_law_laid") 731, val := Value.ref 378 }, { hash := PyData.keyHash P (Str.ofString "_law_octets"), key := Value.str (Str.ofString "_law_octets") 741, val := Value.ref 385 }, { hash := PyData.keyHash P (Str.ofString "law"), key := Value.str (Str.ofString "law") 747, val := Value.ref 390 }] 32 }) ::
  (nat_lit 15, { cls := Value.type "tuple", data := Data.seq #[] }) ::
  (nat_lit 17, { cls := Value.type "tuple", data := Data.seq #[Value.str (Str.ofString "k") 190] }) ::
  (nat_lit 18, { cls := Value.type "tuple", data := Data.seq #[] }) ::
  (nat_lit 20, { cls := Value.type "code", data := Data.fields #[Value.str (Str.ofString "_wall") 187, Value.str (Str.ofString "_wall") 188, Value.str (Str.ofString "/claim/cut.py") 189, Value.int 1 0, Value.int 1 0, Value.int 0 0, Value.int 0 0, Value.int 3 0, Value.ref 15, Value.bool Bool.true, Value.int 181 0, Value.ref 16, Value.none, Value.ref 17, Value.ref 18, Value.ref 19, Value.int 191 0, Value.int 1 0, Value.str (Str.ofString "/claim/cut.py") 192] }) ::
  (nat_lit 29, { cls := Value.type "tuple", data := Data.seq #[] }) ::
  (nat_lit 31, { cls := Value.type "tuple", data := Data.seq #[Value.str (Str.ofString "self") 211, Value.str (Str.ofString "names") 212, Value.str (Str.ofString "terminal_count") 213, Value.str (Str.ofString "lefts") 214, Value.str (Str.ofString "lengths") 215, Value.str (Str.ofString "befores") 216, Value.str (Str.ofString "number") 217] }) ::
  (nat_lit 32, { cls := Value.type "tuple", data := Data.seq #[] }) ::
  (nat_lit 34, { cls := Value.type "code", data := Data.fields #[Value.str (Str.ofString "__init__") 208, Value.str (Str.ofString "Tables.__init__") 209, Value.str (Str.ofString "/claim/cut.py") 210, Value.int 7 0, Value.int 6 0, Value.int 0 0, Value.int 0 0, Value.int 3 0, Value.ref 29, Value.bool Bool.true, Value.int 181 0, Value.ref 30, Value.none, Value.ref 31, Value.ref 32, Value.ref 33, Value.int 218 0, Value.int 7 0, Value.str (Str.ofString "/claim/cut.py") 219] }) ::
  (nat_lit 35, { cls := Value.type "function", data := Data.func ({ name := Str.ofString "__init__", qualname := Str.ofString "Tables.__init__", params := fnParams (M 2 0), body := FuncBody.stmts (fnBody (M 2 0)), scope := fnScope (M 2 0), globals := 3, closure := [], defaults := Value.none, kwdefaults := Value.none, pyModule := Value.str (Str.ofString "grammarmill.tables") 194, code := Value.ref 34 }) }) ::
  (nat_lit 36, { cls := Value.type "tuple", data := Data.seq #[] }) ::
  (nat_lit 38, { cls := Value.type "tuple", data := Data.seq #[Value.str (Str.ofString "self") 224, Value.str (Str.ofString "name") 225] }) ::
  (nat_lit 39, { cls := Value.type "tuple", data := Data.seq #[] }) ::
  (nat_lit 41, { cls := Value.type "code", data := Data.fields #[Value.str (Str.ofString "terminal") 221, Value.str (Str.ofString "Tables.terminal") 222, Value.str (Str.ofString "/claim/cut.py") 223, Value.int 18 0, Value.int 2 0, Value.int 0 0, Value.int 0 0, Value.int 3 0, Value.ref 36, Value.bool Bool.true, Value.int 181 0, Value.ref 37, Value.none, Value.ref 38, Value.ref 39, Value.ref 40, Value.int 226 0, Value.int 18 0, Value.str (Str.ofString "/claim/cut.py") 227] }) ::
  (nat_lit 43, { cls := Value.type "tuple", data := Data.seq #[] }) ::
  (nat_lit 45, { cls := Value.type "tuple", data := Data.seq #[Value.str (Str.ofString "self") 232, Value.str (Str.ofString "rule") 233] }) ::
  (nat_lit 46, { cls := Value.type "tuple", data := Data.seq #[] }) ::
  (nat_lit 48, { cls := Value.type "code", data := Data.fields #[Value.str (Str.ofString "left") 229, Value.str (Str.ofString "Tables.left") 230, Value.str (Str.ofString "/claim/cut.py") 231, Value.int 21 0, Value.int 2 0, Value.int 0 0, Value.int 0 0, Value.int 3 0, Value.ref 43, Value.bool Bool.true, Value.int 181 0, Value.ref 44, Value.none, Value.ref 45, Value.ref 46, Value.ref 47, Value.int 234 0, Value.int 21 0, Value.str (Str.ofString "/claim/cut.py") 235] }) ::
  (nat_lit 49, { cls := Value.type "function", data := Data.func ({ name := Str.ofString "left", qualname := Str.ofString "Tables.left", params := fnParams (M 2 2), body := FuncBody.stmts (fnBody (M 2 2)), scope := fnScope (M 2 2), globals := 3, closure := [], defaults := Value.none, kwdefaults := Value.none, pyModule := Value.str (Str.ofString "grammarmill.tables") 194, code := Value.ref 48 }) }) ::
  (nat_lit 50, { cls := Value.type "tuple", data := Data.seq #[] }) ::
  (nat_lit 52, { cls := Value.type "tuple", data := Data.seq #[Value.str (Str.ofString "self") 240, Value.str (Str.ofString "rule") 241] }) ::
  (nat_lit 53, { cls := Value.type "tuple", data := Data.seq #[] }) ::
  (nat_lit 55, { cls := Value.type "code", data := Data.fields #[Value.str (Str.ofString "length") 237, Value.str (Str.ofString "Tables.length") 238, Value.str (Str.ofString "/claim/cut.py") 239, Value.int 24 0, Value.int 2 0, Value.int 0 0, Value.int 0 0, Value.int 3 0, Value.ref 50, Value.bool Bool.true, Value.int 181 0, Value.ref 51, Value.none, Value.ref 52, Value.ref 53, Value.ref 54, Value.int 242 0, Value.int 24 0, Value.str (Str.ofString "/claim/cut.py") 243] }) ::
  (nat_lit 57, { cls := Value.type "tuple", data := Data.seq #[] }) ::
  (nat_lit 59, { cls := Value.type "tuple", data := Data.seq #[Value.str (Str.ofString "self") 248, Value.str (Str.ofString "rule") 249] }) ::
  (nat_lit 60, { cls := Value.type "tuple", data := Data.seq #[] }) ::
  (nat_lit 62, { cls := Value.type "code", data := Data.fields #[Value.str (Str.ofString "before") 245, Value.str (Str.ofString "Tables.before") 246, Value.str (Str.ofString "/claim/cut.py") 247, Value.int 27 0, Value.int 2 0, Value.int 0 0, Value.int 0 0, Value.int 3 0, Value.ref 57, Value.bool Bool.true, Value.int 181 0, Value.ref 58, Value.none, Value.ref 59, Value.ref 60, Value.ref 61, Value.int 250 0, Value.int 27 0, Value.str (Str.ofString "/claim/cut.py") 251] }) ::
  (nat_lit 64, { cls := Value.type "tuple", data := Data.seq #[] }) ::
  (nat_lit 66, { cls := Value.type "tuple", data := Data.seq #[Value.str (Str.ofString "self") 256] }) ::
  (nat_lit 67, { cls := Value.type "tuple", data := Data.seq #[] }) ::
  (nat_lit 69, { cls := Value.type "code", data := Data.fields #[Value.str (Str.ofString "state_count") 253, Value.str (Str.ofString "Tables.state_count") 254, Value.str (Str.ofString "/claim/cut.py") 255, Value.int 30 0, Value.int 1 0, Value.int 0 0, Value.int 0 0, Value.int 3 0, Value.ref 64, Value.bool Bool.true, Value.int 181 0, Value.ref 65, Value.none, Value.ref 66, Value.ref 67, Value.ref 68, Value.int 257 0, Value.int 30 0, Value.str (Str.ofString "/claim/cut.py") 258] }) ::
  (nat_lit 71, { cls := Value.type "tuple", data := Data.seq #[] }) ::
  (nat_lit 73, { cls := Value.type "tuple", data := Data.seq #[Value.str (Str.ofString "self") 263, Value.str (Str.ofString "state") 264, Value.str (Str.ofString "terminal") 265] }) ::
  (nat_lit 74, { cls := Value.type "tuple", data := Data.seq #[] }) ::
  (nat_lit 76, { cls := Value.type "code", data := Data.fields #[Value.str (Str.ofString "explicit") 260, Value.str (Str.ofString "Tables.explicit") 261, Value.str (Str.ofString "/claim/cut.py") 262, Value.int 33 0, Value.int 3 0, Value.int 0 0, Value.int 0 0, Value.int 3 0, Value.ref 71, Value.bool Bool.true, Value.int 181 0, Value.ref 72, Value.none, Value.ref 73, Value.ref 74, Value.ref 75, Value.int 266 0, Value.int 33 0, Value.str (Str.ofString "/claim/cut.py") 267] }) ::
  (nat_lit 78, { cls := Value.type "tuple", data := Data.seq #[] }) ::
  (nat_lit 80, { cls := Value.type "tuple", data := Data.seq #[Value.str (Str.ofString "self") 272, Value.str (Str.ofString "state") 273] }) ::
  (nat_lit 81, { cls := Value.type "tuple", data := Data.seq #[] }) ::
  (nat_lit 83, { cls := Value.type "code", data := Data.fields #[Value.str (Str.ofString "default") 269, Value.str (Str.ofString "Tables.default") 270, Value.str (Str.ofString "/claim/cut.py") 271, Value.int 36 0, Value.int 2 0, Value.int 0 0, Value.int 0 0, Value.int 3 0, Value.ref 78, Value.bool Bool.true, Value.int 181 0, Value.ref 79, Value.none, Value.ref 80, Value.ref 81, Value.ref 82, Value.int 274 0, Value.int 36 0, Value.str (Str.ofString "/claim/cut.py") 275] }) ::
  (nat_lit 85, { cls := Value.type "tuple", data := Data.seq #[] }) ::
  (nat_lit 87, { cls := Value.type "tuple", data := Data.seq #[Value.str (Str.ofString "self") 280, Value.str (Str.ofString "state") 281, Value.str (Str.ofString "nonterminal") 282] }) ::
  (nat_lit 88, { cls := Value.type "tuple", data := Data.seq #[] }) ::
  (nat_lit 90, { cls := Value.type "code", data := Data.fields #[Value.str (Str.ofString "goto") 277, Value.str (Str.ofString "Tables.goto") 278, Value.str (Str.ofString "/claim/cut.py") 279, Value.int 39 0, Value.int 3 0, Value.int 0 0, Value.int 0 0, Value.int 3 0, Value.ref 85, Value.bool Bool.true, Value.int 181 0, Value.ref 86, Value.none, Value.ref 87, Value.ref 88, Value.ref 89, Value.int 283 0, Value.int 39 0, Value.str (Str.ofString "/claim/cut.py") 284] }) ::
  (nat_lit 92, { cls := Value.type "tuple", data := Data.seq #[] }) ::
  (nat_lit 94, { cls := Value.type "tuple", data := Data.seq #[Value.str (Str.ofString "self") 289, Value.str (Str.ofString "state") 290, Value.str (Str.ofString "terminal") 291] }) ::
  (nat_lit 95, { cls := Value.type "tuple", data := Data.seq #[] }) ::
  (nat_lit 97, { cls := Value.type "code", data := Data.fields #[Value.str (Str.ofString "action") 286, Value.str (Str.ofString "Tables.action") 287, Value.str (Str.ofString "/claim/cut.py") 288, Value.int 42 0, Value.int 3 0, Value.int 0 0, Value.int 0 0, Value.int 3 0, Value.ref 92, Value.bool Bool.true, Value.int 181 0, Value.ref 93, Value.none, Value.ref 94, Value.ref 95, Value.ref 96, Value.int 292 0, Value.int 42 0, Value.str (Str.ofString "/claim/cut.py") 293] }) ::
  (nat_lit 99, { cls := Value.type "tuple", data := Data.seq #[] }) ::
  (nat_lit 101, { cls := Value.type "tuple", data := Data.seq #[Value.str (Str.ofString "self") 298, Value.str (Str.ofString "state") 299] }) ::
  (nat_lit 102, { cls := Value.type "tuple", data := Data.seq #[] }) ::
  (nat_lit 104, { cls := Value.type "code", data := Data.fields #[Value.str (Str.ofString "expected") 295, Value.str (Str.ofString "Tables.expected") 296, Value.str (Str.ofString "/claim/cut.py") 297, Value.int 45 0, Value.int 2 0, Value.int 0 0, Value.int 0 0, Value.int 3 0, Value.ref 99, Value.bool Bool.true, Value.int 181 0, Value.ref 100, Value.none, Value.ref 101, Value.ref 102, Value.ref 103, Value.int 300 0, Value.int 45 0, Value.str (Str.ofString "/claim/cut.py") 301] }) ::
  (nat_lit 106, { cls := Value.type "tuple", data := Data.seq #[] }) ::
  (nat_lit 108, { cls := Value.type "tuple", data := Data.seq #[Value.str (Str.ofString "self") 306, Value.str (Str.ofString "state") 307] }) ::
  (nat_lit 109, { cls := Value.type "tuple", data := Data.seq #[] }) ::
  (nat_lit 111, { cls := Value.type "code", data := Data.fields #[Value.str (Str.ofString "is_consistent") 303, Value.str (Str.ofString "Tables.is_consistent") 304, Value.str (Str.ofString "/claim/cut.py") 305, Value.int 48 0, Value.int 2 0, Value.int 0 0, Value.int 0 0, Value.int 3 0, Value.ref 106, Value.bool Bool.true, Value.int 181 0, Value.ref 107, Value.none, Value.ref 108, Value.ref 109, Value.ref 110, Value.int 308 0, Value.int 48 0, Value.str (Str.ofString "/claim/cut.py") 309] }) ::
  (nat_lit 113, { cls := Value.type "tuple", data := Data.seq #[Value.str (Str.ofString "befores") 311, Value.str (Str.ofString "defaults") 312, Value.str (Str.ofString "lefts") 313, Value.str (Str.ofString "lengths") 314, Value.str (Str.ofString "names") 315, Value.str (Str.ofString "numbers") 316, Value.str (Str.ofString "terminal_count") 317] }) ::
  (nat_lit 114, { cls := Value.type "dict", data := Data.dict #[{ hash := PyData.keyHash P (Str.ofString "__module__"), key := Value.str (Str.ofString "__module__") 203, val := Value.str (Str.ofString "grammarmill.tables") 194 }, { hash := PyData.keyHash P (Str.ofString "__firstlineno__"), key := Value.str (Str.ofString "__firstlineno__") 207, val := Value.int 5 206 }, { hash := PyData.keyHash P (Str.ofString "__init__"), key := Value.str (Str.ofString "__init__") 220, val := Value.ref 35 }, { hash := PyData.keyHash P (Str.ofString "terminal"), key := Value.str (Str.ofString "terminal") 228, val := Value.ref 42 }, { hash := PyData.keyHash P (Str.ofString "left"), key := Value.str (Str.ofString "left") 236, val := Value.ref 49 }, { hash := PyData.keyHash P (Str.ofString "length"), key := Value.str (Str.ofString "length") 244, val := Value.ref 56 }, { hash := PyData.keyHash P (Str.ofString "before"), key := Value.str (Str.ofString "before") 252, val := Value.ref 63 }, { hash := PyData.keyHash P (Str.ofString "state_count"), key := Value.str (Str.ofString "state_count") 259, val := Value.ref 70 }, { hash := PyData.keyHash P (Str.ofString "explicit"), key := Value.str (Str.ofString "explicit") 268, val := Value.ref 77 }, { hash := PyData.keyHash P (Str.ofString "default"), key := Value.str (Str.ofString "default") 276, val := Value.ref 84 }, { hash := PyData.keyHash P (Str.ofString "goto"), key := Value.str (Str.ofString "goto") 285, val := Value.ref 91 }, { hash := PyData.keyHash P (Str.ofString "action"), key := Value.str (Str.ofString "action") 294, val := Value.ref 98 }, { hash := PyData.keyHash P (Str.ofString "expected"), key := Value.str (Str.ofString "expected") 302, val := Value.ref 105 }, { hash := PyData.keyHash P (Str.ofString "is_consistent"), key := Value.str (Str.ofString "is_consistent") 310, val := Value.ref 112 }, { hash := PyData.keyHash P (Str.ofString "__static_attributes__"), key := Value.str (Str.ofString "__static_attributes__") 318, val := Value.ref 113 }, { hash := PyData.keyHash P (Str.ofString "__dict__"), key := Value.str (Str.ofString "__dict__") 320, val := Value.ref 116 }, { hash := PyData.keyHash P (Str.ofString "__weakref__"), key := Value.str (Str.ofString "__weakref__") 322, val := Value.ref 117 }, { hash := PyData.keyHash P (Str.ofString "__doc__"), key := Value.str (Str.ofString "__doc__") 323, val := Value.none }] 4 }) ::
  (nat_lit 115, { cls := Value.type "type", data := Data.cls { name := Str.ofString "Tables", bases := [Value.type "object"], mro := [Value.ref 115, Value.type "object"], ns := 114, qualname := Str.ofString "Tables", subclasses := [Value.ref 331] }, slots := #[Option.none, Option.none, Option.some (Value.str (Str.ofString "Tables") 196), Option.some (Value.str (Str.ofString "Tables") 204), Option.some (Value.builtin "object.__new__"), Option.some (Value.bool Bool.true)] }) ::
  (nat_lit 116, { cls := Value.type "getset_descriptor", data := Data.fields #[Value.str (Str.ofString "__dict__") 319, Value.ref 115, Value.builtin "function.__dict__", Value.builtin "function.__dict__#set"] }) ::
  (nat_lit 117, { cls := Value.type "getset_descriptor", data := Data.fields #[Value.str (Str.ofString "__weakref__") 321, Value.ref 115, Value.builtin "ExceptionGroup.__weakref__", Value.none] }) ::
  (nat_lit 120, { cls := Value.type "tuple", data := Data.seq #[Value.str (Str.ofString "int8") 328, Value.int (-127) 330, Value.int 127 331, Value.int 1 332] }) ::
  (nat_lit 121, { cls := Value.type "tuple", data := Data.seq #[Value.str (Str.ofString "uint8") 333, Value.int 0 334, Value.int 255 335, Value.int 1 336] }) ::
  (nat_lit 122, { cls := Value.type "tuple", data := Data.seq #[Value.str (Str.ofString "int16") 337, Value.int (-32767) 339, Value.int 32767 340, Value.int 2 341] }) ::
  (nat_lit 123, { cls := Value.type "tuple", data := Data.seq #[Value.str (Str.ofString "uint16") 342, Value.int 0 343, Value.int 65535 344, Value.int 2 345] }) ::
  (nat_lit 124, { cls := Value.type "tuple", data := Data.seq #[Value.ref 120, Value.ref 121, Value.ref 122, Value.ref 123] }) ::
  (nat_lit 125, { cls := Value.type "tuple", data := Data.seq #[] }) ::
  (nat_lit 128, { cls := Value.type "code", data := Data.fields #[Value.str (Str.ofString "row_key") 347, Value.str (Str.ofString "row_key") 348, Value.str (Str.ofString "/claim/cut.py") 349, Value.int 52 0, Value.int 1 0, Value.int 0 0, Value.int 0 0, Value.int 3 0, Value.ref 125, Value.bool Bool.true, Value.int 181 0, Value.ref 126, Value.none, Value.none, Value.none, Value.ref 127, Value.int 350 0, Value.int 52 0, Value.str (Str.ofString "/claim/cut.py") 351] }) ::
  (nat_lit 129, { cls := Value.type "function", data := Data.func ({ name := Str.ofString "row_key", qualname := Str.ofString "row_key", params := fnParams (S 5), body := FuncBody.stmts (fnBody (S 5)), scope := fnScope (S 5), globals := 3, closure := [], defaults := Value.none, kwdefaults := Value.none, pyModule := Value.str (Str.ofString "grammarmill.packing") 326, code := Value.ref 128 }) }) ::
  (nat_lit 130, { cls := Value.type "tuple", data := Data.seq #[] }) ::
  (nat_lit 132, { cls := Value.type "tuple", data := Data.seq #[Value.str (Str.ofString "rows") 356, Value.str (Str.ofString "firsts") 357, Value.str (Str.ofString "owners") 358, Value.str (Str.ofString "number") 359, Value.str (Str.ofString "key") 360] }) ::
  (nat_lit 133, { cls := Value.type "tuple", data := Data.seq #[] }) ::
  (nat_lit 135, { cls := Value.type "code", data := Data.fields #[Value.str (Str.ofString "owners_of") 353, Value.str (Str.ofString "owners_of") 354, Value.str (Str.ofString "/claim/cut.py") 355, Value.int 54 0, Value.int 1 0, Value.int 0 0, Value.int 0 0, Value.int 3 0, Value.ref 130, Value.bool Bool.true, Value.int 181 0, Value.ref 131, Value.none, Value.ref 132, Value.ref 133, Value.ref 134, Value.int 361 0, Value.int 54 0, Value.str (Str.ofString "/claim/cut.py") 362] }) ::
  (nat_lit 136, { cls := Value.type "function", data := Data.func ({ name := Str.ofString "owners_of", qualname := Str.ofString "owners_of", params := fnParams (S 6), body := FuncBody.stmts (fnBody (S 6)), scope := fnScope (S 6), globals := 3, closure := [], defaults := Value.none, kwdefaults := Value.none, pyModule := Value.str (Str.ofString "grammarmill.packing") 326, code := Value.ref 135 }) }) ::
  (nat_lit 137, { cls := Value.type "tuple", data := Data.seq #[] }) ::
  (nat_lit 140, { cls := Value.type "code", data := Data.fields #[Value.str (Str.ofString "packing_order") 364, Value.str (Str.ofString "packing_order") 365, Value.str (Str.ofString "/claim/cut.py") 366, Value.int 63 0, Value.int 2 0, Value.int 0 0, Value.int 0 0, Value.int 3 0, Value.ref 137, Value.bool Bool.true, Value.int 181 0, Value.ref 138, Value.none, Value.none, Value.none, Value.ref 139, Value.int 367 0, Value.int 63 0, Value.str (Str.ofString "/claim/cut.py") 368] }) ::
  (nat_lit 141, { cls := Value.type "function", data := Data.func ({ name := Str.ofString "packing_order", qualname := Str.ofString "packing_order", params := fnParams (S 7), body := FuncBody.stmts (fnBody (S 7)), scope := fnScope (S 7), globals := 3, closure := [], defaults := Value.none, kwdefaults := Value.none, pyModule := Value.str (Str.ofString "grammarmill.packing") 326, code := Value.ref 140 }) }) ::
  (nat_lit 149, { cls := Value.type "tuple", data := Data.seq #[] }) ::
  (nat_lit 151, { cls := Value.type "tuple", data := Data.seq #[Value.str (Str.ofString "self") 385] }) ::
  (nat_lit 152, { cls := Value.type "tuple", data := Data.seq #[] }) ::
  (nat_lit 154, { cls := Value.type "code", data := Data.fields #[Value.str (Str.ofString "__init__") 382, Value.str (Str.ofString "Comb.__init__") 383, Value.str (Str.ofString "/claim/cut.py") 384, Value.int 71 0, Value.int 1 0, Value.int 0 0, Value.int 0 0, Value.int 3 0, Value.ref 149, Value.bool Bool.true, Value.int 181 0, Value.ref 150, Value.none, Value.ref 151, Value.ref 152, Value.ref 153, Value.int 386 0, Value.int 71 0, Value.str (Str.ofString "/claim/cut.py") 387] }) ::
  (nat_lit 155, { cls := Value.type "function", data := Data.func ({ name := Str.ofString "__init__", qualname := Str.ofString "Comb.__init__", params := fnParams (M 8 0), body := FuncBody.stmts (fnBody (M 8 0)), scope := fnScope (M 8 0), globals := 3, closure := [], defaults := Value.none, kwdefaults := Value.none, pyModule := Value.str (Str.ofString "grammarmill.packing") 326, code := Value.ref 154 }) }) ::
  (nat_lit 156, { cls := Value.type "tuple", data := Data.seq #[] }) ::
  (nat_lit 158, { cls := Value.type "tuple", data := Data.seq #[Value.str (Str.ofString "self") 392, Value.str (Str.ofString "cell") 393] }) ::
  (nat_lit 159, { cls := Value.type "tuple", data := Data.seq #[] }) ::
  (nat_lit 161, { cls := Value.type "code", data := Data.fields #[Value.str (Str.ofString "is_free") 389, Value.str (Str.ofString "Comb.is_free") 390, Value.str (Str.ofString "/claim/cut.py") 391, Value.int 75 0, Value.int 2 0, Value.int 0 0, Value.int 0 0, Value.int 3 0, Value.ref 156, Value.bool Bool.true, Value.int 181 0, Value.ref 157, Value.none, Value.ref 158, Value.ref 159, Value.ref 160, Value.int 394 0, Value.int 75 0, Value.str (Str.ofString "/claim/cut.py") 395] }) ::
  (nat_lit 162, { cls := Value.type "function", data := Data.func ({ name := Str.ofString "is_free", qualname := Str.ofString "Comb.is_free", params := fnParams (M 8 1), body := FuncBody.stmts (fnBody (M 8 1)), scope := fnScope (M 8 1), globals := 3, closure := [], defaults := Value.none, kwdefaults := Value.none, pyModule := Value.str (Str.ofString "grammarmill.packing") 326, code := Value.ref 161 }) }) ::
  (nat_lit 163, { cls := Value.type "tuple", data := Data.seq #[] }) ::
  (nat_lit 165, { cls := Value.type "tuple", data := Data.seq #[Value.str (Str.ofString "self") 400, Value.str (Str.ofString "base") 401, Value.str (Str.ofString "columns") 402, Value.str (Str.ofString "column") 403] }) ::
  (nat_lit 166, { cls := Value.type "tuple", data := Data.seq #[] }) ::
  (nat_lit 168, { cls := Value.type "code", data := Data.fields #[Value.str (Str.ofString "fits") 397, Value.str (Str.ofString "Comb.fits") 398, Value.str (Str.ofString "/claim/cut.py") 399, Value.int 78 0, Value.int 3 0, Value.int 0 0, Value.int 0 0, Value.int 3 0, Value.ref 163, Value.bool Bool.true, Value.int 181 0, Value.ref 164, Value.none, Value.ref 165, Value.ref 166, Value.ref 167, Value.int 404 0, Value.int 78 0, Value.str (Str.ofString "/claim/cut.py") 405] }) ::
  (nat_lit 169, { cls := Value.type "function", data := Data.func ({ name := Str.ofString "fits", qualname := Str.ofString "Comb.fits", params := fnParams (M 8 2), body := FuncBody.stmts (fnBody (M 8 2)), scope := fnScope (M 8 2), globals := 3, closure := [], defaults := Value.none, kwdefaults := Value.none, pyModule := Value.str (Str.ofString "grammarmill.packing") 326, code := Value.ref 168 }) }) ::
  (nat_lit 170, { cls := Value.type "tuple", data := Data.seq #[] }) ::
  (nat_lit 172, { cls := Value.type "tuple", data := Data.seq #[Value.str (Str.ofString "self") 410, Value.str (Str.ofString "columns") 411, Value.str (Str.ofString "base") 412] }) ::
  (nat_lit 173, { cls := Value.type "tuple", data := Data.seq #[] }) ::
  (nat_lit 175, { cls := Value.type "code", data := Data.fields #[Value.str (Str.ofString "first_fit") 407, Value.str (Str.ofString "Comb.first_fit") 408, Value.str (Str.ofString "/claim/cut.py") 409, Value.int 84 0, Value.int 2 0, Value.int 0 0, Value.int 0 0, Value.int 3 0, Value.ref 170, Value.bool Bool.true, Value.int 181 0, Value.ref 171, Value.none, Value.ref 172, Value.ref 173, Value.ref 174, Value.int 413 0, Value.int 84 0, Value.str (Str.ofString "/claim/cut.py") 414] }) ::
  (nat_lit 176, { cls := Value.type "function", data := Data.func ({ name := Str.ofString "first_fit", qualname := Str.ofString "Comb.first_fit", params := fnParams (M 8 3), body := FuncBody.stmts (fnBody (M 8 3)), scope := fnScope (M 8 3), globals := 3, closure := [], defaults := Value.none, kwdefaults := Value.none, pyModule := Value.str (Str.ofString "grammarmill.packing") 326, code := Value.ref 175 }) }) ::
  (nat_lit 177, { cls := Value.type "tuple", data := Data.seq #[] }) ::
  (nat_lit 179, { cls := Value.type "tuple", data := Data.seq #[Value.str (Str.ofString "self") 419, Value.str (Str.ofString "many") 420] }) ::
  (nat_lit 180, { cls := Value.type "tuple", data := Data.seq #[] }) ::
  (nat_lit 182, { cls := Value.type "code", data := Data.fields #[Value.str (Str.ofString "grow") 416, Value.str (Str.ofString "Comb.grow") 417, Value.str (Str.ofString "/claim/cut.py") 418, Value.int 90 0, Value.int 2 0, Value.int 0 0, Value.int 0 0, Value.int 3 0, Value.ref 177, Value.bool Bool.true, Value.int 181 0, Value.ref 178, Value.none, Value.ref 179, Value.ref 180, Value.ref 181, Value.int 421 0, Value.int 90 0, Value.str (Str.ofString "/claim/cut.py") 422] }) ::
  (nat_lit 183, { cls := Value.type "function", data := Data.func ({ name := Str.ofString "grow", qualname := Str.ofString "Comb.grow", params := fnParams (M 8 4), body := FuncBody.stmts (fnBody (M 8 4)), scope := fnScope (M 8 4), globals := 3, closure := [], defaults := Value.none, kwdefaults := Value.none, pyModule := Value.str (Str.ofString "grammarmill.packing") 326, code := Value.ref 182 }) }) ::
  (nat_lit 184, { cls := Value.type "tuple", data := Data.seq #[] }) ::
  (nat_lit 186, { cls := Value.type "tuple", data := Data.seq #[Value.str (Str.ofString "self") 427, Value.str (Str.ofString "owner") 428, Value.str (Str.ofString "row") 429, Value.str (Str.ofString "columns") 430, Value.str (Str.ofString "base") 431, Value.str (Str.ofString "column") 432] }) ::
  (nat_lit 187, { cls := Value.type "tuple", data := Data.seq #[] }) ::
  (nat_lit 189, { cls := Value.type "code", data := Data.fields #[Value.str (Str.ofString "put") 424, Value.str (Str.ofString "Comb.put") 425, Value.str (Str.ofString "/claim/cut.py") 426, Value.int 95 0, Value.int 3 0, Value.int 0 0, Value.int 0 0, Value.int 3 0, Value.ref 184, Value.bool Bool.true, Value.int 181 0, Value.ref 185, Value.none, Value.ref 186, Value.ref 187, Value.ref 188, Value.int 433 0, Value.int 95 0, Value.str (Str.ofString "/claim/cut.py") 434] }) ::
  (nat_lit 190, { cls := Value.type "function", data := Data.func ({ name := Str.ofString "put", qualname := Str.ofString "Comb.put", params := fnParams (M 8 5), body := FuncBody.stmts (fnBody (M 8 5)), scope := fnScope (M 8 5), globals := 3, closure := [], defaults := Value.none, kwdefaults := Value.none, pyModule := Value.str (Str.ofString "grammarmill.packing") 326, code := Value.ref 189 }) }) ::
  (nat_lit 191, { cls := Value.type "tuple", data := Data.seq #[Value.str (Str.ofString "check") 436, Value.str (Str.ofString "table") 437] }) ::
  (nat_lit 192, { cls := Value.type "dict", data := Data.dict #[{ hash := PyData.keyHash P (Str.ofString "__module__"), key := Value.str (Str.ofString "__module__") 377, val := Value.str (Str.ofString "grammarmill.packing") 326 }, { hash := PyData.keyHash P (Str.ofString "__firstlineno__"), key := Value.str (Str.ofString "__firstlineno__") 381, val := Value.int 69 380 }, { hash := PyData.keyHash P (Str.ofString "__init__"), key := Value.str (Str.ofString "__init__") 388, val := Value.ref 155 }, { hash := PyData.keyHash P (Str.ofString "is_free"), key := Value.str (Str.ofString "is_free") 396, val := Value.ref 162 }, { hash := PyData.keyHash P (Str.ofString "fits"), key := Value.str (Str.ofString "fits") 406, val := Value.ref 169 }, { hash := PyData.keyHash P (Str.ofString "first_fit"), key := Value.str (Str.ofString "first_fit") 415, val := Value.ref 176 }, { hash := PyData.keyHash P (Str.ofString "grow"), key := Value.str (Str.ofString "grow") 423, val := Value.ref 183 }, { hash := PyData.keyHash P (Str.ofString "put"), key := Value.str (Str.ofString "put") 435, val := Value.ref 190 }, { hash := PyData.keyHash P (Str.ofString "__static_attributes__"), key := Value.str (Str.ofString "__static_attributes__") 438, val := Value.ref 191 }, { hash := PyData.keyHash P (Str.ofString "__dict__"), key := Value.str (Str.ofString "__dict__") 440, val := Value.ref 194 }, { hash := PyData.keyHash P (Str.ofString "__weakref__"), key := Value.str (Str.ofString "__weakref__") 442, val := Value.ref 195 }, { hash := PyData.keyHash P (Str.ofString "__doc__"), key := Value.str (Str.ofString "__doc__") 443, val := Value.none }] 4 }) ::
  (nat_lit 193, { cls := Value.type "type", data := Data.cls { name := Str.ofString "Comb", bases := [Value.type "object"], mro := [Value.ref 193, Value.type "object"], ns := 192, qualname := Str.ofString "Comb" }, slots := #[Option.none, Option.none, Option.some (Value.str (Str.ofString "Comb") 370), Option.some (Value.str (Str.ofString "Comb") 378), Option.some (Value.builtin "object.__new__"), Option.some (Value.bool Bool.true)] }) ::
  (nat_lit 194, { cls := Value.type "getset_descriptor", data := Data.fields #[Value.str (Str.ofString "__dict__") 439, Value.ref 193, Value.builtin "function.__dict__", Value.builtin "function.__dict__#set"] }) ::
  (nat_lit 195, { cls := Value.type "getset_descriptor", data := Data.fields #[Value.str (Str.ofString "__weakref__") 441, Value.ref 193, Value.builtin "ExceptionGroup.__weakref__", Value.none] }) ::
  (nat_lit 198, { cls := Value.type "tuple", data := Data.seq #[] }) ::
  (nat_lit 201, { cls := Value.type "code", data := Data.fields #[Value.str (Str.ofString "pack_rows") 446, Value.str (Str.ofString "pack_rows") 447, Value.str (Str.ofString "/claim/cut.py") 448, Value.int 103 0, Value.int 1 0, Value.int 0 0, Value.int 0 0, Value.int 3 0, Value.ref 198, Value.bool Bool.true, Value.int 181 0, Value.ref 199, Value.none, Value.none, Value.none, Value.ref 200, Value.int 449 0, Value.int 103 0, Value.str (Str.ofString "/claim/cut.py") 450] }) ::
  (nat_lit 202, { cls := Value.type "function", data := Data.func ({ name := Str.ofString "pack_rows", qualname := Str.ofString "pack_rows", params := fnParams (S 9), body := FuncBody.stmts (fnBody (S 9)), scope := fnScope (S 9), globals := 3, closure := [], defaults := Value.none, kwdefaults := Value.none, pyModule := Value.str (Str.ofString "grammarmill.packing") 326, code := Value.ref 201 }) }) ::
  (nat_lit 203, { cls := Value.type "tuple", data := Data.seq #[] }) ::
  (nat_lit 205, { cls := Value.type "tuple", data := Data.seq #[Value.str (Str.ofString "bases") 455, Value.str (Str.ofString "table") 456, Value.str (Str.ofString "check") 457, Value.str (Str.ofString "owner") 458, Value.str (Str.ofString "row") 459, Value.str (Str.ofString "column") 460, Value.str (Str.ofString "cell") 461] }) ::
  (nat_lit 206, { cls := Value.type "tuple", data := Data.seq #[] }) ::
  (nat_lit 208, { cls := Value.type "code", data := Data.fields #[Value.str (Str.ofString "look_up") 452, Value.str (Str.ofString "look_up") 453, Value.str (Str.ofString "/claim/cut.py") 454, Value.int 110 0, Value.int 6 0, Value.int 0 0, Value.int 0 0, Value.int 3 0, Value.ref 203, Value.bool Bool.true, Value.int 181 0, Value.ref 204, Value.none, Value.ref 205, Value.ref 206, Value.ref 207, Value.int 462 0, Value.int 110 0, Value.str (Str.ofString "/claim/cut.py") 463] }) ::
  (nat_lit 209, { cls := Value.type "function", data := Data.func ({ name := Str.ofString "look_up", qualname := Str.ofString "look_up", params := fnParams (S 10), body := FuncBody.stmts (fnBody (S 10)), scope := fnScope (S 10), globals := 3, closure := [], defaults := Value.none, kwdefaults := Value.none, pyModule := Value.str (Str.ofString "grammarmill.packing") 326, code := Value.ref 208 }) }) ::
  (nat_lit 217, { cls := Value.type "tuple", data := Data.seq #[] }) ::
  (nat_lit 219, { cls := Value.type "tuple", data := Data.seq #[Value.str (Str.ofString "self") 480, Value.str (Str.ofString "bases") 481, Value.str (Str.ofString "table") 482, Value.str (Str.ofString "check") 483, Value.str (Str.ofString "owners") 484] }) ::
  (nat_lit 220, { cls := Value.type "tuple", data := Data.seq #[] }) ::
  (nat_lit 222, { cls := Value.type "code", data := Data.fields #[Value.str (Str.ofString "__init__") 477, Value.str (Str.ofString "PackedRows.__init__") 478, Value.str (Str.ofString "/claim/cut.py") 479, Value.int 117 0, Value.int 5 0, Value.int 0 0, Value.int 0 0, Value.int 3 0, Value.ref 217, Value.bool Bool.true, Value.int 181 0, Value.ref 218, Value.none, Value.ref 219, Value.ref 220, Value.ref 221, Value.int 485 0, Value.int 117 0, Value.str (Str.ofString "/claim/cut.py") 486] }) ::
  (nat_lit 223, { cls := Value.type "function", data := Data.func ({ name := Str.ofString "__init__", qualname := Str.ofString "PackedRows.__init__", params := fnParams (M 11 0), body := FuncBody.stmts (fnBody (M 11 0)), scope := fnScope (M 11 0), globals := 3, closure := [], defaults := Value.none, kwdefaults := Value.none, pyModule := Value.str (Str.ofString "grammarmill.packing") 326, code := Value.ref 222 }) }) ::
  (nat_lit 224, { cls := Value.type "tuple", data := Data.seq #[] }) ::
  (nat_lit 226, { cls := Value.type "tuple", data := Data.seq #[Value.str (Str.ofString "self") 491, Value.str (Str.ofString "row") 492, Value.str (Str.ofString "column") 493] }) ::
  (nat_lit 227, { cls := Value.type "tuple", data := Data.seq #[] }) ::
  (nat_lit 229, { cls := Value.type "code", data := Data.fields #[Value.str (Str.ofString "get") 488, Value.str (Str.ofString "PackedRows.get") 489, Value.str (Str.ofString "/claim/cut.py") 490, Value.int 123 0, Value.int 3 0, Value.int 0 0, Value.int 0 0, Value.int 3 0, Value.ref 224, Value.bool Bool.true, Value.int 181 0, Value.ref 225, Value.none, Value.ref 226, Value.ref 227, Value.ref 228, Value.int 494 0, Value.int 123 0, Value.str (Str.ofString "/claim/cut.py") 495] }) ::
  (nat_lit 230, { cls := Value.type "function", data := Data.func ({ name := Str.ofString "get", qualname := Str.ofString "PackedRows.get", params := fnParams (M 11 1), body := FuncBody.stmts (fnBody (M 11 1)), scope := fnScope (M 11 1), globals := 3, closure := [], defaults := Value.none, kwdefaults := Value.none, pyModule := Value.str (Str.ofString "grammarmill.packing") 326, code := Value.ref 229 }) }) ::
  (nat_lit 231, { cls := Value.type "tuple", data := Data.seq #[] }) ::
  (nat_lit 233, { cls := Value.type "tuple", data := Data.seq #[Value.str (Str.ofString "self") 500] }) ::
  (nat_lit 234, { cls := Value.type "tuple", data := Data.seq #[] }) ::
  (nat_lit 236, { cls := Value.type "code", data := Data.fields #[Value.str (Str.ofString "unpacked") 497, Value.str (Str.ofString "PackedRows.unpacked") 498, Value.str (Str.ofString "/claim/cut.py") 499, Value.int 126 0, Value.int 1 0, Value.int 0 0, Value.int 0 0, Value.int 3 0, Value.ref 231, Value.bool Bool.true, Value.int 181 0, Value.ref 232, Value.none, Value.ref 233, Value.ref 234, Value.ref 235, Value.int 501 0, Value.int 126 0, Value.str (Str.ofString "/claim/cut.py") 502] }) ::
  (nat_lit 238, { cls := Value.type "tuple", data := Data.seq #[] }) ::
  (nat_lit 240, { cls := Value.type "tuple", data := Data.seq #[Value.str (Str.ofString "self") 507] }) ::
  (nat_lit 241, { cls := Value.type "tuple", data := Data.seq #[] }) ::
  (nat_lit 243, { cls := Value.type "code", data := Data.fields #[Value.str (Str.ofString "cell_count") 504, Value.str (Str.ofString "PackedRows.cell_count") 505, Value.str (Str.ofString "/claim/cut.py") 506, Value.int 129 0, Value.int 1 0, Value.int 0 0, Value.int 0 0, Value.int 3 0, Value.ref 238, Value.bool Bool.true, Value.int 181 0, Value.ref 239, Value.none, Value.ref 240, Value.ref 241, Value.ref 242, Value.int 508 0, Value.int 129 0, Value.str (Str.ofString "/claim/cut.py") 509] }) ::
  (nat_lit 244, { cls := Value.type "function", data := Data.func ({ name := Str.ofString "cell_count", qualname := Str.ofString "PackedRows.cell_count", params := fnParams (M 11 3), body := FuncBody.stmts (fnBody (M 11 3)), scope := fnScope (M 11 3), globals := 3, closure := [], defaults := Value.none, kwdefaults := Value.none, pyModule := Value.str (Str.ofString "grammarmill.packing") 326, code := Value.ref 243 }) }) ::
  (nat_lit 245, { cls := Value.type "tuple", data := Data.seq #[] }) ::
  (nat_lit 247, { cls := Value.type "tuple", data := Data.seq #[Value.str (Str.ofString "self") 514] }) ::
  (nat_lit 248, { cls := Value.type "tuple", data := Data.seq #[] }) ::
  (nat_lit 250, { cls := Value.type "code", data := Data.fields #[Value.str (Str.ofString "gaps") 511, Value.str (Str.ofString "PackedRows.gaps") 512, Value.str (Str.ofString "/claim/cut.py") 513, Value.int 132 0, Value.int 1 0, Value.int 0 0, Value.int 0 0, Value.int 3 0, Value.ref 245, Value.bool Bool.true, Value.int 181 0, Value.ref 246, Value.none, Value.ref 247, Value.ref 248, Value.ref 249, Value.int 515 0, Value.int 132 0, Value.str (Str.ofString "/claim/cut.py") 516] }) ::
  (nat_lit 252, { cls := Value.type "tuple", data := Data.seq #[] }) ::
  (nat_lit 254, { cls := Value.type "tuple", data := Data.seq #[Value.str (Str.ofString "self") 521, Value.str (Str.ofString "many") 522] }) ::
  (nat_lit 255, { cls := Value.type "tuple", data := Data.seq #[] }) ::
  (nat_lit 257, { cls := Value.type "code", data := Data.fields #[Value.str (Str.ofString "flaw_of_rows") 518, Value.str (Str.ofString "PackedRows.flaw_of_rows") 519, Value.str (Str.ofString "/claim/cut.py") 520, Value.int 135 0, Value.int 2 0, Value.int 0 0, Value.int 0 0, Value.int 3 0, Value.ref 252, Value.bool Bool.true, Value.int 181 0, Value.ref 253, Value.none, Value.ref 254, Value.ref 255, Value.ref 256, Value.int 523 0, Value.int 135 0, Value.str (Str.ofString "/claim/cut.py") 524] }) ::
  (nat_lit 259, { cls := Value.type "tuple", data := Data.seq #[] }) ::
  (nat_lit 261, { cls := Value.type "tuple", data := Data.seq #[Value.str (Str.ofString "self") 529, Value.str (Str.ofString "columns") 530] }) ::
  (nat_lit 262, { cls := Value.type "tuple", data := Data.seq #[] }) ::
  (nat_lit 264, { cls := Value.type "code", data := Data.fields #[Value.str (Str.ofString "flaw_of_cells") 526, Value.str (Str.ofString "PackedRows.flaw_of_cells") 527, Value.str (Str.ofString "/claim/cut.py") 528, Value.int 138 0, Value.int 2 0, Value.int 0 0, Value.int 0 0, Value.int 3 0, Value.ref 259, Value.bool Bool.true, Value.int 181 0, Value.ref 260, Value.none, Value.ref 261, Value.ref 262, Value.ref 263, Value.int 531 0, Value.int 138 0, Value.str (Str.ofString "/claim/cut.py") 532] }) ::
  (nat_lit 266, { cls := Value.type "tuple", data := Data.seq #[] }) ::
  (nat_lit 268, { cls := Value.type "tuple", data := Data.seq #[Value.str (Str.ofString "self") 537, Value.str (Str.ofString "many") 538, Value.str (Str.ofString "columns") 539] }) ::
  (nat_lit 269, { cls := Value.type "tuple", data := Data.seq #[] }) ::
  (nat_lit 271, { cls := Value.type "code", data := Data.fields #[Value.str (Str.ofString "flaw") 534, Value.str (Str.ofString "PackedRows.flaw") 535, Value.str (Str.ofString "/claim/cut.py") 536, Value.int 141 0, Value.int 3 0, Value.int 0 0, Value.int 0 0, Value.int 3 0, Value.ref 266, Value.bool Bool.true, Value.int 181 0, Value.ref 267, Value.none, Value.ref 268, Value.ref 269, Value.ref 270, Value.int 540 0, Value.int 141 0, Value.str (Str.ofString "/claim/cut.py") 541] }) ::
  (nat_lit 273, { cls := Value.type "tuple", data := Data.seq #[Value.str (Str.ofString "bases") 543, Value.str (Str.ofString "check") 544, Value.str (Str.ofString "owners") 545, Value.str (Str.ofString "table") 546] }) ::
  (nat_lit 274, { cls := Value.type "dict", data := Data.dict #[{ hash := PyData.keyHash P (Str.ofString "__module__"), key := Value.str (Str.ofString "__module__") 472, val := Value.str (Str.ofString "grammarmill.packing") 326 }, { hash := PyData.keyHash P (Str.ofString "__firstlineno__"), key := Value.str (Str.ofString "__firstlineno__") 476, val := Value.int 115 475 }, { hash := PyData.keyHash P (Str.ofString "__init__"), key := Value.str (Str.ofString "__init__") 487, val := Value.ref 223 }, { hash := PyData.keyHash P (Str.ofString "get"), key := Value.str (Str.ofString "get") 496, val := Value.ref 230 }, { hash := PyData.keyHash P (Str.ofString "unpacked"), key := Value.str (Str.ofString "unpacked") 503, val := Value.ref 237 }, { hash := PyData.keyHash P (Str.ofString "cell_count"), key := Value.str (Str.ofString "cell_count") 510, val := Value.ref 244 }, { hash := PyData.keyHash P (Str.ofString "gaps"), key := Value.str (Str.ofString "gaps") 517, val := Value.ref 251 }, { hash := PyData.keyHash P (Str.ofString "flaw_of_rows"), key := Value.str (Str.ofString "flaw_of_rows") 525, val := Value.ref 258 }, { hash := PyData.keyHash P (Str.ofString "flaw_of_cells"), key := Value.str (Str.ofString "flaw_of_cells") 533, val := Value.ref 265 }, { hash := PyData.keyHash P (Str.ofString "flaw"), key := Value.str (Str.ofString "flaw") 542, val := Value.ref 272 }, { hash := PyData.keyHash P (Str.ofString "__static_attributes__"), key := Value.str (Str.ofString "__static_attributes__") 547, val := Value.ref 273 }, { hash := PyData.keyHash P (Str.ofString "__dict__"), key := Value.str (Str.ofString "__dict__") 549, val := Value.ref 276 }, { hash := PyData.keyHash P (Str.ofString "__weakref__"), key := Value.str (Str.ofString "__weakref__") 551, val := Value.ref 277 }, { hash := PyData.keyHash P (Str.ofString "__doc__"), key := Value.str (Str.ofString "__doc__") 552, val := Value.none }] 4 }) ::
  (nat_lit 275, { cls := Value.type "type", data := Data.cls { name := Str.ofString "PackedRows", bases := [Value.type "object"], mro := [Value.ref 275, Value.type "object"], ns := 274, qualname := Str.ofString "PackedRows" }, slots := #[Option.none, Option.none, Option.some (Value.str (Str.ofString "PackedRows") 465), Option.some (Value.str (Str.ofString "PackedRows") 473), Option.some (Value.builtin "object.__new__"), Option.some (Value.bool Bool.true)] }) ::
  (nat_lit 276, { cls := Value.type "getset_descriptor", data := Data.fields #[Value.str (Str.ofString "__dict__") 548, Value.ref 275, Value.builtin "function.__dict__", Value.builtin "function.__dict__#set"] }) ::
  (nat_lit 277, { cls := Value.type "getset_descriptor", data := Data.fields #[Value.str (Str.ofString "__weakref__") 550, Value.ref 275, Value.builtin "ExceptionGroup.__weakref__", Value.none] }) ::
  (nat_lit 280, { cls := Value.type "tuple", data := Data.seq #[] }) ::
  (nat_lit 282, { cls := Value.type "tuple", data := Data.seq #[Value.str (Str.ofString "rows") 558, Value.str (Str.ofString "bases") 559, Value.str (Str.ofString "table") 560, Value.str (Str.ofString "check") 561] }) ::
  (nat_lit 283, { cls := Value.type "tuple", data := Data.seq #[] }) ::
  (nat_lit 285, { cls := Value.type "code", data := Data.fields #[Value.str (Str.ofString "packed_rows") 555, Value.str (Str.ofString "packed_rows") 556, Value.str (Str.ofString "/claim/cut.py") 557, Value.int 143 0, Value.int 1 0, Value.int 0 0, Value.int 0 0, Value.int 3 0, Value.ref 280, Value.bool Bool.true, Value.int 181 0, Value.ref 281, Value.none, Value.ref 282, Value.ref 283, Value.ref 284, Value.int 562 0, Value.int 143 0, Value.str (Str.ofString "/claim/cut.py") 563] }) ::
  (nat_lit 286, { cls := Value.type "function", data := Data.func ({ name := Str.ofString "packed_rows", qualname := Str.ofString "packed_rows", params := fnParams (S 12), body := FuncBody.stmts (fnBody (S 12)), scope := fnScope (S 12), globals := 3, closure := [], defaults := Value.none, kwdefaults := Value.none, pyModule := Value.str (Str.ofString "grammarmill.packing") 326, code := Value.ref 285 }) }) ::
  (nat_lit 287, { cls := Value.type "tuple", data := Data.seq #[Value.ref 115] }) ::
  (nat_lit 294, { cls := Value.type "tuple", data := Data.seq #[] }) ::
  (nat_lit 296, { cls := Value.type "tuple", data := Data.seq #[Value.str (Str.ofString "self") 580, Value.str (Str.ofString "frame") 581, Value.str (Str.ofString "defaults") 582, Value.str (Str.ofString "actions") 583, Value.str (Str.ofString "gotos") 584, Value.str (Str.ofString "goto_defaults") 585, Value.str (Str.ofString "goto_masks") 586, Value.str (Str.ofString "names") 587, Value.str (Str.ofString "terminal_count") 588, Value.str (Str.ofString "lefts") 589, Value.str (Str.ofString "lengths") 590, Value.str (Str.ofString "befores") 591] }) ::
  (nat_lit 297, { cls := Value.type "tuple", data := Data.seq #[] }) ::
  (nat_lit 299, { cls := Value.type "code", data := Data.fields #[Value.str (Str.ofString "__init__") 577, Value.str (Str.ofString "PackedTables.__init__") 578, Value.str (Str.ofString "/claim/cut.py") 579, Value.int 148 0, Value.int 7 0, Value.int 0 0, Value.int 0 0, Value.int 3 0, Value.ref 294, Value.bool Bool.true, Value.int 181 0, Value.ref 295, Value.none, Value.ref 296, Value.ref 297, Value.ref 298, Value.int 592 0, Value.int 148 0, Value.str (Str.ofString "/claim/cut.py") 593] }) ::
  (nat_lit 300, { cls := Value.type "function", data := Data.func ({ name := Str.ofString "__init__", qualname := Str.ofString "PackedTables.__init__", params := fnParams (M 13 0), body := FuncBody.stmts (fnBody (M 13 0)), scope := fnScope (M 13 0), globals := 3, closure := [], defaults := Value.none, kwdefaults := Value.none, pyModule := Value.str (Str.ofString "grammarmill.packing") 326, code := Value.ref 299 }) }) ::
  (nat_lit 301, { cls := Value.type "tuple", data := Data.seq #[] }) ::
  (nat_lit 303, { cls := Value.type "tuple", data := Data.seq #[Value.str (Str.ofString "self") 598] }) ::
  (nat_lit 304, { cls := Value.type "tuple", data := Data.seq #[] }) ::
  (nat_lit 306, { cls := Value.type "code", data := Data.fields #[Value.str (Str.ofString "state_count") 595, Value.str (Str.ofString "PackedTables.state_count") 596, Value.str (Str.ofString "/claim/cut.py") 597, Value.int 165 0, Value.int 1 0, Value.int 0 0, Value.int 0 0, Value.int 3 0, Value.ref 301, Value.bool Bool.true, Value.int 181 0, Value.ref 302, Value.none, Value.ref 303, Value.ref 304, Value.ref 305, Value.int 599 0, Value.int 165 0, Value.str (Str.ofString "/claim/cut.py") 600] }) ::
  (nat_lit 308, { cls := Value.type "tuple", data := Data.seq #[] }) ::
  (nat_lit 310, { cls := Value.type "tuple", data := Data.seq #[Value.str (Str.ofString "self") 605, Value.str (Str.ofString "state") 606, Value.str (Str.ofString "terminal") 607] }) ::
  (nat_lit 311, { cls := Value.type "tuple", data := Data.seq #[] }) ::
  (nat_lit 313, { cls := Value.type "code", data := Data.fields #[Value.str (Str.ofString "explicit") 602, Value.str (Str.ofString "PackedTables.explicit") 603, Value.str (Str.ofString "/claim/cut.py") 604, Value.int 168 0, Value.int 3 0, Value.int 0 0, Value.int 0 0, Value.int 3 0, Value.ref 308, Value.bool Bool.true, Value.int 181 0, Value.ref 309, Value.none, Value.ref 310, Value.ref 311, Value.ref 312, Value.int 608 0, Value.int 168 0, Value.str (Str.ofString "/claim/cut.py") 609] }) ::
  (nat_lit 315, { cls := Value.type "tuple", data := Data.seq #[] }) ::
  (nat_lit 317, { cls := Value.type "tuple", data := Data.seq #[Value.str (Str.ofString "self") 614, Value.str (Str.ofString "state") 615, Value.str (Str.ofString "nonterminal") 616] }) ::
  (nat_lit 318, { cls := Value.type "tuple", data := Data.seq #[] }) ::
  (nat_lit 320, { cls := Value.type "code", data := Data.fields #[Value.str (Str.ofString "goto") 611, Value.str (Str.ofString "PackedTables.goto") 612, Value.str (Str.ofString "/claim/cut.py") 613, Value.int 171 0, Value.int 3 0, Value.int 0 0, Value.int 0 0, Value.int 3 0, Value.ref 315, Value.bool Bool.true, Value.int 181 0, Value.ref 316, Value.none, Value.ref 317, Value.ref 318, Value.ref 319, Value.int 617 0, Value.int 171 0, Value.str (Str.ofString "/claim/cut.py") 618] }) ::
  (nat_lit 322, { cls := Value.type "tuple", data := Data.seq #[] }) ::
  (nat_lit 324, { cls := Value.type "tuple", data := Data.seq #[Value.str (Str.ofString "self") 623] }) ::
  (nat_lit 325, { cls := Value.type "tuple", data := Data.seq #[] }) ::
  (nat_lit 327, { cls := Value.type "code", data := Data.fields #[Value.str (Str.ofString "cells") 620, Value.str (Str.ofString "PackedTables.cells") 621, Value.str (Str.ofString "/claim/cut.py") 622, Value.int 174 0, Value.int 1 0, Value.int 0 0, Value.int 0 0, Value.int 3 0, Value.ref 322, Value.bool Bool.true, Value.int 181 0, Value.ref 323, Value.none, Value.ref 324, Value.ref 325, Value.ref 326, Value.int 624 0, Value.int 174 0, Value.str (Str.ofString "/claim/cut.py") 625] }) ::
  (nat_lit 328, { cls := Value.type "function", data := Data.func ({ name := Str.ofString "cells", qualname := Str.ofString "PackedTables.cells", params := fnParams (M 13 4), body := FuncBody.stmts (fnBody (M 13 4)), scope := fnScope (M 13 4), globals := 3, closure := [], defaults := Value.none, kwdefaults := Value.none, pyModule := Value.str (Str.ofString "grammarmill.packing") 326, code := Value.ref 327 }) }) ::
  (nat_lit 329, { cls := Value.type "tuple", data := Data.seq #[Value.str (Str.ofString "actions") 627, Value.str (Str.ofString "bases") 628, Value.str (Str.ofString "check") 629, Value.str (Str.ofString "defaults") 630, Value.str (Str.ofString "goto_bases") 631, Value.str (Str.ofString "goto_check") 632, Value.str (Str.ofString "goto_defaults") 633, Value.str (Str.ofString "goto_masks") 634, Value.str (Str.ofString "goto_owners") 635, Value.str (Str.ofString "goto_table") 636, Value.str (Str.ofString "gotos") 637, Value.str (Str.ofString "owners") 638, Value.str (Str.ofString "table") 639] }) ::
  (nat_lit 330, { cls := Value.type "dict", data := Data.dict #[{ hash := PyData.keyHash P (Str.ofString "__module__"), key := Value.str (Str.ofString "__module__") 572, val := Value.str (Str.ofString "grammarmill.packing") 326 }, { hash := PyData.keyHash P (Str.ofString "__firstlineno__"), key := Value.str (Str.ofString "__firstlineno__") 576, val := Value.int 146 575 }, { hash := PyData.keyHash P (Str.ofString "__init__"), key := Value.str (Str.ofString "__init__") 594, val := Value.ref 300 }, { hash := PyData.keyHash P (Str.ofString "state_count"), key := Value.str (Str.ofString "state_count") 601, val := Value.ref 307 }, { hash := PyData.keyHash P (Str.ofString "explicit"), key := Value.str (Str.ofString "explicit") 610, val := Value.ref 314 }, { hash := PyData.keyHash P (Str.ofString "goto"), key := Value.str (Str.ofString "goto") 619, val := Value.ref 321 }, { hash := PyData.keyHash P (Str.ofString "cells"), key := Value.str (Str.ofString "cells") 626, val := Value.ref 328 }, { hash := PyData.keyHash P (Str.ofString "__static_attributes__"), key := Value.str (Str.ofString "__static_attributes__") 640, val := Value.ref 329 }, { hash := PyData.keyHash P (Str.ofString "__doc__"), key := Value.str (Str.ofString "__doc__") 641, val := Value.none }] 2 }) ::
  (nat_lit 331, { cls := Value.type "type", data := Data.cls { name := Str.ofString "PackedTables", bases := [Value.ref 115], mro := [Value.ref 331, Value.ref 115, Value.type "object"], ns := 330, qualname := Str.ofString "PackedTables" }, slots := #[Option.some (Value.ref 287), Option.none, Option.some (Value.str (Str.ofString "PackedTables") 565), Option.some (Value.str (Str.ofString "PackedTables") 573), Option.some (Value.builtin "object.__new__"), Option.some (Value.bool Bool.true)] }) ::
  (nat_lit 334, { cls := Value.type "tuple", data := Data.seq #[] }) ::
  (nat_lit 336, { cls := Value.type "tuple", data := Data.seq #[Value.str (Str.ofString "numbers") 647, Value.str (Str.ofString "low") 648, Value.str (Str.ofString "high") 649, Value.str (Str.ofString "name") 650, Value.str (Str.ofString "least") 651, Value.str (Str.ofString "most") 652, Value.str (Str.ofString "size") 653] }) ::
  (nat_lit 337, { cls := Value.type "tuple", data := Data.seq #[] }) ::
  (nat_lit 339, { cls := Value.type "code", data := Data.fields #[Value.str (Str.ofString "cell_kind") 644, Value.str (Str.ofString "cell_kind") 645, Value.str (Str.ofString "/claim/cut.py") 646, Value.int 176 0, Value.int 1 0, Value.int 0 0, Value.int 0 0, Value.int 3 0, Value.ref 334, Value.bool Bool.true, Value.int 181 0, Value.ref 335, Value.none, Value.ref 336, Value.ref 337, Value.ref 338, Value.int 654 0, Value.int 176 0, Value.str (Str.ofString "/claim/cut.py") 655] }) ::
  (nat_lit 340, { cls := Value.type "function", data := Data.func ({ name := Str.ofString "cell_kind", qualname := Str.ofString "cell_kind", params := fnParams (S 14), body := FuncBody.stmts (fnBody (S 14)), scope := fnScope (S 14), globals := 3, closure := [], defaults := Value.none, kwdefaults := Value.none, pyModule := Value.str (Str.ofString "grammarmill.packing") 326, code := Value.ref 339 }) }) ::
  (nat_lit 341, { cls := Value.type "tuple", data := Data.seq #[] }) ::
  (nat_lit 343, { cls := Value.type "tuple", data := Data.seq #[Value.str (Str.ofString "packed") 660, Value.str (Str.ofString "total") 661, Value.str (Str.ofString "rows") 662, Value.str (Str.ofString "numbers") 663] }) ::
  (nat_lit 344, { cls := Value.type "tuple", data := Data.seq #[] }) ::
  (nat_lit 346, { cls := Value.type "code", data := Data.fields #[Value.str (Str.ofString "octets") 657, Value.str (Str.ofString "octets") 658, Value.str (Str.ofString "/claim/cut.py") 659, Value.int 183 0, Value.int 1 0, Value.int 0 0, Value.int 0 0, Value.int 3 0, Value.ref 341, Value.bool Bool.true, Value.int 181 0, Value.ref 342, Value.none, Value.ref 343, Value.ref 344, Value.ref 345, Value.int 664 0, Value.int 183 0, Value.str (Str.ofString "/claim/cut.py") 665] }) ::
  (nat_lit 347, { cls := Value.type "function", data := Data.func ({ name := Str.ofString "octets", qualname := Str.ofString "octets", params := fnParams (S 15), body := FuncBody.stmts (fnBody (S 15)), scope := fnScope (S 15), globals := 3, closure := [], defaults := Value.none, kwdefaults := Value.none, pyModule := Value.str (Str.ofString "grammarmill.packing") 326, code := Value.ref 346 }) }) ::
  (nat_lit 348, { cls := Value.type "tuple", data := Data.seq #[Value.int 0 669, Value.int 1 670, Value.int 126 671, Value.int 127 672, Value.int 128 673, Value.int 129 674, Value.int 254 675, Value.int 255 676, Value.int 256 677, Value.int 257 678] }) ::
  (nat_lit 349, { cls := Value.type "tuple", data := Data.seq #[Value.int 0 680, Value.int 1 681, Value.int (-1) 683, Value.int 127 684, Value.int 128 685, Value.int 255 686, Value.int 256 687, Value.int 32767 688, Value.int 32768 689, Value.int 65536 690, Value.int (-127) 692, Value.int (-128) 694] }) ::
  (nat_lit 350, { cls := Value.type "tuple", data := Data.seq #[] }) ::
  (nat_lit 353, { cls := Value.type "code", data := Data.fields #[Value.str (Str.ofString "_law_trug") 696, Value.str (Str.ofString "_law_trug") 697, Value.str (Str.ofString "/claim/cut.py") 698, Value.int 194 0, Value.int 1 0, Value.int 0 0, Value.int 0 0, Value.int 3 0, Value.ref 350, Value.bool Bool.true, Value.int 181 0, Value.ref 351, Value.none, Value.none, Value.none, Value.ref 352, Value.int 699 0, Value.int 194 0, Value.str (Str.ofString "/claim/cut.py") 700] }) ::
  (nat_lit 354, { cls := Value.type "function", data := Data.func ({ name := Str.ofString "_law_trug", qualname := Str.ofString "_law_trug", params := fnParams (S 19), body := FuncBody.stmts (fnBody (S 19)), scope := fnScope (S 19), globals := 3, closure := [], defaults := Value.none, kwdefaults := Value.none, pyModule := Value.str (Str.ofString "law_sf0018_01") 667, code := Value.ref 353 }) }) ::
  (nat_lit 355, { cls := Value.type "tuple", data := Data.seq #[] }) ::
  (nat_lit 357, { cls := Value.type "tuple", data := Data.seq #[Value.str (Str.ofString "trug") 705, Value.str (Str.ofString "many") 706, Value.str (Str.ofString "cells") 707, Value.str (Str.ofString "turn") 708, Value.str (Str.ofString "worth") 709] }) ::
  (nat_lit 358, { cls := Value.type "tuple", data := Data.seq #[] }) ::
  (nat_lit 360, { cls := Value.type "code", data := Data.fields #[Value.str (Str.ofString "_law_dig") 702, Value.str (Str.ofString "_law_dig") 703, Value.str (Str.ofString "/claim/cut.py") 704, Value.int 196 0, Value.int 2 0, Value.int 0 0, Value.int 0 0, Value.int 3 0, Value.ref 355, Value.bool Bool.true, Value.int 181 0, Value.ref 356, Value.none, Value.ref 357, Value.ref 358, Value.ref 359, Value.int 710 0, Value.int 196 0, Value.str (Str.ofString "/claim/cut.py") 711] }) ::
  (nat_lit 361, { cls := Value.type "function", data := Data.func ({ name := Str.ofString "_law_dig", qualname := Str.ofString "_law_dig", params := fnParams (S 20), body := FuncBody.stmts (fnBody (S 20)), scope := fnScope (S 20), globals := 3, closure := [], defaults := Value.none, kwdefaults := Value.none, pyModule := Value.str (Str.ofString "law_sf0018_01") 667, code := Value.ref 360 }) }) ::
  (nat_lit 362, { cls := Value.type "tuple", data := Data.seq #[] }) ::
  (nat_lit 364, { cls := Value.type "tuple", data := Data.seq #[Value.str (Str.ofString "trug") 716] }) ::
  (nat_lit 365, { cls := Value.type "tuple", data := Data.seq #[] }) ::
  (nat_lit 367, { cls := Value.type "code", data := Data.fields #[Value.str (Str.ofString "_law_worth") 713, Value.str (Str.ofString "_law_worth") 714, Value.str (Str.ofString "/claim/cut.py") 715, Value.int 204 0, Value.int 1 0, Value.int 0 0, Value.int 0 0, Value.int 3 0, Value.ref 362, Value.bool Bool.true, Value.int 181 0, Value.ref 363, Value.none, Value.ref 364, Value.ref 365, Value.ref 366, Value.int 717 0, Value.int 204 0, Value.str (Str.ofString "/claim/cut.py") 718] }) ::
  (nat_lit 368, { cls := Value.type "function", data := Data.func ({ name := Str.ofString "_law_worth", qualname := Str.ofString "_law_worth", params := fnParams (S 21), body := FuncBody.stmts (fnBody (S 21)), scope := fnScope (S 21), globals := 3, closure := [], defaults := Value.none, kwdefaults := Value.none, pyModule := Value.str (Str.ofString "law_sf0018_01") 667, code := Value.ref 367 }) }) ::
  (nat_lit 369, { cls := Value.type "tuple", data := Data.seq #[] }) ::
  (nat_lit 372, { cls := Value.type "code", data := Data.fields #[Value.str (Str.ofString "_law_row") 720, Value.str (Str.ofString "_law_row") 721, Value.str (Str.ofString "/claim/cut.py") 722, Value.int 206 0, Value.int 2 0, Value.int 0 0, Value.int 0 0, Value.int 3 0, Value.ref 369, Value.bool Bool.true, Value.int 181 0, Value.ref 370, Value.none, Value.none, Value.none, Value.ref 371, Value.int 723 0, Value.int 206 0, Value.str (Str.ofString "/claim/cut.py") 724] }) ::
  (nat_lit 373, { cls := Value.type "function", data := Data.func ({ name := Str.ofString "_law_row", qualname := Str.ofString "_law_row", params := fnParams (S 22), body := FuncBody.stmts (fnBody (S 22)), scope := fnScope (S 22), globals := 3, closure := [], defaults := Value.none, kwdefaults := Value.none, pyModule := Value.str (Str.ofString "law_sf0018_01") 667, code := Value.ref 372 }) }) ::
  (nat_lit 374, { cls := Value.type "tuple", data := Data.seq #[] }) ::
  (nat_lit 377, { cls := Value.type "code", data := Data.fields #[Value.str (Str.ofString "_law_laid") 726, Value.str (Str.ofString "_law_laid") 727, Value.str (Str.ofString "/claim/cut.py") 728, Value.int 208 0, Value.int 1 0, Value.int 0 0, Value.int 0 0, Value.int 3 0, Value.ref 374, Value.bool Bool.true, Value.int 181 0, Value.ref 375, Value.none, Value.none, Value.none, Value.ref 376, Value.int 729 0, Value.int 208 0, Value.str (Str.ofString "/claim/cut.py") 730] }) ::
  (nat_lit 378, { cls := Value.type "function", data := Data.func ({ name := Str.ofString "_law_laid", qualname := Str.ofString "_law_laid", params := fnParams (S 23), body := FuncBody.stmts (fnBody (S 23)), scope := fnScope (S 23), globals := 3, closure := [], defaults := Value.none, kwdefaults := Value.none, pyModule := Value.str (Str.ofString "law_sf0018_01") 667, code := Value.ref 377 }) }) ::
  (nat_lit 379, { cls := Value.type "tuple", data := Data.seq #[] }) ::
  (nat_lit 381, { cls := Value.type "tuple", data := Data.seq #[Value.str (Str.ofString "numbers") 735, Value.str (Str.ofString "low") 736, Value.str (Str.ofString "high") 737, Value.str (Str.ofString "size") 738] }) ::
  (nat_lit 382, { cls := Value.type "tuple", data := Data.seq #[] }) ::
  (nat_lit 384, { cls := Value.type "code", data := Data.fields #[Value.str (Str.ofString "_law_octets") 732, Value.str (Str.ofString "_law_octets") 733, Value.str (Str.ofString "/claim/cut.py") 734, Value.int 220 0, Value.int 1 0, Value.int 0 0, Value.int 0 0, Value.int 3 0, Value.ref 379, Value.bool Bool.true, Value.int 181 0, Value.ref 380, Value.none, Value.ref 381, Value.ref 382, Value.ref 383, Value.int 739 0, Value.int 220 0, Value.str (Str.ofString "/claim/cut.py") 740] }) ::
  (nat_lit 385, { cls := Value.type "function", data := Data.func ({ name := Str.ofString "_law_octets", qualname := Str.ofString "_law_octets", params := fnParams (S 24), body := FuncBody.stmts (fnBody (S 24)), scope := fnScope (S 24), globals := 3, closure := [], defaults := Value.none, kwdefaults := Value.none, pyModule := Value.str (Str.ofString "law_sf0018_01") 667, code := Value.ref 384 }) }) ::
  (nat_lit 386, { cls := Value.type "tuple", data := Data.seq #[] }) ::
  (nat_lit 389, { cls := Value.type "code", data := Data.fields #[Value.str (Str.ofString "law") 742, Value.str (Str.ofString "law") 743, Value.str (Str.ofString "/claim/cut.py") 744, Value.int 226 0, Value.int 1 0, Value.int 0 0, Value.int 0 0, Value.int 3 0, Value.ref 386, Value.bool Bool.true, Value.int 181 0, Value.ref 387, Value.none, Value.none, Value.none, Value.ref 388, Value.int 745 0, Value.int 226 0, Value.str (Str.ofString "/claim/cut.py") 746] }) ::
  (nat_lit 390, { cls := Value.type "function", data := Data.func ({ name := Str.ofString "law", qualname := Str.ofString "law", params := fnParams (S 25), body := FuncBody.stmts (fnBody (S 25)), scope := fnScope (S 25), globals := 3, closure := [], defaults := Value.none, kwdefaults := Value.none, pyModule := Value.str (Str.ofString "law_sf0018_01") 667, code := Value.ref 389 }) }) :: []
/-- the text without its three stores of the name -/
noncomputable def VD : Program := { PySem.Challenge.rw_sf0018_01.row.prog with main := { PySem.Challenge.rw_sf0018_01.row.prog.main with body := [S 0, S 2, S 4, S 5, S 6, S 7, S 8, S 9, S 10, S 11, S 12, S 13, S 14, S 15, S 17, S 18, S 19, S 20, S 21, S 22, S 23, S 24, S 25] } }

end KD
section HD
open PySem PySem.W PyProof.Rows PySem.Calls PySem.Spec
/-- the goal as a variable: what is taken apart then does not repeat it -/
theorem hide {G : Prop} (h : ∀ P : Prop, (G → P) → P) : G := h G id
/-- the end of a walk as a variable -/
theorem hideQ {prog : Program} {w : World} {A : Around} {E : Value → Shared → Prop} {s : Shared} {α : Type} {c : Sem α} {Q : α → Shared → Prop}
    (h : ∀ Post : α → Shared → Prop, (∀ v s', Q v s' → Post v s') → wpAny (model prog w) A c Post E s) : wpAny (model prog w) A c Q E s := h Q fun _ _ x => x
/-- both -/
theorem hideB {prog : Program} {w : World} {A : Around} {E : Value → Shared → Prop} {s : Shared} {α : Type} {c : Sem α} {Q : α → Shared → Prop}
    (h : ∀ Post : α → Shared → Prop, (∀ v s', Q v s' → Post v s') → ∀ P : Prop, (wpAny (model prog w) A c Post E s → P) → P) : wpAny (model prog w) A c Q E s := h Q (fun _ _ x => x) _ id
/-- what follows a statement, by name -/
noncomputable def Nxt (K : Shared → Prop) (Q Post : Flow → Shared → Prop) : Prop := (∀ s, K s → Post .next s) ∧ ∀ v s, Q (.ret v) s → Post (.ret v) s
theorem execs_hid {prog : Program} {w : World} {A : Around} {E : Value → Shared → Prop} {s : Shared} {env : Env} {st : Stmt} {rest : List Stmt} {Q : Flow → Shared → Prop}
    (h : ∀ Post, Nxt (fun s => wpAny (model prog w) A (execs rest env) Q E s) Q Post → wpAny (model prog w) A (exec st env) Post E s) : wpAny (model prog w) A (execs (st :: rest) env) Q E s :=
  wpAny_execs_cons (h _ ⟨fun _ x => x, fun _ _ x => x⟩)
theorem nx_go {K : Shared → Prop} {Q Post : Flow → Shared → Prop} {s : Shared} (h : Nxt K Q Post) (x : K s) : Post .next s := h.1 s x
theorem nr_go {K : Shared → Prop} {Q Post : Flow → Shared → Prop} {v : Value} {s : Shared} (h : Nxt K Q Post) (x : Q (.ret v) s) : Post (.ret v) s := h.2 _ s x
/-- existentials and conjunctions taken apart and put together at one blow -/
theorem exE2 {α1 α2 : Type} {p : α1 → α2 → Prop} {G : Prop} (h : ∃ x1 x2, p x1 x2) (k : ∀ x1 x2, p x1 x2 → G) : G := h.elim fun x1 h1 => h1.elim (k x1)
theorem exI2 {α1 α2 : Type} {p : α1 → α2 → Prop} (x1 : α1) (x2 : α2) (z : p x1 x2) : ∃ x1 x2, p x1 x2 := ⟨x1, x2, z⟩
theorem anE2 {p1 p2 G : Prop} (h : p1 ∧ p2) (k : p1 → p2 → G) : G := k h.1 h.2
theorem exE3 {α1 α2 α3 : Type} {p : α1 → α2 → α3 → Prop} {G : Prop} (h : ∃ x1 x2 x3, p x1 x2 x3) (k : ∀ x1 x2 x3, p x1 x2 x3 → G) : G := h.elim fun x1 h1 => exE2 h1 (k x1)
theorem exI3 {α1 α2 α3 : Type} {p : α1 → α2 → α3 → Prop} (x1 : α1) (x2 : α2) (x3 : α3) (z : p x1 x2 x3) : ∃ x1 x2 x3, p x1 x2 x3 := ⟨x1, exI2 x2 x3 z⟩
theorem exE4 {α1 α2 α3 α4 : Type} {p : α1 → α2 → α3 → α4 → Prop} {G : Prop} (h : ∃ x1 x2 x3 x4, p x1 x2 x3 x4) (k : ∀ x1 x2 x3 x4, p x1 x2 x3 x4 → G) : G := h.elim fun x1 h1 => exE3 h1 (k x1)
theorem exI4 {α1 α2 α3 α4 : Type} {p : α1 → α2 → α3 → α4 → Prop} (x1 : α1) (x2 : α2) (x3 : α3) (x4 : α4) (z : p x1 x2 x3 x4) : ∃ x1 x2 x3 x4, p x1 x2 x3 x4 := ⟨x1, exI3 x2 x3 x4 z⟩
theorem exE5 {α1 α2 α3 α4 α5 : Type} {p : α1 → α2 → α3 → α4 → α5 → Prop} {G : Prop} (h : ∃ x1 x2 x3 x4 x5, p x1 x2 x3 x4 x5) (k : ∀ x1 x2 x3 x4 x5, p x1 x2 x3 x4 x5 → G) : G := h.elim fun x1 h1 => exE4 h1 (k x1)
theorem exI5 {α1 α2 α3 α4 α5 : Type} {p : α1 → α2 → α3 → α4 → α5 → Prop} (x1 : α1) (x2 : α2) (x3 : α3) (x4 : α4) (x5 : α5) (z : p x1 x2 x3 x4 x5) : ∃ x1 x2 x3 x4 x5, p x1 x2 x3 x4 x5 := ⟨x1, exI4 x2 x3 x4 x5 z⟩
theorem exE6 {α1 α2 α3 α4 α5 α6 : Type} {p : α1 → α2 → α3 → α4 → α5 → α6 → Prop} {G : Prop} (h : ∃ x1 x2 x3 x4 x5 x6, p x1 x2 x3 x4 x5 x6) (k : ∀ x1 x2 x3 x4 x5 x6, p x1 x2 x3 x4 x5 x6 → G) : G := h.elim fun x1 h1 => exE5 h1 (k x1)
theorem exI6 {α1 α2 α3 α4 α5 α6 : Type} {p : α1 → α2 → α3 → α4 → α5 → α6 → Prop} (x1 : α1) (x2 : α2) (x3 : α3) (x4 : α4) (x5 : α5) (x6 : α6) (z : p x1 x2 x3 x4 x5 x6) : ∃ x1 x2 x3 x4 x5 x6, p x1 x2 x3 x4 x5 x6 := ⟨x1, exI5 x2 x3 x4 x5 x6 z⟩
theorem exE7 {α1 α2 α3 α4 α5 α6 α7 : Type} {p : α1 → α2 → α3 → α4 → α5 → α6 → α7 → Prop} {G : Prop} (h : ∃ x1 x2 x3 x4 x5 x6 x7, p x1 x2 x3 x4 x5 x6 x7) (k : ∀ x1 x2 x3 x4 x5 x6 x7, p x1 x2 x3 x4 x5 x6 x7 → G) : G := h.elim fun x1 h1 => exE6 h1 (k x1)
theorem exI7 {α1 α2 α3 α4 α5 α6 α7 : Type} {p : α1 → α2 → α3 → α4 → α5 → α6 → α7 → Prop} (x1 : α1) (x2 : α2) (x3 : α3) (x4 : α4) (x5 : α5) (x6 : α6) (x7 : α7) (z : p x1 x2 x3 x4 x5 x6 x7) : ∃ x1 x2 x3 x4 x5 x6 x7, p x1 x2 x3 x4 x5 x6 x7 := ⟨x1, exI6 x2 x3 x4 x5 x6 x7 z⟩
theorem anE3 {p1 p2 p3 G : Prop} (h : p1 ∧ p2 ∧ p3) (k : p1 → p2 → p3 → G) : G := anE2 h.2 (k h.1)
theorem anE4 {p1 p2 p3 p4 G : Prop} (h : p1 ∧ p2 ∧ p3 ∧ p4) (k : p1 → p2 → p3 → p4 → G) : G := anE3 h.2 (k h.1)
theorem anE5 {p1 p2 p3 p4 p5 G : Prop} (h : p1 ∧ p2 ∧ p3 ∧ p4 ∧ p5) (k : p1 → p2 → p3 → p4 → p5 → G) : G := anE4 h.2 (k h.1)
theorem anE6 {p1 p2 p3 p4 p5 p6 G : Prop} (h : p1 ∧ p2 ∧ p3 ∧ p4 ∧ p5 ∧ p6) (k : p1 → p2 → p3 → p4 → p5 → p6 → G) : G := anE5 h.2 (k h.1)
theorem anE7 {p1 p2 p3 p4 p5 p6 p7 G : Prop} (h : p1 ∧ p2 ∧ p3 ∧ p4 ∧ p5 ∧ p6 ∧ p7) (k : p1 → p2 → p3 → p4 → p5 → p6 → p7 → G) : G := anE6 h.2 (k h.1)

end HD
section B0
open PySem PySem.W PyProof.Rows PySem.Calls PySem.Spec

noncomputable abbrev AT (dp un : Nat) (fr : List Env) (gd : Option (List Code)) : Around := { handled := none, depth := dp, frames := some fr, guards := gd, units := un }

section
variable {prog : Program} {w : World} {A : Around} {s : Shared} {h₀ : Heap} {K : Frag} {p : Program} {loose : List Str} {mean : ExcName → Option Value} {mg mb : Str → Option Value}

theorem enterP {R : Result → Shared → Prop} {name qual : Str} {params : Arguments} {body : List Stmt} {scope : Scope} {dV kV doc pm cdv ct oc : Value} {an od : Option Addr} {osl : Array (Option Value)} {f : Addr} {args : Args} {binds : List (Str × Value)}
    (X₀ : K.In h₀) (T : Top p loose mean mg mb h₀) (st : h₀.StaysIn s.heap) (mods : List (Addr × Obj)) (hm : ∀ q ∈ mods, s.heap.get? q.1 = some q.2 ∧ h₀.get? q.1 = none)
    (ho : K.lookup f = some ⟨oc, od, .func (fnOf name qual params body scope dV kV doc pm an cdv ct), osl⟩) (hcd : codeIn K cdv qual = true) (hroom : A.depth < recursionLimit)
    (hbind : BindsTo s (fnOf name qual params body scope dV kV doc pm an cdv ct) args binds) (hloc : ∀ y ∈ binds, scope.names.lookup y.1 = some .local)
    (h : ∀ g L' h₁, Fr g L' h₁ (fun y => binds.reverse.lookup y) → News g L' h₁ mods → K.In g → Top p loose mean mg mb g → h₀.StaysIn g → g.StaysIn s.heap →
      (∀ b o, b ∉ mods.map (·.1) → s.heap.get? b = some o → g.get? b = some o) → (∀ b o, s.heap.get? b = some o → b < L') → s.heap.objs.size ≤ L' →
      wpAny (model prog w) (A.deeper (envOf qual scope L' f cdv)) (execs body (envOf qual scope L' f cdv))
        (fun fl s' => R (.ok (.ret (match fl with | .ret v => v | _ => .none))) s') (fun _ _ => False)
        { s with heap := h₁, toks := s.toks + binds.length })
    (hco : scope.isCoroutine = false) (hgen : scope.isGenerator = false) (hk : scope.kind = .function)
    (hcell : ∀ x ∈ scope.names, x.2 ≠ .cell) : codeAny (model prog w) A (.call (.ref f) args) R s := by
  have XS : K.In s.heap := fun a o e => st a o (X₀ a o e)
  refine codeAny_call_def (fd := fnOf name qual params body scope dV kV doc pm an cdv ct) (body := body) (binds := binds) hroom (XS _ _ ho) rfl (T.nolimit.keeps st) (codeRec_of XS hcd) rfl hbind hcell hloc (fun h₁ hns hk₁ => ?_) hco hgen hk
  have nm : ∀ b o, h₀.get? b = some o → b ∉ mods.map (·.1) := fun b o e q => by
    obtain ⟨x, hx, rfl⟩ := List.mem_map.mp q
    rw [(hm x hx).2] at e; cases e
  have stg : h₀.StaysIn (hideAll s.heap (mods.map (·.1))) := fun b o e => hideAll_get _ (st b o e) (nm b o e)
  have TG : Top p loose mean mg mb (hideAll s.heap (mods.map (·.1))) := T.keeps stg
  exact wpAny_mono (h (hideAll s.heap (mods.map (·.1))) s.heap.objs.size h₁ ⟨hns, fun b o e => hk₁ b o (of_hideAll _ e), Nat.le_of_eq (hideAll_size _ _)⟩
    (fun q hq => ⟨hk₁ _ _ (hm q hq).1, Nat.ne_of_lt (Heap.lt_size (hm q hq).1), hideAll_none _ (List.mem_map_of_mem hq)⟩) (fun a o e => stg a o (X₀ a o e)) TG stg (fun b o e => of_hideAll _ e)
    (fun b o hb e => hideAll_get _ e hb) (fun b o e => Heap.lt_size e) (Nat.le_refl _)) (fun _ _ x => x) fun _ _ x => x.elim

theorem enterC {R : Result → Shared → Prop} {name qual : Str} {params : Arguments} {body : List Stmt} {scope : Scope} {dV kV doc pm cdv ct oc : Value} {an od : Option Addr} {osl : Array (Option Value)} {f : Addr} {args : Args} {binds : List (Str × Value)}
    (X₀ : K.In h₀) (T : Top p loose mean mg mb h₀) (st : h₀.StaysIn s.heap) (mods : List (Addr × Obj)) (hm : ∀ q ∈ mods, s.heap.get? q.1 = some q.2 ∧ h₀.get? q.1 = none)
    (ho : K.lookup f = some ⟨oc, od, .func (fnOf name qual params body scope dV kV doc pm an cdv ct), osl⟩) (hcd : codeIn K cdv qual = true) (hroom : A.depth < recursionLimit)
    (hbind : BindsTo s (fnOf name qual params body scope dV kV doc pm an cdv ct) args binds) (hkind : (binds.all fun y => scope.names.lookup y.1 == some .local || scope.names.lookup y.1 == some .cell) = true)
    (hnd : ((cellsFrom 0 scope.names []).map (·.1)).Nodup)
    (h : ∀ g L' h₁ tk cells, Fr g L' h₁ (bindL (envOfC qual scope L' f cdv).kindOf binds fun _ => none) → News g L' h₁ (cells ++ mods) →
      CellsAre (bindC (envOfC qual scope L' f cdv).kindOf binds fun _ => none) (cellsFrom (L' + 1) scope.names []) cells → K.In g → Top p loose mean mg mb g → h₀.StaysIn g → g.StaysIn s.heap →
      (∀ b o, b ∉ mods.map (·.1) → s.heap.get? b = some o → g.get? b = some o) → (∀ b o, s.heap.get? b = some o → b < L') → s.heap.objs.size ≤ L' →
      wpAny (model prog w) (A.deeper (envOfC qual scope L' f cdv)) (execs body (envOfC qual scope L' f cdv))
        (fun fl s' => R (.ok (.ret (match fl with | .ret v => v | _ => .none))) s') (fun _ _ => False)
        { s with heap := h₁, toks := tk })
    (hco : scope.isCoroutine = false) (hgen : scope.isGenerator = false) (hk : scope.kind = .function) : codeAny (model prog w) A (.call (.ref f) args) R s := by
  have XS : K.In s.heap := fun a o e => st a o (X₀ a o e)
  have nm : ∀ b o, h₀.get? b = some o → b ∉ mods.map (·.1) := fun b o e q => by
    obtain ⟨x, hx, rfl⟩ := List.mem_map.mp q
    rw [(hm x hx).2] at e; cases e
  have stg : h₀.StaysIn (hideAll s.heap (mods.map (·.1))) := fun b o e => hideAll_get _ (st b o e) (nm b o e)
  have TG : Top p loose mean mg mb (hideAll s.heap (mods.map (·.1))) := T.keeps stg
  refine codeAny_call_function hroom (XS _ _ ho) rfl hco hgen rfl (codeRec_of XS hcd) (hbind _ _ _ _ ?_)
  refine wpAny_newFunctionEnv_cells hk (kindsX hkind _) fun env' he s' x => ?_
  subst he
  refine ⟨(T.nolimit.keeps st).keeps x.toInCall.keep, codeAny_func ?_⟩
  obtain ⟨h₁, tk, rfl, _⟩ := x.done
  have hk₁ := x.toInCall.keep
  obtain ⟨cells, NC, Y⟩ := Cl.news (h₀ := s.heap) (Nat.le_refl _) fun n c hm => ⟨x.cell n c (lookup_of_mem_nodup (cellsFrom_names scope.names 0 (s.heap.objs.size + 1) [] [] rfl ▸ hnd) hm), x.above n c hm⟩
  refine wpAny_mono (h (hideAll s.heap (mods.map (·.1))) s.heap.objs.size h₁ tk cells ⟨x.toInCall.ns, fun b o e => hk₁ b o (of_hideAll _ e), Nat.le_of_eq (hideAll_size _ _)⟩ (fun q hq => ?_) Y (fun a o e => stg a o (X₀ a o e)) TG stg (fun b o e => of_hideAll _ e)
    (fun b o hb e => hideAll_get _ e hb) (fun b o e => Heap.lt_size e) (Nat.le_refl _)) (fun _ _ x => x) fun _ _ x => x.elim
  rcases List.mem_append.mp hq with hp | hp
  · refine ⟨(NC q hp).1, (NC q hp).2.1, ?_⟩
    cases e : (hideAll s.heap (mods.map (·.1))).get? q.1 with
    | none => rfl
    | some o => have := of_hideAll _ e; rw [(NC q hp).2.2] at this; cases this
  · exact ⟨hk₁ _ _ (hm q hp).1, Nat.ne_of_lt (Heap.lt_size (hm q hp).1), hideAll_none _ (List.mem_map_of_mem hp)⟩
end

section
variable {prog : Program} {w : World} {A : Around} {E : Value → Shared → Prop} {s : Shared} {h₀ : Heap} {L D : Addr} {m : Str → Option Value} {news news' : List (Addr × Obj)} {vs : List Value} {n : Nat} {k : Int} {t : Tok} {v : Value}
theorem setAt_any {Q : Unit → Shared → Prop} (F : Fr h₀ L s.heap m) (N : News h₀ L s.heap news) (U : Upd D (listOf vs.toArray n) (listOf (vs.set k.toNat v).toArray n) news news') (h0 : 0 ≤ k) (h1 : k < vs.length) (hfit : k < 2 ^ 63)
    (h : ∀ h', Fr h₀ L h' m → News h₀ L h' news' → Q () { s with heap := h' }) :
    wpAny (model prog w) A (setItem (.ref D) (.int k t) v) Q E s := by
  obtain ⟨pre, post, rfl, rfl, a, b⟩ := U.split
  have z := N (D, listOf vs.toArray n) (List.mem_append.mpr (.inr (.head _)))
  refine ki_setAt z.1 h0 hfit (by simpa using h1) (h _ (F.change (Heap.SameBut.update ..) z.2.1 z.2.2) (ki_turn _ N a b ?_ ?_))
  · show vs.toArray.setIfInBounds k.toNat v = (vs.set k.toNat v).toArray
    apply Array.toList_inj.mp
    simp
  · simp
end

theorem room_up {a n : Nat} (h : a < n - 1) : a + 1 < n := Nat.add_lt_of_lt_sub h
/-- the ambient facts of a heap -/
structure Amb (w : World) (h : Heap) : Prop where
  X : (KD w.params).In h
  T : ∃ mean mg mb, Top VD (looseW VD []) mean mg mb h
theorem Amb.keeps {w : World} {h h' : Heap} (a : Amb w h) (k : h.StaysIn h') : Amb w h' :=
  ⟨fun x o e => k x o (a.X x o e), let ⟨x, y, z, t⟩ := a.T; ⟨x, y, z, t.keeps k⟩⟩


end B0
section R1
open PySem PySem.W PyProof.Rows PySem.Calls PySem.Spec

theorem keys_miss_list : typeLookup (.type "list") "keys" = pure none := am_miss_of_fast (by kernel_rfl)

section
variable {prog : Program} {w : World} {A : Around} {E : Value → Shared → Prop} {s : Shared}
theorem keys_none {a : Addr} {xs : Array Value} {k : Nat} {sl : Array (Option Value)} {Q : Option Value → Shared → Prop}
    (hx : s.heap.get? a = some { cls := .type "list", dict := none, data := .seq xs k, slots := sl }) (hA : A.handled = none)
    (h : ∀ h' tk, (∀ b o, s.heap.get? b = some o → h'.get? b = some o) → Q none { s with heap := h', toks := tk }) :
    wpAny (model prog w) A (getAttr? (.ref a) "keys") Q E s := by
  obtain ⟨hp, g, d, tk, os⟩ := s
  have hT : ∀ tk', (⟨hp, g, d, tk', os⟩ : Shared).TypeIs (.ref a) "list" := fun _ => ⟨_, hx, rfl⟩
  have f1 := sub_AttributeError
  have f3 := F.slot_list_getattribute.lookup
  have f4 := F.slot_list_getattribute.bind (.ref a)
  have f5 := am_list_getattr_none
  unfold getAttr? getAttrBy? getAttrBy
  repeat (any_goals (first | assumption | exact hT _ | ((with_reducible show wpAny _ _ (call (Value.builtin "list.__getattribute__") _ _) _ _ _); refine call_meets F.slot_list_getattribute (hT _) am_entry_list_getattribute (F.args_list_getattribute_2 _ _) (meets_getattribute_miss_list a xs k sl "keys" _ keys_miss_list (by decide +kernel)) ⟨hx, hA, fun h' tk' e hx' => ?_⟩) | wp_step))
  obtain ⟨t', u', he⟩ := hx'.there
  show wpAny _ _ (getattributeRaised _ _ _ _ _ _ _) _ _ _
  unfold getattributeRaised
  repeat (any_goals (first | assumption | wp_step))
  exact h _ _ hx'.keeps
end

section
variable {prog : Program} {w : World} {K : Type} [DecidableEq K] {knd : KeyKind prog w K} {A : Around} {E : Value → Shared → Prop} {s : Shared}

/-- the values are pairs (key, value) on the heap -/
inductive PairsIn (knd : KeyKind prog w K) (h : Heap) : List Value → List (K × Value) → Prop
  | nil : PairsIn knd h [] []
  | cons {a : Addr} {o : Obj} {n : Nat} {key v : Value} {k : K} {vs : List Value} {ps : List (K × Value)} : h.get? a = some o → o.cls = .type "tuple" → o.data = .seq #[key, v] n → knd.is k key = true → PairsIn knd h vs ps → PairsIn knd h (.ref a :: vs) ((k, v) :: ps)
theorem PairsIn.keeps {h h' : Heap} {vs : List Value} {ps : List (K × Value)} (x : PairsIn knd h vs ps) (k : ∀ b o, h.get? b = some o → h'.get? b = some o) : PairsIn knd h' vs ps := by
  induction x with
  | nil => exact .nil
  | cons h1 h2 h3 h4 _ ih => exact .cons (k _ _ h1) h2 h3 h4 ih
theorem PairsIn.at {h : Heap} {vs : List Value} {ps : List (K × Value)} (x : PairsIn knd h vs ps) : ∀ (i : Nat) (v : Value), vs[i]? = some v → ∃ a o n key u k, v = Value.ref a ∧ h.get? a = some o ∧ o.cls = .type "tuple" ∧ o.data = .seq #[key, u] n ∧ knd.is k key = true ∧ ps[i]? = some (k, u) := by
  induction x with
  | nil => intro i v e; simp at e
  | cons h1 h2 h3 h4 _ ih =>
    intro i v e
    cases i with
    | zero => simp at e; subst e; exact ⟨_, _, _, _, _, _, rfl, h1, h2, h3, h4, rfl⟩
    | succ i => simpa using ih i v (by simpa using e)
theorem PairsIn.length {h : Heap} {vs : List Value} {ps : List (K × Value)} (x : PairsIn knd h vs ps) : vs.length = ps.length := by
  induction x with
  | nil => rfl
  | cons _ _ _ _ _ ih => simp [ih]
noncomputable def storedAll (kvs : List (K × Value)) (ps : List (K × Value)) : List (K × Value) := ps.foldl (fun l p => stored l p.1 p.2) kvs
theorem stored_len (kvs : List (K × Value)) (k : K) (v : Value) : (stored kvs k v).length ≤ kvs.length + 1 := by
  unfold stored
  split
  · simp
  · simp
theorem storedAll_len (ps kvs : List (K × Value)) : (storedAll kvs ps).length ≤ kvs.length + ps.length := by
  induction ps generalizing kvs with
  | nil => exact Nat.le_refl _
  | cons p r ih => have h1 := ih (stored kvs p.1 p.2); have h2 := stored_len kvs p.1 p.2; simp only [storedAll, List.foldl_cons, List.length_cons] at *; omega

theorem entry_update_loop : entryFor table "dict.update.loop" = some Builtin.«dict.update.loop» := entryFor_of_tree (by kernel_rfl)
theorem plain_update_loop : plainId "dict.update.loop" = true := by decide +kernel

theorem dict_loop {R : Result → Shared → Prop} (hh : A.handled = none) {d it l : Addr} {vs : List Value} {ps : List (K × Value)} (hdi : d ≠ it) (hdl : d ≠ l) (hil : it ≠ l) (hsz : ps.length ≤ 1000000) :
    ∀ (j i : Nat) (s : Shared) (kvs : List (K × Value)), i + j = vs.length → kvs.length ≤ i → s.heap.IsListIter it l i → s.heap.IsList l vs.toArray → PairsIn knd s.heap vs ps → s.heap.DictOf knd d kvs →
    (∀ h' tk, (∀ b o, b ≠ d → b ≠ it → s.heap.get? b = some o → h'.get? b = some o) → h'.DictOf knd d (storedAll kvs (ps.drop i)) → R (.ok (.ret .none)) { s with heap := h', toks := tk }) →
    codeAny (model prog w) A (.builtin "dict.update.loop" ⟨[.ref d, .ref it, rawInt (i : Int), .none], []⟩) R s := by
  intro j
  induction j with
  | zero =>
    intro i s kvs hi hk hit hl hP hd h
    refine codeAny_builtin entry_update_loop ?_
    rw [Around.under_plainId plain_update_loop _]
    show wpAny _ _ (pyNext (.ref it) >>= _) _ _ s
    refine wpAny_bind (wpAny_pyNext_list_end hh hit hl (by simp; omega) fun h' he => ?_)
    show wpAny _ _ (Builtin.Dict.addKeywords d [] >>= fun _ => ret Value.none) _ _ _
    refine wpAny_bind (wpAny_pure (wpAny_pure ?_))
    have e : ps.drop i = [] := by rw [List.drop_eq_nil_iff]; have := hP.length; omega
    rw [e] at h
    refine h h' _ (fun b o _ h2 e => he b o h2 e) ?_
    obtain ⟨o, es, ep, ho, r⟩ := hd
    exact ⟨o, es, ep, he _ _ hdi ho, r⟩
  | succ j ih =>
    intro i s kvs hi hk hit hl hP hd h
    refine hide ?_
    intro P ret1
    obtain ⟨v, hv⟩ : ∃ v, vs[i]? = some v := ⟨vs[i]'(by omega), List.getElem?_eq_getElem _⟩
    obtain ⟨a, o, n, key, u, k, rfl, ho, hc, hda, hkey, hp⟩ := hP.at i v hv
    have hai : a ≠ it := by
      rintro rfl
      obtain ⟨o', ho', hc', _⟩ := hit
      rw [ho] at ho'; cases ho'
      rw [hc] at hc'; simp at hc'
    refine ret1 ?_
    clear ret1 P
    refine codeAny_builtin entry_update_loop ?_
    rw [Around.under_plainId plain_update_loop _]
    show wpAny _ _ (pyNext (.ref it) >>= _) _ _ s
    refine wpAny_bind (wpAny_pyNext_list_item hit hl (x := .ref a) (by simpa using hv) fun h1 hit1 hs1 => ?_)
    have ho1 : h1.get? a = some o := (hs1.2 a hai).trans ho
    show wpAny _ _ (holding [.ref a] _ >>= _) _ _ _
    refine wpAny_bind (wpAny_holding ?_)
    refine wpAny_bind (wpAny_tryCatch ?_)
    unfold Builtin.Dict.pairItems
    refine wpAny_bind (wpAny_typeOf (T := "tuple") ⟨o, ho1, hc⟩ ?_)
    rw [if_pos (by decide)]
    refine wpAny_bind (wpAny_seqItems ho1 hda (wpAny_pure ?_))
    have hd1 : h1.DictOf knd d kvs := by
      obtain ⟨o, es, ep, ho, r⟩ := hd
      exact ⟨o, es, ep, (hs1.2 d hdi).trans ho, r⟩
    have hpl := hP.length
    show wpAny _ _ (holding [key, u] (dictSet d key u)) _ _ _
    refine wpAny_holding (wpAny_dictSet_pairs (hsz := by rw [sizeLine_eq]; omega) hkey hd1 fun h2 hd2 hs2 => ?_)
    show wpAny _ _ (again (.builtin "dict.update.loop" ⟨[.ref d, .ref it, rawInt ((i : Int) + 1), .none], []⟩)) _ _ _
    refine wpAny_pure ⟨plainId_quiet plain_update_loop _, ?_⟩
    have ei : ((i : Int) + 1) = ((i + 1 : Nat) : Int) := by omega
    rw [ei]
    have up : ∀ b o, b ≠ d → b ≠ it → s.heap.get? b = some o → h2.get? b = some o := fun b o h3 h4 e => (hs2.2 b h3).trans ((hs1.2 b h4).trans e)
    have hPd : ∀ b o, s.heap.get? b = some o → o.cls = .type "tuple" → h2.get? b = some o := fun b o e c => up b o (by
        rintro rfl
        obtain ⟨o', es, ep, ho', hx, _⟩ := hd
        rw [e] at ho'; cases ho'
        have := hx.1; rw [c] at this; simp at this) (by
        rintro rfl
        obtain ⟨o', ho', hc', _⟩ := hit
        rw [e] at ho'; cases ho'
        rw [c] at hc'; simp at hc') e
    refine ih (i + 1) _ (stored kvs k u) (by omega) (by have := stored_len kvs k u; omega) ?_ ?_ ?_ hd2 fun h' tk hk' hd' => ?_
    · exact hit1.extBut hs2.extBut (Ne.symm hdi)
    · obtain ⟨o, ho, r⟩ := hl
      exact ⟨o, up _ _ (Ne.symm hdl) (Ne.symm hil) ho, r⟩
    · clear hp hv hkey
      have : ∀ {vs : List Value} {ps : List (K × Value)}, PairsIn knd s.heap vs ps → PairsIn knd h2 vs ps := by
        intro vs ps x
        induction x with
        | nil => exact .nil
        | cons h1 h2 h3 h4 _ ih => exact .cons (hPd _ _ h1 h2) h2 h3 h4 ih
      exact this hP
    · refine h h' tk (fun b o h3 h4 e => hk' b o h3 h4 (up b o h3 h4 e)) ?_
      have e : ps.drop i = (k, u) :: ps.drop (i + 1) := by
        rw [List.drop_eq_getElem_cons (by have := hP.length; omega)]
        congr 1
        have := List.getElem?_eq_some_iff.mp hp
        exact this.2
      rw [e]
      exact hd'

theorem dict_of_pairs {l : Addr} {vs : List Value} {n : Nat} {ps : List (K × Value)} {Q : Value → Shared → Prop} (hh : A.handled = none) (hl : s.heap.get? l = some (listOf vs.toArray n)) (hP : PairsIn knd s.heap vs ps) (hsz : ps.length ≤ 1000000)
    (h : ∀ d h' tk, s.heap.objs.size ≤ d → (∀ b o, s.heap.get? b = some o → h'.get? b = some o) → h'.DictOf knd d (storedAll [] ps) → Q (.ref d) { s with heap := h', toks := tk }) :
    wpAny (model prog w) A (call (.type "dict") [.ref l]) Q E s := by
  refine callType_codes (Q₁ := fun obj s₁ => obj = .ref s.heap.objs.size ∧ s₁ = { s with heap := s.heap.push { cls := .type "dict", data := .dict #[] } }) F.kt_called_dict (F.kt_typeCall_dict_1 _) F.entry_dict_init (kt_code_dict_new _ ⟨rfl, rfl⟩) ?_
  rintro obj s₁ ⟨rfl, rfl⟩
  have hnew : (s.heap.push { cls := .type "dict", data := .dict #[] }).DictOf knd s.heap.objs.size [] := Heap.DictOf.new s.heap
  have hl' : (s.heap.push { cls := .type "dict", data := .dict #[] }).get? l = some (listOf vs.toArray n) := Heap.get?_push_of_some _ hl
  have hne : s.heap.objs.size ≠ l := fun e => absurd (Heap.lt_size hl) (by rw [e]; exact Nat.lt_irrefl _)
  refine ⟨hnew.typeIs, F.args_dict_init_2 _ _, ?_⟩
  unfold Builtin.«dict.__init__»
  refine wpAny_bind ?_
  unfold Builtin.Dict.selfAndRest
  refine wpAny_bind (wpAny_notOrdered_dict hnew.typeIs ?_)
  show wpAny _ _ (pure (s.heap.objs.size, [Value.ref l])) _ _ _
  refine wpAny_pure ?_
  show wpAny _ _ (Builtin.Dict.updateFrom "dict.__init__" s.heap.objs.size (.ref l) [] .none) _ _ _
  unfold Builtin.Dict.updateFrom
  refine wpAny_bind (wpAny_typeOf (T := "list") ⟨_, hl', rfl⟩ ?_)
  rw [if_pos (by decide)]
  refine wpAny_bind (keys_none hl' hh fun h1 tk1 k1 => ?_)
  rw [if_pos (by rfl)]
  refine wpAny_bind (wpAny_rule ?_)
  have hl1 : h1.get? l = some (listOf vs.toArray n) := k1 _ _ hl'
  refine wpAny_bind (wpAny_pyIter_list (s := { s with heap := h1, toks := tk1 }) ⟨_, hl1, rfl, _, rfl⟩ ?_)
  show wpAny _ _ (again _) _ _ _
  refine wpAny_pure ⟨plainId_quiet plain_update_loop _, ?_⟩
  have lt1 : s.heap.objs.size < h1.objs.size := by
    obtain ⟨o, es, ep, ho, _⟩ := hnew
    exact Heap.lt_size (k1 _ _ ho)
  have up : ∀ b o, s.heap.get? b = some o → (h1.push { cls := .type "list_iterator", data := .fields #[.ref l, .int 0 0] }).get? b = some o := fun b o e => Heap.get?_push_of_some _ (k1 _ _ (Heap.get?_push_of_some _ e))
  refine dict_loop (A := A.in1) (knd := knd) (l := l) (vs := vs) (ps := ps) (show A.in1.handled = none from hh) (Nat.ne_of_lt lt1) hne (Ne.symm (Nat.ne_of_lt (Heap.lt_size hl1))) hsz vs.length 0 { s with heap := h1.push { cls := .type "list_iterator", data := .fields #[.ref l, .int 0 0] }, toks := tk1 } [] (by omega) (Nat.zero_le _) ?_ ?_ (hP.keeps up) ?_ fun h' tk hk hd => ?_
  · exact ⟨_, Heap.get?_push_size _ rfl, rfl, rfl⟩
  · exact ⟨_, up _ _ hl, rfl, _, rfl⟩
  · obtain ⟨o, es, ep, ho, r⟩ := hnew
    exact ⟨o, es, ep, Heap.get?_push_of_some _ (k1 _ _ ho), r⟩
  · refine ⟨rfl, h _ h' tk (Nat.le_refl _) (fun b o e => hk b o (Nat.ne_of_lt (Heap.lt_size e)) (Nat.ne_of_lt (Nat.lt_trans (Heap.lt_size e) lt1)) (up _ _ e)) hd⟩
end

end R1
section R2
open PySem PySem.W PyProof.Rows PySem.Calls PySem.Spec
open PyProof.Rows.LCg

/-- a stop for the walk -/
noncomputable def Stop (p : Prop) : Prop := p
theorem Stop.mk {p : Prop} (h : p) : Stop p := h

section
variable {prog : Program} {w : World} {A : Around} {E : Value → Shared → Prop} {s : Shared} {h₀ : Heap} {L : Addr} {m : Str → Option Value} {env : Env}

theorem comp_stop {elt iter : Expr} {x : Str} {px : Pos} {scope : Scope} {cl : List (Str × Addr)} {pos : Pos} {Q : Value → Shared → Prop} (F₀ : Fr h₀ L s.heap m)
    (hclos : closureFor scope env = pure cl) (hcell : ∀ y ∈ scope.names, y.2 ≠ .cell) (hkind : scope.kind = .function)
    (hnames : ∀ y ∈ scope.names, y.2 = .local → scope.names.lookup y.1 = some .local) (hx : scope.names.lookup x = some .local)
    (h : wpAny (model prog w) A (eval iter env) (fun xv s₁ => Stop (CompSrc prog w A h₀ L m env elt x scope cl (fun s₂ => FinE h₀ L m s₂ Q) xv s₁)) E s)
    (hs : ∀ x, foldedSetIterable iter env x = pure x := by intro _; rfl) :
    wpAny (model prog w) A (eval (.ListComp elt [⟨.Name x px, iter, [], 0⟩] scope pos) env) Q E s := ListComp_U F₀ hclos hcell hkind hnames hx h hs
theorem comp_stopA {elt iter : Expr} {x y : Str} {px py : Pos} {scope : Scope} {cl : List (Str × Addr)} {pos spos : Pos} {Q : Flow → Shared → Prop} (F₀ : Fr h₀ L s.heap m) (hLe : env.locals = L)
    (hsw : swapsWith (.ListComp elt [⟨.Name x px, iter, [], 0⟩] scope pos) (some (.Name y py)) spos.line env = pure true)
    (hclos : closureFor scope env = pure cl) (hcell : ∀ z ∈ scope.names, z.2 ≠ .cell) (hkind : scope.kind = .function)
    (hnames : ∀ z ∈ scope.names, z.2 = .local → scope.names.lookup z.1 = some .local) (hx : scope.names.lookup x = some .local)
    (hy : env.kindOf y = some .local) (hp : (env.scope.kind == .class || (env.scope.kind == .module && env.locals != env.globals)) = false)
    (h : wpAny (model prog w) A (eval iter env) (fun xv s₁ => Stop (CompSrc prog w A h₀ L m env elt x scope cl (fun s₂ => FinA h₀ L m s₂ y Q) xv s₁)) E s)
    (hs : ∀ x, foldedSetIterable iter env x = pure x := by intro _; rfl) :
    wpAny (model prog w) A (exec (.Assign [.Name y py] (.ListComp elt [⟨.Name x px, iter, [], 0⟩] scope pos) spos) env) Q E s := Assign_ListComp_U F₀ hLe hsw hclos hcell hkind hnames hx hy hp h hs

/-- a comprehension by an invariant over its list and the ledger -/
theorem rest_ind {elt : Expr} {x : Str} {scope : Scope} {cl : List (Str × Addr)} {S : List (Addr × Obj) → Prop} {P : Nat → Value → Prop} {Fin : List Value → List (Addr × Obj) → Prop} {n : Nat} {news : List (Addr × Obj)}
    (J : Nat → List Value → List (Addr × Obj) → Prop) (h0 : J 0 [] news)
    (turn : ∀ i ys news₁ v I oI C oC D m₂ h tk (E' : Value → Shared → Prop), i < n → J i ys news₁ → P i v → NsObj oC m₂ → m₂ x = some v → Fr h₀ L h m → News h₀ L h ((I, oI) :: (C, oC) :: (D, lst ys) :: news₁) → Off3 I C D news₁ → ((@Ne Nat I C) ∧ (@Ne Nat I D) ∧ (@Ne Nat C D)) →
      wpAny (model prog w) A (eval elt (compEnvC scope cl C env)) (fun y s₂ => Stop (CompEnd h₀ L m { s with heap := h, toks := tk } I oI C oC D (lst ys) S (fun y news' => J (i + 1) (ys ++ [y]) news') y s₂)) E' { s with heap := h, toks := tk })
    (fin : ∀ ys news', J n ys news' → Fin ys news') : CompRest prog w A h₀ L m env elt x scope cl s S P Fin n 0 [] news := by
  have key : ∀ (j i : Nat) (ys : List Value) (news₁ : List (Addr × Obj)), i + j = n → J i ys news₁ → CompRest prog w A h₀ L m env elt x scope cl s S P Fin j i ys news₁ := by
    intro j
    induction j with
    | zero =>
      intro i ys news₁ hi hJ
      have : i = n := by omega
      subst this
      exact CompRest.zero (fin ys news₁ hJ)
    | succ j ih =>
      intro i ys news₁ hi hJ
      refine CompRest.succ fun v I oI C oC D m₂ h tk E' hv hC hx F N off ne => ?_
      refine wpAny_mono (turn i ys news₁ v I oI C oC D m₂ h tk E' (by omega) hJ hv hC hx F N off ne) (fun y s₂ hq => ?_) fun _ _ e => e
      obtain ⟨h', tk', nw, e, F', N', off', hS, hn⟩ := hq
      exact ⟨h', tk', nw, e, F', N', off', hS, ih (i + 1) _ nw (by omega) hn⟩
  exact key n 0 [] news (by omega) h0
/-- the same where the ledger does not change -/
theorem rest_fix {elt : Expr} {x : Str} {scope : Scope} {cl : List (Str × Addr)} {S : List (Addr × Obj) → Prop} {P : Nat → Value → Prop} {Fin : List Value → List (Addr × Obj) → Prop} {n : Nat} {news : List (Addr × Obj)}
    (J : Nat → List Value → Prop) (h0 : J 0 [])
    (turn : ∀ i ys v I oI C oC D m₂ h tk (E' : Value → Shared → Prop), i < n → J i ys → P i v → NsObj oC m₂ → m₂ x = some v → Fr h₀ L h m → News h₀ L h ((I, oI) :: (C, oC) :: (D, lst ys) :: news) → Off3 I C D news → ((@Ne Nat I C) ∧ (@Ne Nat I D) ∧ (@Ne Nat C D)) →
      wpAny (model prog w) A (eval elt (compEnvC scope cl C env)) (fun y s₂ => Stop (CompEnd h₀ L m { s with heap := h, toks := tk } I oI C oC D (lst ys) S (fun y news' => news' = news ∧ J (i + 1) (ys ++ [y])) y s₂)) E' { s with heap := h, toks := tk })
    (fin : ∀ ys, J n ys → Fin ys news) : CompRest prog w A h₀ L m env elt x scope cl s S P Fin n 0 [] news :=
  rest_ind (fun i ys nw => nw = news ∧ J i ys) ⟨rfl, h0⟩ (fun i ys nw v I oI C oC D m₂ h tk E' hi hJ => by obtain ⟨rfl, hJ⟩ := hJ; exact turn i ys v I oI C oC D m₂ h tk E' hi hJ) (fun ys nw hJ => by obtain ⟨rfl, hJ⟩ := hJ; exact fin ys hJ)
end

/-- the values of a row -/
inductive RowVals : List (Int × Value) → List (Int × Int) → Prop
  | nil : RowVals [] []
  | cons {k v : Int} {t : Tok} {kvs : List (Int × Value)} {row : List (Int × Int)} : RowVals kvs row → RowVals ((k, .int v t) :: kvs) ((k, v) :: row)
theorem RowVals.length {kvs : List (Int × Value)} {row : List (Int × Int)} (x : RowVals kvs row) : kvs.length = row.length := by
  induction x with
  | nil => rfl
  | cons _ ih => simp [ih]
theorem RowVals.keys {kvs : List (Int × Value)} {row : List (Int × Int)} (x : RowVals kvs row) : kvs.map (·.1) = row.map (·.1) := by
  induction x with
  | nil => rfl
  | cons _ ih => simp [ih]
theorem RowVals.append {a c : List (Int × Value)} {b d : List (Int × Int)} (x : RowVals a b) (y : RowVals c d) : RowVals (a ++ c) (b ++ d) := by
  induction x with
  | nil => exact y
  | cons _ ih => exact .cons ih

noncomputable def RowAt (prog : Program) (w : World) (h : Heap) (a : Addr) (row : List (Int × Int)) : Prop := (a == sysModules) = false ∧ ∃ kvs, h.DictOf (intKind prog w) a kvs ∧ RowVals kvs row
theorem RowAt.keeps {prog : Program} {w : World} {h h' : Heap} {a : Addr} {row : List (Int × Int)} (x : RowAt prog w h a row) (k : ∀ o, h.get? a = some o → h'.get? a = some o) : RowAt prog w h' a row := by
  obtain ⟨lo, kvs, ⟨o, es, ep, ho, r⟩, y⟩ := x
  exact ⟨lo, kvs, ⟨o, es, ep, k _ ho, r⟩, y⟩
theorem RowAt.nodup {prog : Program} {w : World} {h : Heap} {a : Addr} {row : List (Int × Int)} (x : RowAt prog w h a row) : (row.map (·.1)).Nodup := by
  obtain ⟨_, kvs, ⟨o, es, ep, ho, _, _, _, _, hn⟩, y⟩ := x
  rw [← y.keys]; exact hn

noncomputable def putR (row : List (Int × Int)) (k v : Int) : List (Int × Int) :=
  if row.any (fun p => p.1 = k) then row.map (fun p => if p.1 = k then (p.1, v) else p) else row ++ [(k, v)]
noncomputable def putAll (row ps : List (Int × Int)) : List (Int × Int) := ps.foldl (fun l p => putR l p.1 p.2) row
theorem RowVals.map {kvs : List (Int × Value)} {row : List (Int × Int)} (x : RowVals kvs row) (k v : Int) (t : Tok) :
    RowVals (kvs.map (fun kv => if kv.1 = k then (kv.1, Value.int v t) else kv)) (row.map (fun p => if p.1 = k then (p.1, v) else p)) := by
  induction x with
  | nil => exact .nil
  | @cons k' v' t' kvs row _ ih =>
    simp only [List.map_cons]
    by_cases h : k' = k
    · simp only [h, if_true]; exact .cons ih
    · simp only [h, if_false]; exact .cons ih
theorem RowVals.any {kvs : List (Int × Value)} {row : List (Int × Int)} (x : RowVals kvs row) (k : Int) : (kvs.any fun kv => decide (kv.1 = k)) = (row.any fun p => decide (p.1 = k)) := by
  induction x with
  | nil => rfl
  | cons _ ih => simp only [List.any_cons, ih]
theorem RowVals.stored {kvs : List (Int × Value)} {row : List (Int × Int)} (x : RowVals kvs row) (k v : Int) (t : Tok) : RowVals (stored kvs k (.int v t)) (putR row k v) := by
  unfold PySem.stored putR
  rw [x.any k]
  split
  · exact x.map k v t
  · exact x.append (.cons .nil)
theorem RowVals.storedAll {ps : List (Int × Value)} {qs : List (Int × Int)} (y : RowVals ps qs) : ∀ {kvs : List (Int × Value)} {row : List (Int × Int)}, RowVals kvs row → RowVals (storedAll kvs ps) (putAll row qs) := by
  induction y with
  | nil => intro kvs row x; exact x
  | @cons k v t ps qs _ ih => intro kvs row x; exact ih (x.stored k v t)
theorem putR_keys {row : List (Int × Int)} {k v : Int} {P : Int → Prop} (h : ∀ p ∈ row, P p.1) (hk : P k) : ∀ p ∈ putR row k v, P p.1 := by
  unfold putR
  intro p hp
  split at hp
  · obtain ⟨q, hq, rfl⟩ := List.mem_map.mp hp
    split
    · exact h q hq
    · exact h q hq
  · rcases List.mem_append.mp hp with hp | hp
    · exact h p hp
    · rw [List.mem_singleton.mp hp]; exact hk
theorem putAll_keys {qs : List (Int × Int)} {P : Int → Prop} (hq : ∀ p ∈ qs, P p.1) : ∀ {row : List (Int × Int)}, (∀ p ∈ row, P p.1) → ∀ p ∈ putAll row qs, P p.1 := by
  induction qs with
  | nil => intro row h; exact h
  | cons q r ih =>
    intro row h
    exact ih (fun p hp => hq p (.tail _ hp)) (putR_keys h (hq q (.head _)))
theorem putR_len (row : List (Int × Int)) (k v : Int) : (putR row k v).length ≤ row.length + 1 ∧ 1 ≤ (putR row k v).length ∧ row.length ≤ (putR row k v).length := by
  unfold putR
  split
  · rename_i h
    have : row ≠ [] := by rintro rfl; simp at h
    have := List.length_pos_iff.mpr this
    simp only [List.length_map]; omega
  · simp
theorem putAll_len (qs : List (Int × Int)) : ∀ row : List (Int × Int), (putAll row qs).length ≤ row.length + qs.length ∧ (qs ≠ [] → 1 ≤ (putAll row qs).length) ∧ row.length ≤ (putAll row qs).length := by
  induction qs with
  | nil => intro row; exact ⟨Nat.le_refl _, fun h => absurd rfl h, Nat.le_refl _⟩
  | cons q r ih =>
    intro row
    have h1 := ih (putR row q.1 q.2)
    have h2 := putR_len row q.1 q.2
    have e : putAll row (q :: r) = putAll (putR row q.1 q.2) r := rfl
    rw [e, List.length_cons]
    exact ⟨by omega, fun _ => by omega, by omega⟩

/-- tuples of two ints, on a ledger's tail -/
inductive TupsIn : List (Addr × Obj) → List Value → List (Int × Value) → Prop
  | nil {l} : TupsIn l [] []
  | cons {l : List (Addr × Obj)} {a : Addr} {n : Nat} {k : Int} {t : Tok} {v : Value} {vs : List Value} {ps : List (Int × Value)} : (a, ({ cls := .type "tuple", data := .seq #[.int k t, v] n } : Obj)) ∈ l → TupsIn l vs ps → TupsIn l (.ref a :: vs) ((k, v) :: ps)
theorem TupsIn.mono {l l' : List (Addr × Obj)} {vs : List Value} {ps : List (Int × Value)} (x : TupsIn l vs ps) (h : ∀ p ∈ l, p ∈ l') : TupsIn l' vs ps := by
  induction x with
  | nil => exact .nil
  | cons hm _ ih => exact .cons (h _ hm) ih
theorem TupsIn.snoc {l : List (Addr × Obj)} {vs : List Value} {ps : List (Int × Value)} (x : TupsIn l vs ps) {a : Addr} {n : Nat} {k : Int} {t : Tok} {v : Value} (hm : (a, ({ cls := .type "tuple", data := .seq #[.int k t, v] n } : Obj)) ∈ l) :
    TupsIn l (vs ++ [.ref a]) (ps ++ [(k, v)]) := by
  induction x with
  | nil => exact .cons hm .nil
  | cons h' _ ih => exact .cons h' ih
theorem TupsIn.pairs {prog : Program} {w : World} {h : Heap} {l : List (Addr × Obj)} {vs : List Value} {ps : List (Int × Value)} (x : TupsIn l vs ps) (N : ∀ p ∈ l, h.get? p.1 = some p.2) : PairsIn (intKind prog w) h vs ps := by
  induction x with
  | nil => exact .nil
  | cons hm _ ih => exact .cons (N _ hm) rfl rfl (by simp [intKind, Value.isInt]) ih
theorem TupsIn.length {l : List (Addr × Obj)} {vs : List Value} {ps : List (Int × Value)} (x : TupsIn l vs ps) : vs.length = ps.length := by
  induction x with
  | nil => rfl
  | cons _ _ ih => simp [ih]

end R2
section R3
open PySem PySem.W PyProof.Rows PySem.Calls PySem.Spec
open PyProof.Rows.LCg
section
variable {prog : Program} {w : World} {A : Around} {E : Value → Shared → Prop} {s : Shared} {h₀ : Heap} {m : Str → Option Value} {env : Env} {news : List (Addr × Obj)}
theorem passes_false : PassesOwn (model prog w) A env (fun _ _ => False) := fun _ _ h => h.elim

theorem for_stop {Q : Flow → Shared → Prop} {x : Str} {px pos : Pos} {iter : Expr} {body : List Stmt} (F : Fr h₀ env.locals s.heap m) (hx : env.kindOf x = some .local)
    (hp : (env.scope.kind == .class || (env.scope.kind == .module && env.locals != env.globals)) = false)
    (h : wpAny (model prog w) A (eval iter env) (fun xv s₁ => Stop (wpAny (model prog w) A (pyIter xv) (fun it s₂ => LoopAtV prog w A h₀ env x body Q (fun _ _ => False) it s₂) (fun _ _ => False) s₁)) (fun _ _ => False) s)
    (hs : ∀ x, foldedSetIterable iter env x = pure x := by intro _; rfl) :
    wpAny (model prog w) A (exec (.For (.Name x px) iter body [] pos) env) Q (fun _ _ => False) s := For_invV h₀ hx hp h hs passes_false

/-- the end of a turn of a loop -/
noncomputable def LpEnd (h₀ : Heap) (L : Addr) (I : Addr) (oI : Obj) (Jn : (Str → Option Value) → List (Addr × Obj) → Prop) (s₁ : Shared) (Q : Flow → Shared → Prop) (f : Flow) (s₂ : Shared) : Prop :=
  match f with
  | .ret v => Q (.ret v) s₂
  | .brk => Q .next s₂
  | _ => ∃ h' tk m' news', s₂ = { s₁ with heap := h', toks := tk } ∧ Fr h₀ L h' m' ∧ News h₀ L h' ((I, oI) :: news') ∧ (∀ p ∈ news', p.1 ≠ I) ∧ Jn m' news'

theorem LpEnd.mk {h₀ : Heap} {L : Addr} {I : Addr} {oI : Obj} {Jn : (Str → Option Value) → List (Addr × Obj) → Prop} {s₁ : Shared} {Q : Flow → Shared → Prop} {h' : Heap} {tk : Nat} {m' : Str → Option Value} {news' : List (Addr × Obj)}
    (F : Fr h₀ L h' m') (N : News h₀ L h' ((I, oI) :: news')) (off : ∀ p ∈ news', p.1 ≠ I) (hJ : Jn m' news') : Stop (LpEnd h₀ L I oI Jn s₁ Q .next { s₁ with heap := h', toks := tk }) := ⟨h', tk, m', news', rfl, F, N, off, hJ⟩
/-- any walk: its iterator is new, its sources lie in the base or in the ledger -/
theorem loop_gen {x : Str} {body : List Stmt} {Q : Flow → Shared → Prop} {r : Addr} {src : List Addr} {oit : Obj} {n : Nat} {P : Nat → Value → Prop} {st : Nat → Heap → Prop} (F : Fr h₀ env.locals s.heap m) (N : News h₀ env.locals s.heap news)
    (J : Nat → (Str → Option Value) → List (Addr × Obj) → Prop) (h0 : J 0 m news)
    (hp : ∀ P : Value → Shared → Prop, P (.ref s.heap.objs.size) { s with heap := s.heap.push oit } → wpAny (model prog w) A (pyIter (.ref r)) P E s)
    (W : Walks prog w A s.heap.objs.size (s.heap.objs.size :: src) [s.heap.objs.size] n P st) (hst : st 0 (s.heap.push oit)) (hI : ∀ i h, st i h → ∃ oI, h.get? s.heap.objs.size = some oI)
    (hsrc : ∀ b ∈ src, (∃ o, h₀.get? b = some o) ∨ ∃ ob, ∀ i m nw, J i m nw → (b, ob) ∈ nw)
    (step : ∀ i v m₁ news₁ I oI h₁ tk₁, i < n → P i v → J i m₁ news₁ → (∀ p ∈ news₁, p.1 ≠ I) → Fr h₀ env.locals h₁ (fun y => if y = x then some v else m₁ y) → News h₀ env.locals h₁ ((I, oI) :: news₁) →
      wpAny (model prog w) A (execs body env) (fun f s₂ => Stop (LpEnd h₀ env.locals I oI (J (i + 1)) { s with heap := h₁, toks := tk₁ } Q f s₂)) E { s with heap := h₁, toks := tk₁ })
    (done : ∀ h' tk m' news', Fr h₀ env.locals h' m' → News h₀ env.locals h' news' → J n m' news' → Q .next { s with heap := h', toks := tk }) :
    wpAny (model prog w) A (pyIter (.ref r)) (fun it s₂ => LoopAtV prog w A h₀ env x body Q E it s₂) E s := by
  refine hp _ ?_
  have up : ∀ b o, s.heap.get? b = some o → (s.heap.push oit).get? b = some o := fun b o e => Heap.get?_push_of_some _ e
  have hI₀ := next_is_new F
  have hIL : env.locals ≠ s.heap.objs.size := Nat.ne_of_lt F.ns.lt
  have hLs : env.locals ∉ src := fun q => by
    rcases hsrc _ q with ⟨o, e⟩ | ⟨ob, e⟩
    · exact absurd (Nat.lt_of_lt_of_le (Heap.lt_size e) F.above) (Nat.lt_irrefl _)
    · exact (N _ (e _ _ _ h0)).2.1 rfl
  have hnI : ∀ p ∈ news, p.1 ≠ s.heap.objs.size := fun p hp => Nat.ne_of_lt (Heap.lt_size (N p hp).1)
  have one : ∀ {b c : Addr}, b ∈ [c] → b = c := fun q => List.mem_singleton.mp q
  have F1 := F.keeps up
  have N1 := N.grown up
  clear up N hp F
  generalize s.heap.push oit = hp1 at *
  generalize s.heap.objs.size = I at *
  refine ⟨I, I :: src, [I], n, P, st, m, news, J, rfl, W, fun q => (List.mem_cons.mp q).elim hIL hLs, fun b q => one q ▸ hI₀, fun p hp q => hnI p hp (one q), hst, F1, N1, h0, ?_, fun h' tk m' news' F' N' _ hJ => done h' tk m' news' F' N' hJ⟩
  clear done N1 F1 hst h0 hnI hIL hLs W
  intro i v m₁ news₁ s₁ own hs₁ hi hv hJ hoff hown hget hall hs F₁ N₁
  refine hide ?_
  intro G ret1
  obtain ⟨hh', tk', rfl⟩ := hs₁
  obtain ⟨oI, st'⟩ := hI _ _ hs
  have hIo := hall I (.head _) hI₀ _ st'
  refine ret1 ?_
  clear ret1 G
  refine wpAny_mono (step i v m₁ news₁ I oI hh' tk' hi hv hJ (fun p hp e => hoff p hp (e ▸ .head _)) F₁ (fun p hp => ?_)) (fun f s₂ p => ?_) fun _ _ e => e
  · rcases List.mem_cons.mp hp with rfl | hp
    · exact N₁ _ (List.mem_append_left _ hIo)
    · exact N₁ _ (List.mem_append_right _ hp)
  · clear step
    have own' : ∀ p ∈ own, p = (I, oI) ∨ (∃ o, h₀.get? p.1 = some o) ∨ ∀ i m nw, J i m nw → p ∈ nw := fun p hp => by
      have e2 := hget p hp
      rcases List.mem_cons.mp (hown p hp) with e1 | e1
      · rw [e1, st'] at e2
        exact .inl (Prod.ext e1 (Option.some.inj e2).symm)
      · rcases hsrc _ e1 with e | ⟨ob, e⟩
        · exact .inr (.inl e)
        · rw [(N₁ _ (List.mem_append_right _ (e _ _ _ hJ))).1] at e2
          have e3 : p = (p.1, ob) := Prod.ext rfl (Option.some.inj e2).symm
          exact .inr (.inr (e3 ▸ e))
    have fin : (∃ h' tk m' news', s₂ = { ({ s with heap := hh', toks := tk' } : Shared) with heap := h', toks := tk } ∧ Fr h₀ env.locals h' m' ∧ News h₀ env.locals h' ((I, oI) :: news') ∧ (∀ p ∈ news', p.1 ≠ I) ∧ J (i + 1) m' news') →
        LoopStepU h₀ env.locals [I] own (J (i + 1)) { s with heap := hh', toks := tk' } .next s₂ := fun q => by
      refine hide ?_
      intro G ret1
      obtain ⟨h', tk, m', news', rfl, F', N', off, hm⟩ := q
      refine ret1 ⟨rfl, h', tk, m', news', rfl, F', fun p hp => ?_, fun p hp q => off p hp (one q), hm⟩
      rcases List.mem_append.mp hp with hp | hp
      · rcases own' p hp with rfl | ⟨o, e⟩ | e
        · exact N' _ (.head _)
        · exact absurd e (by rw [(N₁ p (List.mem_append_left _ hp)).2.2]; exact fun z => nomatch z)
        · exact N' _ (.tail _ (e _ _ _ hm))
      · exact N' _ (.tail _ hp)
    cases f with
    | ret v => exact .ret p
    | brk => exact .brk p
    | next => exact .next (fin p)
    | cont => exact .cont (fin p)

theorem loop_range {x : Str} {body : List Stmt} {Q : Flow → Shared → Prop} {r : Addr} {a b : Int} {t u v : Tok} {n : Nat}
    (hh : A.handled = none) (F : Fr h₀ env.locals s.heap m) (N : News h₀ env.locals s.heap news) (hr : IsRange s.heap r a b 1 t u v) (hsm : Builtin.Range.small a b 1 = true) (hn : Builtin.Range.rangeSize a b 1 = ((n : Nat) : Int))
    (J : Nat → (Str → Option Value) → List (Addr × Obj) → Prop) (h0 : J 0 m news)
    (step : ∀ i tk m₁ news₁ I oI h₁ tk₁, i < n → J i m₁ news₁ → (∀ p ∈ news₁, p.1 ≠ I) → Fr h₀ env.locals h₁ (fun y => if y = x then some (.int (a + (i : Int)) tk) else m₁ y) → News h₀ env.locals h₁ ((I, oI) :: news₁) →
      wpAny (model prog w) A (execs body env) (fun f s₂ => Stop (LpEnd h₀ env.locals I oI (J (i + 1)) { s with heap := h₁, toks := tk₁ } Q f s₂)) E { s with heap := h₁, toks := tk₁ })
    (done : ∀ h' tk m' news', Fr h₀ env.locals h' m' → News h₀ env.locals h' news' → J n m' news' → Q .next { s with heap := h', toks := tk }) :
    wpAny (model prog w) A (pyIter (.ref r)) (fun it s₂ => LoopAtV prog w A h₀ env x body Q E it s₂) E s := by
  refine loop_gen F N J h0 (fun P => wpAny_pyIter_range hr hsm) (range_walks hh a n) ?_ (fun _ _ e => ⟨_, e⟩) (fun _ q => nomatch q) (fun i v m₁ news₁ I oI h₁ tk₁ hi hv hJ off F₁ N₁ => ?_) done
  · show IsRangeIter _ _ _ _ _; rw [hn]; simpa using Heap.get?_push_size _ rfl
  · obtain ⟨t', rfl⟩ := hv
    exact step i t' m₁ news₁ I oI h₁ tk₁ hi hJ off F₁ N₁

/-- a list as the loop's source, in the base or on the ledger -/
theorem loop_list {x : Str} {body : List Stmt} {Q : Flow → Shared → Prop} {ax : Addr} {vs : List Value}
    (hh : A.handled = none) (F : Fr h₀ env.locals s.heap m) (N : News h₀ env.locals s.heap news) (hl : h₀.IsList ax vs.toArray)
    (J : Nat → (Str → Option Value) → List (Addr × Obj) → Prop) (h0 : J 0 m news)
    (step : ∀ i v m₁ news₁ I oI h₁ tk₁, vs[i]? = some v → J i m₁ news₁ → (∀ p ∈ news₁, p.1 ≠ I) → Fr h₀ env.locals h₁ (fun y => if y = x then some v else m₁ y) → News h₀ env.locals h₁ ((I, oI) :: news₁) →
      wpAny (model prog w) A (execs body env) (fun f s₂ => Stop (LpEnd h₀ env.locals I oI (J (i + 1)) { s with heap := h₁, toks := tk₁ } Q f s₂)) E { s with heap := h₁, toks := tk₁ })
    (done : ∀ h' tk m' news', Fr h₀ env.locals h' m' → News h₀ env.locals h' news' → J vs.length m' news' → Q .next { s with heap := h', toks := tk }) :
    wpAny (model prog w) A (pyIter (.ref ax)) (fun it s₂ => LoopAtV prog w A h₀ env x body Q E it s₂) E s := by
  obtain ⟨ol, hol, hod⟩ := id hl
  have hls : s.heap.IsList ax vs.toArray := hl.at fun o e => F.keep ax o e
  have hne : ax ≠ s.heap.objs.size := Nat.ne_of_lt (Heap.lt_size (F.keep _ _ hol))
  have W := Walks.list (prog := prog) (w := w) hh s.heap.objs.size ax hne vs.toArray
  rw [List.size_toArray] at W
  exact loop_gen F N J h0 (fun P => wpAny_pyIter_list hls) W ⟨⟨_, Heap.get?_push_size _ rfl, rfl, rfl⟩, hls.push _⟩ (fun i h st => ⟨_, st.1.choose_spec.1⟩) (fun b q => .inl ⟨ol, List.mem_singleton.mp q ▸ hol⟩)
    (fun i v m₁ news₁ I oI h₁ tk₁ _ hv => step i v m₁ news₁ I oI h₁ tk₁ (by rw [List.getElem?_toArray] at hv; exact hv)) done
end

end R3
section R4
open PySem PySem.W PyProof.Rows PySem.Calls PySem.Spec
section
variable {prog : Program} {w : World} {A : Around} {E : Value → Shared → Prop} {s : Shared} {a₀ : Array Keyed}

theorem countRun_asc {st : SortSt} {nrem : Nat} {Q : Option Nat → SortSt → Prop} (h0 : IntKeys a₀) (hn : nrem ≤ a₀.size) (h1 : 1 ≤ nrem) (hB : SBase a₀ st) (hS : SortedTo (arrOf st) nrem)
    (h : Q (some nrem) st) : wpS (model prog w) A E s (countRun' 0 nrem) Q st := by
  rw [countRun0_eq]
  refine wpS_bind (wpS_ascLoop h0 hn (Nat.le_refl 1) h1 hB (fun i j hij hj => hS i j hij (by omega)) fun n hn1 hn2 hsn hor => ?_)
  have hnn : n = nrem := by
    rcases hor with e | hlt
    · exact e
    · by_cases hlt2 : n < nrem
      · exact absurd (hS (n - 1) n (by omega) hlt2) (Int.not_le.mpr hlt)
      · omega
  subst hnn
  dsimp only
  rw [if_pos (by simp)]
  exact wpS_pure h

theorem minRun_le : ∀ (fuel n r : Nat), r ≤ 1 → minRun' fuel n r ≤ n + r := by
  intro fuel
  induction fuel with
  | zero => intro n r _; exact Nat.le_refl _
  | succ f ih =>
    intro n r hr
    rw [minRun'_succ]
    split
    · exact Nat.le_refl _
    · have := ih (n / 2) (max r (n % 2)) (by omega)
      omega

theorem sortRuns_asc {st : SortSt} {Q : Unit → SortSt → Prop} (h0 : IntKeys a₀) (hB : SBase a₀ st) (h2 : 2 ≤ a₀.size) (hS : SortedTo (arrOf st) a₀.size)
    (h : ∀ st', (arrOf st').Perm a₀ → failedOf st' = none → SortedTo (arrOf st') a₀.size → Q () st') : wpS (model prog w) A E s sortRuns' Q st := by
  rw [sortRuns'_eq]
  refine wpS_bind (wpS_get ?_)
  dsimp only
  simp only [hB.size]
  have hmr := minRun_le a₀.size a₀.size 0 (by omega)
  refine wpS_bind (wpS_mono (wpS_forRange
    (I := fun x c st' => (x = 0 ∧ c = (none, 0) ∧ st' = st) ∨ (1 ≤ x ∧ c = (none, a₀.size) ∧ SDone a₀ st'))
    (Q := fun c st' => c = (none, a₀.size) ∧ SDone a₀ st') ?step ?fin (.inl ⟨rfl, rfl, rfl⟩)) ?post)
  case fin =>
    rintro c st' (⟨hx, _, _⟩ | ⟨_, hc, hD⟩)
    · omega
    · exact ⟨hc, hD⟩
  case step =>
    rintro x c st' _ hx (⟨rfl, rfl, rfl⟩ | ⟨hx1, rfl, hD⟩)
    · dsimp only
      rw [if_neg (by omega)]
      simp only [Nat.sub_zero, Nat.zero_add]
      refine wpS_bind (countRun_asc h0 (Nat.le_refl _) (by omega) hB hS ?_)
      dsimp only
      rw [if_neg (by omega)]
      refine wpS_bind (wpS_get ?_)
      have hb : (pendingOf st').back? = none := by rw [hB.pend]; rfl
      rw [hb]
      dsimp only
      exact wpS_bind (wpS_modify (wpS_pure (.inr ⟨by omega, rfl, hB.done hS⟩)))
    · dsimp only
      rw [if_pos (Nat.le_refl _)]
      exact wpS_pure ⟨rfl, hD⟩
  case post =>
    rintro c st' ⟨rfl, hD⟩
    dsimp only
    refine wpS_bind (wpS_mono (wpS_forRange (I := fun _ c st'' => st'' = st' ∧ c = (none, ())) (Q := fun c st'' => st'' = st' ∧ c = (none, ())) ?_ (fun _ _ hh => hh) ⟨rfl, rfl⟩) ?_)
    · rintro x c st'' _ _ ⟨rfl, rfl⟩
      refine wpS_bind (wpS_get ?_)
      rw [if_pos (by rw [hD.2.2.1]; exact Nat.le_refl 1)]
      exact wpS_pure ⟨rfl, rfl⟩
    · rintro c st'' ⟨rfl, rfl⟩
      exact wpS_pure (h _ hD.1 hD.2.1 hD.2.2.2)

theorem sortedTo_pairs {vs : List Value} {ns : List Int} (hI : IntsAre vs ns) (hs : ns.Pairwise (· ≤ ·)) : SortedTo (vs.toArray.zip vs.toArray) (pairsOf vs).size := by
  have hK : ∀ i, (hi : i < ns.length) → K (vs.toArray.zip vs.toArray) i = ns[i] := by
    intro i hi
    obtain ⟨t, ht⟩ := hI.get i ns[i] (by simp [hi])
    have hi' : i < vs.length := by rw [hI.length]; exact hi
    have e : (vs.toArray.zip vs.toArray)[i]? = some (.int ns[i] t, .int ns[i] t) := by
      have e2 : vs[i] = .int ns[i] t := by rw [List.getElem?_eq_getElem hi'] at ht; exact Option.some.inj ht
      simp [Array.getElem?_zip_eq_some, hi', e2]
    unfold K
    rw [e]
    rfl
  intro i j hij hj
  rw [pairsOf_size, hI.length] at hj
  rw [hK i (by omega), hK j hj]
  rcases Nat.lt_or_ge i j with h | h
  · exact List.pairwise_iff_getElem.mp hs i j (by omega) hj h
  · have : i = j := by omega
    subst this; exact Int.le_refl _

theorem list_sort_asc {a : Addr} {vs : List Value} {ns : List Int} {n : Nat} {P : Fin → Shared → Prop} (ho : s.heap.get? a = some (seqObj "list" vs.toArray n))
    (hI : IntsAre vs ns) (hs : ns.Pairwise (· ≤ ·)) (h64 : 64 ≤ vs.length) (hmx : vs.length ≤ 100000)
    (h : ∀ (out : Array Value) (ns' : List Int), IntsAre out.toList ns' → ns'.Perm ns → ns'.Pairwise (· ≤ ·) → P (.done (.ret .none)) { s with heap := sortedHeap s.heap a vs out }) :
    wpAny (model prog w) A (Builtin.«list.sort» ⟨[.ref a], []⟩) P E s := by
  rw [list_sort_plain]
  have ha : a < s.heap.objs.size := Heap.lt_size ho
  have hl16 : vs.length ≤ sizeLine := by rw [sizeLine_eq]; omega
  refine wpAny_bind (listItems_at ho rfl ?_)
  refine wpAny_bind (listUpdate_at ho rfl ?_ (hsz := by simpa using hl16))
  obtain ⟨e1, ho1⟩ : ∃ e1, (s.heap.update a (Obj.mapSeq fun _ => #[])).get? a = some (seqObj "list" #[] e1) := ⟨_, get?_update_seq ho (fun _ => #[])⟩
  refine wpAny_bind (seqEpoch_at ho1 rfl ?_)
  refine wpAny_bind (wpAny_newTuple ?_ (by simpa using hl16))
  refine wpAny_bind (wpAny_newList ?_)
  refine wpAny_holding ?_
  have ho6 : (((s.heap.update a (Obj.mapSeq fun _ => #[])).push (seqObj "tuple" vs.toArray 0)).push (seqObj "list" #[] 0)).get? a = some (seqObj "list" #[] e1) := by
    rw [Heap.get?_push_ne _ _ _ (by rw [size_push', Heap.size_update]; exact Nat.ne_of_lt (Nat.lt_succ_of_lt ha)), Heap.get?_push_ne _ _ _ (by rw [Heap.size_update]; exact Nat.ne_of_lt ha)]
    exact ho1
  show wpAny (model prog w) A _ P E { s with heap := ((s.heap.update a (Obj.mapSeq fun _ => #[])).push (seqObj "tuple" vs.toArray 0)).push (seqObj "list" #[] 0) }
  dsimp only
  have hsz : vs.toArray.size = vs.length := by simp
  have h2 : ¬ vs.toArray.size < 2 := by omega
  rw [if_neg h2, if_neg h2]
  obtain ⟨v₁, v₂, rest, rfl⟩ : ∃ v₁ v₂ rest, vs = v₁ :: v₂ :: rest := by
    match vs, hsz, h2 with
    | [], _, h2 => simp at h2
    | [_], _, h2 => simp at h2
    | v₁ :: v₂ :: rest, _, _ => exact ⟨v₁, v₂, rest, rfl⟩
  rw [keyKind_ints hI]
  refine wpAny_bind (wpAny_pure ?_)
  refine wpAny_bind (wpAny_mono (sortRuns_asc (a₀ := pairsOf (v₁ :: v₂ :: rest)) (st := SortSt.mk' oneType' ((v₁ :: v₂ :: rest).toArray.zip (v₁ :: v₂ :: rest).toArray) #[] 7 none)
    (Q := fun _ st' => (arrOf st').Perm (pairsOf (v₁ :: v₂ :: rest)) ∧ failedOf st' = none ∧ SortedTo (arrOf st') (pairsOf (v₁ :: v₂ :: rest)).size)
    hI.intKeys ⟨Array.Perm.refl _, rfl, rfl, rfl⟩ (by rw [pairsOf_size]; simp) (sortedTo_pairs hI hs) fun st' a1 a2 a3 => ⟨a1, a2, a3⟩) ?_ fun _ _ e => e)
  rintro ⟨⟨⟩, st'⟩ s' ⟨rfl, hp, hf, hs'⟩
  dsimp only
  refine wpAny_bind (seqEpoch_at ho6 rfl ?_)
  refine wpAny_bind (listUpdate_at ho6 rfl ?_ (hsz2 := by refine Nat.le_trans (Nat.le_of_eq ((Array.size_map ..).trans (hp.size_eq.trans (pairsOf_size _)))) ?_; omega))
  rw [hf]
  simp only [bne_self_eq_false, Bool.false_eq_true, if_false]
  obtain ⟨ns', h1, h2', h3⟩ := sorted_out hI hp hs'
  exact wpAny_pure (h _ ns' h1 h2' h3)

/-- list.sort of a list of ints: short, or already rising -/
theorem list_sort_ints {a : Addr} {vs : List Value} {ns : List Int} {n : Nat} {Q : Value → Shared → Prop} (ho : s.heap.get? a = some (listOf vs.toArray n))
    (hI : IntsAre vs ns) (hc : vs.length < 64 ∨ ns.Pairwise (· ≤ ·)) (hmx : vs.length ≤ 100000)
    (h : ∀ (h' : Heap) (vs' : List Value) (ns' : List Int) (e : Nat), (∀ b o, b ≠ a → s.heap.get? b = some o → h'.get? b = some o) → h'.get? a = some (listOf vs'.toArray e) → IntsAre vs' ns' → ns'.Perm ns → ns'.Pairwise (· ≤ ·) → Q .none { s with heap := h' }) :
    wpAny (model prog w) A (call (.builtin "list.sort") [.ref a]) Q E s := by
  have fin : ∀ (out : Array Value) (ns' : List Int), IntsAre out.toList ns' → ns'.Perm ns → ns'.Pairwise (· ≤ ·) → Q .none { s with heap := sortedHeap s.heap a vs out } := by
    intro out ns' h1 h2 h3
    obtain ⟨e, he⟩ := sortedHeap_at (out := out) (n := n) ho
    exact h _ out.toList ns' e (fun b o hb ho' => (sortedHeap_old hb (Heap.lt_size ho')).trans ho') he h1 h2 h3
  refine wpAny_call_entry slot_list_sort ⟨_, ho, rfl⟩ entry_list_sort ?_ (args_list_sort _)
  by_cases h64 : vs.length < 64
  · exact list_sort_tree ho hI h64 fun out ns' a1 a2 a3 => ⟨_, rfl, fin out ns' a1 a2 a3⟩
  · exact list_sort_asc ho hI (hc.resolve_left h64) (by omega) hmx fun out ns' a1 a2 a3 => ⟨_, rfl, fin out ns' a1 a2 a3⟩

theorem keys_ints {K : Type} : ∀ {vs : List Value} {kvs : List (Int × K)}, vs.length = kvs.length → (∀ (j : Nat) (v : Value), vs[j]? = some v → ∃ k x, kvs[j]? = some (k, x) ∧ Value.isInt k v = true) → IntsAre vs (kvs.map (·.1))
  | [], [], _, _ => .nil
  | [], _ :: _, e, _ => by simp at e
  | _ :: _, [], e, _ => by simp at e
  | v :: vs, p :: kvs, e, h => by
    obtain ⟨k, x, h1, h2⟩ := h 0 v rfl
    obtain ⟨t, rfl⟩ := Value.isInt_shape h2
    simp at h1; subst h1
    exact .cons k t (keys_ints (by simpa using e) fun j v hj => by simpa using h (j + 1) v (by simpa using hj))

theorem sorted_dict {h₀ : Heap} {L d : Addr} {m : Str → Option Value} {news : List (Addr × Obj)} {kvs : List (Int × Value)} {Q : Value → Shared → Prop} (hh : A.handled = none) (F : Fr h₀ L s.heap m) (N : News h₀ L s.heap news)
    (hD : s.heap.DictOf (intKind prog w) d kvs) (lo : (d == sysModules) = false) (hc : kvs.length < 64 ∨ (kvs.map (·.1)).Pairwise (· ≤ ·)) (hmx : kvs.length ≤ 100000)
    (h : ∀ D h' tk vs ns e, Fr h₀ L h' m → News h₀ L h' ((D, listOf (List.toArray vs) e) :: news) → (∀ q ∈ news, q.1 < D) → IntsAre vs ns → ns.Perm (kvs.map (·.1)) → ns.Pairwise (· ≤ ·) → Q (.ref D) { s with heap := h', toks := tk }) :
    wpAny (model prog w) A (call (.builtin "sorted") [.ref d]) Q E s := by
  obtain ⟨ep, hat⟩ := hD.dictAt
  refine kdu_sorted (kdl_dict (knd := intKind prog w) (kvs := kvs) (ep := ep) lo) hh F N hat (by rw [sizeLine_eq]; omega) fun D h' tk vs F' N' l1 hl hv => ?_
  have hI := keys_ints hl hv
  refine list_sort_ints (N' _ (.head _)).1 hI (by rw [hl]; exact hc) (by omega) fun h2 vs' ns' e k hD' hI' hp hs => ?_
  have zD := N' (D, listOf vs.toArray 0) (.head _)
  refine h D h2 tk vs' ns' e ⟨F'.ns.at' fun o e => k _ o (Ne.symm zD.2.1) e, fun b o e => k b o (fun q => by rw [q] at e; rw [zD.2.2] at e; cases e) (F'.keep b o e), F'.above⟩ (fun p hp => ?_) l1 hI' hp hs
  rcases List.mem_cons.mp hp with rfl | hp
  · exact ⟨hD', zD.2⟩
  · exact ⟨k _ _ (Nat.ne_of_lt (l1 p hp)) (N' p (.tail _ hp)).1, (N' p (.tail _ hp)).2⟩
end

end R4
section R5
open PySem PySem.W PyProof.Rows PySem.Calls PySem.Spec

noncomputable def lookD (row : List (Int × Int)) (k : Int) : Int := ((row.find? fun p => decide (p.1 = k)).map (·.2)).getD 0
theorem RowVals.at {kvs : List (Int × Value)} {row : List (Int × Int)} (x : RowVals kvs row) (k : Int) (hk : k ∈ row.map (·.1)) : ∃ t, valueAt kvs k = some (.int (lookD row k) t) := by
  induction x with
  | nil => simp at hk
  | @cons k' v t kvs row _ ih =>
    unfold valueAt lookD
    simp only [List.find?_cons]
    by_cases h : k' = k
    · subst h
      exact ⟨t, by simp⟩
    · have hk' : k ∈ row.map (·.1) := by
        simp only [List.map_cons, List.mem_cons] at hk
        exact hk.resolve_left fun e => h e.symm
      have := ih hk'
      simp only [h, decide_false]
      exact this

section
variable {prog : Program} {w : World} {A : Around} {E : Value → Shared → Prop} {s : Shared} {h₀ : Heap} {L d : Addr} {m : Str → Option Value} {row : List (Int × Int)} {k : Int} {t : Tok}
theorem row_item {value slice : Expr} {Q : Value → Shared → Prop} (F : Fr h₀ L s.heap m) (R : RowAt prog w h₀ d row) (hk : k ∈ row.map (·.1)) (h : ∀ t, Q (.int (lookD row k) t) { s with toks := s.toks + 1 })
    (hs : subscripted slice false (.ref d) (.int k t) = operate [.ref d, .int k t] (getItem (.ref d) (.int k t)) := by with_unfolding_all rfl) :
    wpAny (model prog w) A (subscriptTail value slice (.ref d) (.int k t)) Q E s := by
  obtain ⟨lo, kvs, hD, hv⟩ := R
  obtain ⟨t', e⟩ := hv.at k hk
  have hm := (hD.keep F.keep).mapOf
  exact tail_any hm.typeIs slot_dict_getitem.lookup (wpAny_getItem_of (intKind_is prog w k t) hm e (h t')) hs
theorem sorted_row {news : List (Addr × Obj)} {Q : Value → Shared → Prop} (hh : A.handled = none) (F : Fr h₀ L s.heap m) (N : News h₀ L s.heap news)
    (R : RowAt prog w h₀ d row) (hc : row.length < 64 ∨ (row.map (·.1)).Pairwise (· ≤ ·)) (hmx : row.length ≤ 100000)
    (h : ∀ D h' tk vs ns e, Fr h₀ L h' m → News h₀ L h' ((D, listOf (List.toArray vs) e) :: news) → (∀ q ∈ news, q.1 < D) → IntsAre vs ns → ns.Perm (row.map (·.1)) → ns.Pairwise (· ≤ ·) → Q (.ref D) { s with heap := h', toks := tk }) :
    wpAny (model prog w) A (call (.builtin "sorted") [.ref d]) Q E s := by
  obtain ⟨lo, kvs, hD, hv⟩ := R
  refine sorted_dict hh F N (hD.keep F.keep) lo (by rw [hv.keys, hv.length]; exact hc) (by rw [hv.length]; exact hmx) ?_
  rw [hv.keys]
  exact h
end

/-- the key of a row: its pairs, rising -/
noncomputable def sortK (l : List Int) : List Int := l.mergeSort (fun a b => decide (a ≤ b))
theorem sortK_perm (l : List Int) : (sortK l).Perm l := List.mergeSort_perm _ _
theorem sortK_sorted (l : List Int) : (sortK l).Pairwise (· ≤ ·) := by
  have := List.pairwise_mergeSort (le := fun a b : Int => decide (a ≤ b)) (fun a b c h1 h2 => by simp at *; omega) (fun a b => by simp; omega) l
  exact this.imp fun h => by simpa using h
theorem sortK_eq {ns l : List Int} (hp : ns.Perm l) (hs : ns.Pairwise (· ≤ ·)) : ns = sortK l :=
  List.Perm.eq_of_pairwise (le := (· ≤ ·)) (fun a b _ _ h1 h2 => Int.le_antisymm h1 h2) hs (sortK_sorted l) (hp.trans (sortK_perm l).symm)
noncomputable def rowKey (row : List (Int × Int)) : List (Int × Int) := (sortK (row.map (·.1))).map fun k => (k, lookD row k)

/-- pairs of ints as tuples, in a heap -/
inductive PairsAt (h : Heap) : List Value → List (Int × Int) → Prop
  | nil : PairsAt h [] []
  | cons {a : Addr} {n : Nat} {k v : Int} {t u : Tok} {vs : List Value} {ps : List (Int × Int)} : h.get? a = some { cls := .type "tuple", data := .seq #[.int k t, .int v u] n } → PairsAt h vs ps → PairsAt h (.ref a :: vs) ((k, v) :: ps)
theorem PairsAt.keeps {h h' : Heap} {vs : List Value} {ps : List (Int × Int)} (x : PairsAt h vs ps) (k : ∀ b o, h.get? b = some o → h'.get? b = some o) : PairsAt h' vs ps := by
  induction x with
  | nil => exact .nil
  | cons h1 _ ih => exact .cons (k _ _ h1) ih
/-- a row's key, a tuple of pairs, in a heap -/
noncomputable def KeyAt (h : Heap) (a : Addr) (key : List (Int × Int)) : Prop := ∃ vs n, h.get? a = some { cls := .type "tuple", data := .seq (List.toArray vs) n } ∧ PairsAt h vs key
theorem KeyAt.keeps {h h' : Heap} {a : Addr} {key : List (Int × Int)} (x : KeyAt h a key) (k : ∀ b o, h.get? b = some o → h'.get? b = some o) : KeyAt h' a key :=
  let ⟨vs, n, h1, h2⟩ := x; ⟨vs, n, k _ _ h1, h2.keeps k⟩
theorem TupsIn.pairsAt {h : Heap} {l : List (Addr × Obj)} {vs : List Value} {ps : List (Int × Value)} {qs : List (Int × Int)} (x : TupsIn l vs ps) (N : ∀ p ∈ l, h.get? p.1 = some p.2) (y : RowVals ps qs) : PairsAt h vs qs := by
  induction x generalizing qs with
  | nil => cases y; exact .nil
  | cons hm _ ih => cases y with
    | cons y => exact .cons (N _ hm) (ih y)

end R5
section R6
open PySem PySem.W PyProof.Rows PySem.Calls PySem.Spec
section
variable {prog : Program} {w : World} {K : Type} [DecidableEq K] (hk : HeapKind prog w K)

/-- values that are heap keys -/
inductive HItems (h : Heap) : List K → List Value → Prop
  | nil : HItems h [] []
  | cons {k : K} {b : Addr} {ks : List K} {vs : List Value} : hk.is h k b → HItems h ks vs → HItems h (k :: ks) (.ref b :: vs)
noncomputable def IsNestKey (h : Heap) (ks : List K) (a : Addr) : Prop := ∃ o items n, h.get? a = some o ∧ o.cls = .type "tuple" ∧ o.data = .seq items n ∧ HItems hk h ks items.toList
variable {hk}
theorem HItems.inj {h : Heap} {x y : List K} {vs : List Value} (hx : HItems hk h x vs) (hy : HItems hk h y vs) : x = y := by
  induction hx generalizing y with
  | nil => cases hy; rfl
  | cons h1 _ ih => cases hy with
    | cons h2 t2 => rw [hk.inj h1 h2, ih t2]
theorem HItems.length {h : Heap} {x : List K} {vs : List Value} (hx : HItems hk h x vs) : x.length = vs.length := by
  induction hx with
  | nil => rfl
  | cons _ _ ih => simp [ih]
theorem HItems.keeps {h h' : Heap} {x : List K} {vs : List Value} {d : Addr} {o : Obj} {es ep} (hx : HItems hk h x vs) (ho : h.get? d = some o) (hd : o.data = .dict es ep) (hs : Heap.SameBut d h h') : HItems hk h' x vs := by
  induction hx with
  | nil => exact .nil
  | cons h1 _ ih => exact .cons (hk.keeps h1 ho hd hs) ih
theorem IsNestKey.typeIs {s : Shared} {ks : List K} {a : Addr} (x : IsNestKey hk s.heap ks a) : s.TypeIs (.ref a) "tuple" := let ⟨o, _, _, ho, hc, _⟩ := x; ⟨o, ho, hc⟩
theorem IsNestKey.inj {h : Heap} {a : Addr} {x y : List K} (hx : IsNestKey hk h x a) (hy : IsNestKey hk h y a) : x = y := by
  obtain ⟨o, items, n, ho, _, hd, hi⟩ := hx
  obtain ⟨o', items', n', ho', _, hd', hi'⟩ := hy
  obtain rfl : o = o' := Option.some.inj (ho.symm.trans ho')
  rw [hd] at hd'
  injection hd' with h1 _
  subst h1
  exact hi.inj hi'
theorem IsNestKey.keeps {h h' : Heap} {ks : List K} {a d : Addr} {o : Obj} {es ep} (x : IsNestKey hk h ks a) (ho : h.get? d = some o) (hd : o.data = .dict es ep) (hs : Heap.SameBut d h h') : IsNestKey hk h' ks a := by
  obtain ⟨o', items, n, ho', hc, hd', hi⟩ := x
  have hne : a ≠ d := by
    rintro rfl
    obtain rfl : o' = o := Option.some.inj (ho'.symm.trans ho)
    rw [hd] at hd'; exact nomatch hd'
  exact ⟨o', items, n, (hs.2 a hne).trans ho', hc, hd', hi.keeps ho hd hs⟩

noncomputable def nestHash (hk : HeapKind prog w K) (ks : List K) : Int := reduceHash (Builtin.Tuple.tupleHashOf (ks.map hk.hash))
noncomputable def nestDraws (hk : HeapKind prog w K) (ks : List K) : Nat := (ks.map hk.draws).sum + 1

variable {A : Around} {E : Value → Shared → Prop} {s : Shared}
theorem pyHash_nest {ks : List K} {a : Addr} {Q : Int → Shared → Prop} (hu : A.units < cLine) (hr : hk.room A.in1) (hkey : IsNestKey hk s.heap ks a) (h : Q (nestHash hk ks) { s with toks := s.toks + nestDraws hk ks }) :
    wpAny (model prog w) A (pyHash (.ref a)) Q E s := by
  have hT := hkey.typeIs
  obtain ⟨o, items, n, ho, _, hd, hi⟩ := hkey
  unfold pyHash
  first | unfold pyHashByItsType | skip
  first | refine wpAny_bind (wpAny_cRoomFor_or (.inr hu) ?_) | skip
  refine wpAny_bind (wpAny_specialOf hT F.slot_tuple_hash.lookup ?_)
  show wpAny _ _ (if (some (Value.builtin "tuple.__hash__") == some Value.none) = true then _ else _) Q E s
  rw [if_neg (by rw [beq_builtin_none]; exact Bool.false_ne_true)]
  refine wpAny_bind (wpAny_specialOf hT F.slot_tuple_hash.lookup ?_)
  show wpAny _ _ (callSpecialIfBoundUnlessNone? (.ref a) "__hash__" _ >>= _) Q E s
  refine wpAny_bind (wpAny_callSpecialIfBoundUnlessNone?_slot hT F.slot_tuple_hash (wpAny_call_entry F.slot_tuple_hash hT F.entry_tuple_hash ?_ (F.args_tuple_hash_1 _)))
  show wpAny _ _ (Builtin.Tuple.tupleItemsOf (.ref a) >>= _) _ _ s
  refine wpAny_bind (wpAny_tupleItemsOf ho hd ?_)
  refine wpAny_bind ?_
  rw [← Array.forIn_toList]
  refine wpAny_forIn_list _
    (fun rest (b : Array Int) s' => ∃ done left, ks = done ++ left ∧ HItems hk s.heap left rest ∧ b.toList = done.map hk.hash ∧ s' = { s with toks := s.toks + (done.map hk.draws).sum })
    _ ?_ ?_ _ _ ⟨[], ks, rfl, hi, rfl, rfl⟩
  · rintro x rest b s' ⟨done, left, rfl, hl, hb, rfl⟩
    cases hl with
    | @cons k _ ks' _ h1 hl' =>
      refine wpAny_bind (hk.pyHash hr h1 ?_)
      exact wpAny_pure ⟨done ++ [k], ks', by simp, hl', by simp [hb], by simp [Nat.add_assoc]⟩
  · rintro b s' ⟨done, left, rfl, hl, hb, rfl⟩
    cases hl
    rw [List.append_nil] at h
    show wpAny _ _ (retInt (Builtin.Tuple.tupleHashOf b.toList)) _ _ _
    rw [hb]
    refine wpAny_ret_mkInt ?_
    show wpAny _ _ (if (decide (-(2 : Int) ^ 63 ≤ Builtin.Tuple.tupleHashOf (done.map hk.hash)) && decide (Builtin.Tuple.tupleHashOf (done.map hk.hash) < 2 ^ 63)) = true then _ else _) Q E _
    unfold nestHash nestDraws reduceHash at h
    by_cases hr : (decide (-(2 : Int) ^ 63 ≤ Builtin.Tuple.tupleHashOf (done.map hk.hash)) && decide (Builtin.Tuple.tupleHashOf (done.map hk.hash) < 2 ^ 63)) = true
    · rw [if_pos hr]
      rw [if_pos hr] at h
      exact wpAny_pure (by simpa [Nat.add_assoc] using h)
    · rw [if_neg hr]
      rw [if_neg hr] at h
      exact wpAny_bind (wpAny_rule (wpAny_pure (by simpa [Nat.add_assoc] using h)))

theorem eq_nest {x y : List K} {a b : Addr} {P : Fin → Shared → Prop} (hr : hk.room A) (hx : IsNestKey hk s.heap x a) (hy : IsNestKey hk s.heap y b) (h : P (.done (.ret (.bool (decide (x = y))))) s) :
    wpAny (model prog w) A (Builtin.«tuple.__eq__» ⟨[.ref a, .ref b], []⟩) P E s := by
  have hTb := hy.typeIs
  obtain ⟨oa, xs, na, hoa, _, hda, hia⟩ := hx
  obtain ⟨ob, ys, nb, hob, _, hdb, hib⟩ := hy
  show wpAny _ _ (isInstance (.ref b) (.type "tuple") >>= _) _ _ s
  refine wpAny_bind (wpAny_isInstance hTb isSubtype_tuple_tuple ?_)
  simp only [Bool.not_true, Bool.false_eq_true, if_false]
  refine wpAny_bind (wpAny_tupleItemsOf hoa hda ?_)
  refine wpAny_bind (wpAny_tupleItemsOf hob hdb ?_)
  refine wpAny_bind ?_
  refine wpAny_forIn_list _
    (fun rest r s' => r.1 = none ∧ s' = s ∧ ∃ x' y' xs' ys', rest = List.zip xs' ys' ∧ HItems hk s.heap x' xs' ∧ HItems hk s.heap y' ys' ∧ decide (x' = y') = decide (x = y) ∧ (xs'.length == ys'.length) = (xs.size == ys.size))
    _ ?_ ?_ _ _ ⟨rfl, rfl, x, y, xs.toList, ys.toList, rfl, hia, hib, rfl, by simp⟩
  · rintro ⟨u, v⟩ rest r s' hJ1
    refine hide ?_
    intro G ret1
    obtain ⟨hr', rfl, x', y', xs', ys', hz, hx', hy', hdec, hlen⟩ := hJ1
    cases hx' with
    | nil => simp at hz
    | @cons k1 u' x'' xs'' h1 hx'' =>
      cases hy' with
      | nil => simp at hz
      | @cons k2 v' y'' ys'' h2 hy'' =>
        simp only [List.zip_cons_cons, List.cons.injEq, Prod.mk.injEq] at hz
        obtain ⟨⟨rfl, rfl⟩, rfl⟩ := hz
        refine ret1 ?_
        clear ret1 G
        refine wpAny_bind (hk.eqBool (x := k1) (y := k2) hr h1 h2 ?_)
        by_cases hkk : k1 = k2
        · subst hkk
          rw [decide_eq_true rfl]
          simp only [Bool.not_true, Bool.false_eq_true, if_false]
          refine wpAny_pure ⟨rfl, rfl, x'', y'', xs'', ys'', rfl, hx'', hy'', ?_, by simpa using hlen⟩
          rw [← hdec]
          by_cases hxy : x'' = y''
          · simp [hxy]
          · simp [hxy]
        · rw [decide_eq_false hkk]
          simp only [Bool.not_false, if_true]
          have hf : decide (x = y) = false := by rw [← hdec]; simp [hkk]
          rw [hf] at h
          exact wpAny_bind (wpAny_pure (wpAny_pure (wpAny_pure h)))
  · rintro ⟨r1, r2⟩ s' hJ1
    refine hide ?_
    intro G ret1
    obtain ⟨hr', rfl, x', y', xs', ys', hz, hx', hy', hdec, hlen⟩ := hJ1
    simp only at hr'
    subst hr'
    refine ret1 ?_
    clear ret1 G
    refine wpAny_pure ?_
    have hfin : (xs.size == ys.size) = decide (x = y) := by
      rw [← hdec, ← hlen]
      cases hx' with
      | nil => cases hy' with
        | nil => simp
        | cons _ _ => simp
      | cons _ _ => cases hy' with
        | nil => simp
        | cons _ _ => simp at hz
    show P (.done (.ret (.bool (xs.size == ys.size)))) s'
    rw [hfin]; exact h

theorem eqBool_nest {x y : List K} {a b : Addr} {Q : Bool → Shared → Prop} (hu : A.units < cLine) (hr : hk.room A.in1) (hx : IsNestKey hk s.heap x a) (hy : IsNestKey hk s.heap y b) (h : Q (decide (x = y)) s) :
    wpAny (model prog w) A (eqBool (.ref a) (.ref b)) Q E s := by
  unfold eqBool
  try with_reducible refine wpAny_holding ?_
  show wpAny _ _ (if (Value.ref a == Value.ref b) = true then _ else _) Q E s
  by_cases hab : (Value.ref a == Value.ref b) = true
  · rw [if_pos hab]
    have e : a = b := by have := eq_of_beq hab; injection this
    subst e
    obtain rfl := hx.inj hy
    exact wpAny_bind (wpAny_rule (wpAny_pure (by simpa using h)))
  · rw [if_neg hab]
    exact wpAny_bind (wpAny_richCompare_same_room (op := .Eq) hx.typeIs hy.typeIs F.slot_tuple_eq
      (wpAny_call_entry F.slot_tuple_eq hx.typeIs F.entry_tuple_eq (eq_nest hr hx hy ⟨_, rfl, (fun e => nomatch e), wpAny_truthy_bool h⟩) (F.args_tuple_eq_2 _ _)) hu)

theorem quiet_flat {n : Nat} {kn : KeyKind prog w K} {ks : List K} {a : Addr} {Q : Bool → Shared → Prop} (hk : IsTupleKey kn s.heap ks a) (h : Q true s) : wpAny (model prog w) A (eqIsQuiet (n + 1) (.ref a)) Q E s := by
  have hT := hk.typeIs
  obtain ⟨o, items, m, ho, _, hd, hi⟩ := hk
  unfold eqIsQuiet
  refine wpAny_bind (wpAny_specialOf hT F.slot_tuple_eq.lookup ?_)
  show wpAny _ _ (isInstance (.ref a) (.type "tuple") >>= _) _ _ s
  refine wpAny_bind (wpAny_isInstance hT isSubtype_tuple_tuple ?_)
  simp only [Bool.not_true, Bool.false_eq_true, if_false]
  refine wpAny_bind (wpAny_seqItems ho hd ?_)
  refine wpAny_bind ?_
  show wpAny _ _ (forIn items _ _) _ _ s
  rw [← Array.forIn_toList]
  refine wpAny_forIn_list _ (fun rest r s' => r.1 = none ∧ s' = s ∧ ∀ v ∈ rest, carriedByValue v = true) _ ?_ ?_ _ _ ⟨rfl, rfl, hi.byValue⟩
  · rintro v rest r s' ⟨hr, rfl, hall⟩
    rw [eqIsQuiet_byValue _ (hall v List.mem_cons_self)]
    refine wpAny_bind (wpAny_pure ?_)
    simp only [Bool.not_true, Bool.false_eq_true, if_false]
    exact wpAny_pure ⟨rfl, rfl, fun u hu' => hall u (List.mem_cons_of_mem _ hu')⟩
  · rintro ⟨r1, r2⟩ s' ⟨hr, rfl, _⟩
    simp only at hr
    subst hr
    exact wpAny_pure h
theorem quiet_nest {ks : List K} {a : Addr} {Q : Bool → Shared → Prop} (hq : ∀ {A : Around} {E : Value → Shared → Prop} {s : Shared} {k : K} {b : Addr} {Q : Bool → Shared → Prop}, hk.is s.heap k b → Q true s → wpAny (model prog w) A (eqIsQuiet 7 (.ref b)) Q E s)
    (hkey : IsNestKey hk s.heap ks a) (h : Q true s) : wpAny (model prog w) A (eqIsQuiet 8 (.ref a)) Q E s := by
  have hT := hkey.typeIs
  obtain ⟨o, items, m, ho, _, hd, hi⟩ := hkey
  unfold eqIsQuiet
  refine wpAny_bind (wpAny_specialOf hT F.slot_tuple_eq.lookup ?_)
  show wpAny _ _ (isInstance (.ref a) (.type "tuple") >>= _) _ _ s
  refine wpAny_bind (wpAny_isInstance hT isSubtype_tuple_tuple ?_)
  simp only [Bool.not_true, Bool.false_eq_true, if_false]
  refine wpAny_bind (wpAny_seqItems ho hd ?_)
  refine wpAny_bind ?_
  show wpAny _ _ (forIn items _ _) _ _ s
  rw [← Array.forIn_toList]
  refine wpAny_forIn_list _ (fun rest r s' => r.1 = none ∧ s' = s ∧ ∃ ks', HItems hk s.heap ks' rest) _ ?_ ?_ _ _ ⟨rfl, rfl, ks, hi⟩
  · rintro v rest r s' ⟨hr, rfl, ks', hall⟩
    cases hall with
    | cons h1 h2 =>
      refine wpAny_bind (hq h1 ?_)
      simp only [Bool.not_true, Bool.false_eq_true, if_false]
      exact wpAny_pure ⟨rfl, rfl, _, h2⟩
  · rintro ⟨r1, r2⟩ s' ⟨hr, rfl, _⟩
    simp only at hr
    subst hr
    exact wpAny_pure h
end

/-- the kind of a row's key: a tuple of tuples of ints -/
noncomputable def nestKind (prog : Program) (w : World) : HeapKind prog w (List (List Int)) where
  is := IsNestKey (tupleKind (intKind prog w))
  hash := nestHash (tupleKind (intKind prog w))
  draws := nestDraws (tupleKind (intKind prog w))
  room := fun A => A.units + 2 < cLine
  inj := fun hx hy => hx.inj hy
  keeps := fun x ho hd hs => x.keeps ho hd hs
  pyHash := fun {A} _ _ _ _ _ hu hkey h => pyHash_nest (by omega) (show A.in1.units < cLine by show A.units + 1 < cLine; omega) hkey h
  eqBool := fun {A} _ _ _ _ _ _ _ hu hx hy h => eqBool_nest (by omega) (show A.in1.units < cLine by show A.units + 1 < cLine; omega) hx hy h
  quiet := fun hkey h => quiet_nest (fun hx hq => quiet_flat hx hq) hkey h

noncomputable def unkey (key : List (Int × Int)) : List (List Int) := key.map fun p => [p.1, p.2]
theorem unkey_inj {x y : List (Int × Int)} (h : unkey x = unkey y) : x = y := by
  induction x generalizing y with
  | nil => cases y with
    | nil => rfl
    | cons _ _ => simp [unkey] at h
  | cons a x ih => cases y with
    | nil => simp [unkey] at h
    | cons b y =>
      simp only [unkey, List.map_cons, List.cons.injEq] at h
      obtain ⟨⟨h1, h2, _⟩, h3⟩ := h
      rw [Prod.ext h1 h2, ih h3]
theorem KeyAt.nest {prog : Program} {w : World} {h : Heap} {a : Addr} {key : List (Int × Int)} (x : KeyAt h a key) : (nestKind prog w).is h (unkey key) a := by
  obtain ⟨vs, n, h1, h2⟩ := x
  refine ⟨_, _, n, h1, rfl, rfl, ?_⟩
  show HItems (tupleKind (intKind prog w)) h (unkey key) vs
  clear h1
  induction h2 with
  | nil => exact .nil
  | cons h1 _ ih => exact .cons ⟨_, _, _, h1, rfl, rfl, .cons (intKind_is prog w _ _) (.cons (intKind_is prog w _ _) .nil)⟩ ih

end R6
section R7
open PySem PySem.W PyProof.Rows PySem.Calls PySem.Spec
noncomputable def Holds (l : List (Addr × Obj)) (h : Heap) : Prop := ∀ p ∈ l, h.get? p.1 = some p.2
/-- a row's key on a ledger -/
noncomputable def KeyOn (l : List (Addr × Obj)) (a : Addr) (key : List (Int × Int)) : Prop := ∀ h, Holds l h → KeyAt h a key
theorem KeyOn.mono {l l' : List (Addr × Obj)} {a : Addr} {key : List (Int × Int)} (x : KeyOn l a key) (h : ∀ p ∈ l, p ∈ l') : KeyOn l' a key :=
  fun hp k => x hp fun p hm => k p (h p hm)

noncomputable def lookK (D : List (List (Int × Int) × Nat)) (key : List (Int × Int)) : Option Nat := (D.find? fun p => decide (p.1 = key)).map (·.2)
theorem lookK_snoc (D : List (List (Int × Int) × Nat)) (key key' : List (Int × Int)) (n : Nat) (h : lookK D key = none) : lookK (D ++ [(key, n)]) key' = if key' = key then some n else lookK D key' := by
  induction D with
  | nil =>
    simp only [lookK, List.nil_append, List.find?_cons, List.find?_nil]
    by_cases e : key = key'
    · subst e; simp
    · simp [e, Ne.symm e]
  | cons p D ih =>
    have hp : ¬ p.1 = key := by
      intro e; simp [lookK, List.find?_cons, e] at h
    have h' : lookK D key = none := by simpa [lookK, List.find?_cons, hp] using h
    have := ih h'
    by_cases e : p.1 = key'
    · have hk : ¬ key' = key := fun q => hp (e.trans q)
      simp [lookK, List.find?_cons, e, hk]
    · simpa [lookK, List.find?_cons, e] using this

section
variable {prog : Program} {w : World}
inductive FP (l : List (Addr × Obj)) : List (List (List Int) × Addr × Value) → List (List (Int × Int) × Nat) → Prop
  | nil : FP l [] []
  | cons {a : Addr} {key : List (Int × Int)} {n : Nat} {t : Tok} {xs D} : KeyOn l a key → FP l xs D → FP l ((unkey key, a, .int (n : Int) t) :: xs) ((key, n) :: D)
theorem FP.mono {l l' : List (Addr × Obj)} {xs D} (x : FP l xs D) (h : ∀ p ∈ l, p ∈ l') : FP l' xs D := by
  induction x with
  | nil => exact .nil
  | cons k _ ih => exact .cons (k.mono h) ih
theorem FP.snoc {l : List (Addr × Obj)} {xs D} (x : FP l xs D) {a : Addr} {key : List (Int × Int)} {n : Nat} {t : Tok} (k : KeyOn l a key) : FP l (xs ++ [(unkey key, a, .int (n : Int) t)]) (D ++ [(key, n)]) := by
  induction x with
  | nil => exact .cons k .nil
  | cons k' _ ih => exact .cons k' ih
theorem FP.length {l : List (Addr × Obj)} {xs D} (x : FP l xs D) : xs.length = D.length := by
  induction x with
  | nil => rfl
  | cons _ _ ih => simp [ih]
theorem FP.look {l : List (Addr × Obj)} {xs D} (x : FP l xs D) (key : List (Int × Int)) : (lookK D key = none → atKey xs (unkey key) = none) ∧ ∀ n, lookK D key = some n → ∃ a t, atKey xs (unkey key) = some (a, .int (n : Int) t) := by
  induction x with
  | nil => exact ⟨fun _ => rfl, fun n h => by simp [lookK] at h⟩
  | @cons a k' n t xs D _ _ ih =>
    by_cases e : k' = key
    · subst e
      refine ⟨fun h => by simp [lookK] at h, fun m h => ?_⟩
      simp [lookK] at h
      subst h
      exact ⟨a, t, by simp [atKey]⟩
    · have e' : ¬ unkey k' = unkey key := fun q => e (unkey_inj q)
      refine ⟨fun h => ?_, fun m h => ?_⟩
      · have := ih.1 (by simpa [lookK, List.find?_cons, e] using h)
        simpa [atKey, List.find?_cons, e'] using this
      · have := ih.2 m (by simpa [lookK, List.find?_cons, e] using h)
        simpa [atKey, List.find?_cons, e'] using this
theorem FP.is {l : List (Addr × Obj)} {xs D} (x : FP l xs D) {h : Heap} (H : Holds l h) : ∀ y ∈ xs, (nestKind prog w).is h y.1 y.2.1 := by
  induction x with
  | nil => intro y hy; simp at hy
  | cons k _ ih =>
    intro y hy
    rcases List.mem_cons.mp hy with rfl | hy
    · exact (k h H).nest
    · exact ih y hy

/-- the dict of first rows, on a ledger -/
noncomputable def FirstsOn (prog : Program) (w : World) (l : List (Addr × Obj)) (o : Obj) (D : List (List (Int × Int) × Nat)) : Prop :=
  ∃ es ep xs, o.ExactDict ∧ o.data = .dict es ep ∧ es.toList = xs.map (entryOfKey (nestKind prog w)) ∧ (xs.map (·.1)).Nodup ∧ FP l xs D
theorem FirstsOn.mono {l l' : List (Addr × Obj)} {o D} (x : FirstsOn prog w l o D) (h : ∀ p ∈ l, p ∈ l') : FirstsOn prog w l' o D :=
  let ⟨es, ep, xs, a, b, c, d, e⟩ := x; ⟨es, ep, xs, a, b, c, d, e.mono h⟩
theorem FirstsOn.new (l : List (Addr × Obj)) : FirstsOn prog w l { cls := .type "dict", data := .dict #[] } [] :=
  ⟨#[], 0, [], ⟨rfl, rfl, rfl⟩, rfl, rfl, List.nodup_nil, .nil⟩
theorem FirstsOn.of_dict {l : List (Addr × Obj)} {o : Obj} (h : o.IsDictOf (intKind prog w) []) : FirstsOn prog w l o [] := by
  obtain ⟨es, ep, h1, h2, _, h3, _⟩ := h
  have e : es.toList = [] := by cases hq : es.toList with
    | nil => rfl
    | cons a l => rw [hq] at h3; cases h3
  exact ⟨es, ep, [], h1, h2, e, List.nodup_nil, .nil⟩
variable {A : Around} {E : Value → Shared → Prop} {s : Shared} {h₀ : Heap} {L d a : Addr} {m : Str → Option Value} {news l : List (Addr × Obj)} {o : Obj} {D : List (List (Int × Int) × Nat)} {key : List (Int × Int)}
theorem notIn_firsts {Q : Value → Shared → Prop} (N : News h₀ L s.heap news) (hd : (d, o) ∈ news) (hl : ∀ p ∈ l, p ∈ news) (FO : FirstsOn prog w l o D) (K : KeyOn l a key) (hu : A.units + 3 < cLine) (hlow : (d == sysModules) = false)
    (h : ∀ tk, Q (.bool (!(lookK D key).isSome)) { s with toks := tk }) : wpAny (model prog w) A (compareOp .NotIn (.ref a) (.ref d)) Q E s := by
  obtain ⟨es, ep, xs, h1, h2, h3, h4, h5⟩ := FO
  have H : Holds l s.heap := fun p hp => (N p (hl p hp)).1
  refine wpAny_notIn_heap (knd := nestKind prog w) (xs := xs) (show A.in1.units + 2 < cLine by show A.units + 1 + 2 < cLine; omega) (K s.heap H).nest hlow ⟨o, es, ep, (N _ hd).1, h1, h2, h3, h5.is H, h4⟩ ?_
  have e : (atKey xs (unkey key)).isSome = (lookK D key).isSome := by
    cases q : lookK D key with
    | none => rw [(h5.look key).1 q]; rfl
    | some n => obtain ⟨b, t, e⟩ := (h5.look key).2 n q; rw [e]; rfl
  rw [e]; exact h _
theorem getItem_firsts {Q : Value → Shared → Prop} {n : Nat} {value slice : Expr} (N : News h₀ L s.heap news) (hd : (d, o) ∈ news) (hl : ∀ p ∈ l, p ∈ news) (FO : FirstsOn prog w l o D) (K : KeyOn l a key) (hu : A.units + 3 < cLine) (hn : lookK D key = some n)
    (h : ∀ tk t, Q (.int (n : Int) t) { s with toks := tk })
    (hs : subscripted slice false (.ref d) (.ref a) = operate [.ref d, .ref a] (getItem (.ref d) (.ref a)) := by with_unfolding_all rfl) :
    wpAny (model prog w) A (subscriptTail value slice (.ref d) (.ref a)) Q E s := by
  obtain ⟨es, ep, xs, h1, h2, h3, h4, h5⟩ := FO
  have H : Holds l s.heap := fun p hp => (N p (hl p hp)).1
  obtain ⟨b, t, e⟩ := (h5.look key).2 n hn
  have hD : s.heap.DictOfH (nestKind prog w) d xs := ⟨o, es, ep, (N _ hd).1, h1, h2, h3, h5.is H, h4⟩
  exact tail_any hD.typeIs slot_dict_getitem.lookup (wpAny_getItem_heap (knd := nestKind prog w) (xs := xs) (show A.in1.units + 2 < cLine by show A.units + 1 + 2 < cLine; omega) (K s.heap H).nest hD e (h _ _)) hs
theorem setItem_firsts {Q : Unit → Shared → Prop} {n : Nat} {z : Int} {t : Tok} {g : Obj → List (Addr × Obj)} (F : Fr h₀ L s.heap m) (N : News h₀ L s.heap news) (U : UpdF d o news g) (hl : ∀ p ∈ l, p ∈ news) (FO : FirstsOn prog w l o D) (K : KeyOn l a key) (hu : A.units + 3 < cLine) (hn : lookK D key = none) (hsz : D.length ≤ 1000) (hz : z = (n : Int))
    (h : ∀ h' o' tk, Fr h₀ L h' m → News h₀ L h' (g o') → FirstsOn prog w l o' (D ++ [(key, n)]) → Q () { s with heap := h', toks := tk }) :
    wpAny (model prog w) A (setItem (.ref d) (.ref a) (.int z t)) Q E s := by
  subst hz
  obtain ⟨pre, post, rfl, eg, ha, hb⟩ := U.split
  have hd : (d, o) ∈ pre ++ (d, o) :: post := List.mem_append.mpr (.inr (.head _))
  obtain ⟨es, ep, xs, h1, h2, h3, h4, h5⟩ := FO
  have H : Holds l s.heap := fun p hp => (N p (hl p hp)).1
  have hl5 := h5.length
  have hN := N _ hd
  refine wpAny_setItem_heap (hsz := by rw [sizeLine_eq]; omega) (knd := nestKind prog w) (xs := xs) (show A.in1.units + 2 < cLine by show A.units + 1 + 2 < cLine; omega) (K s.heap H).nest ⟨o, es, ep, (N _ hd).1, h1, h2, h3, h5.is H, h4⟩ fun h' hm' hs => ?_
  obtain ⟨o', es', ep', ho', hc', hd', he', _, hn'⟩ := hm'
  rw [storedH_new ((h5.look key).1 hn)] at he' hn'
  refine h h' o' _ (F.change hs hN.2.1 hN.2.2) ?_ ⟨es', ep', _, hc', hd', he', hn', h5.snoc K⟩
  rw [eg]
  exact news_set N ha hb hs ho'
end

end R7
section R8
open PySem PySem.W PyProof.Rows PySem.Calls PySem.Spec
noncomputable abbrev Rows := List (List (Int × Int))
section
variable {prog : Program} {w : World}
inductive RowsIn (prog : Program) (w : World) (h : Heap) : List Value → Rows → Prop
  | nil : RowsIn prog w h [] []
  | cons {a : Addr} {row : List (Int × Int)} {vs rs} : RowAt prog w h a row → RowsIn prog w h vs rs → RowsIn prog w h (.ref a :: vs) (row :: rs)
theorem RowsIn.keeps {h h' : Heap} {vs rs} (x : RowsIn prog w h vs rs) (k : ∀ b o, h.get? b = some o → h'.get? b = some o) : RowsIn prog w h' vs rs := by
  induction x with
  | nil => exact .nil
  | cons r _ ih => exact .cons (r.keeps fun o e => k _ o e) ih
theorem RowsIn.length {h : Heap} {vs rs} (x : RowsIn prog w h vs rs) : vs.length = rs.length := by
  induction x with
  | nil => rfl
  | cons _ _ ih => simp [ih]
theorem RowsIn.at {h : Heap} {vs rs} (x : RowsIn prog w h vs rs) : ∀ (i : Nat), i < rs.length → ∃ a, vs[i]? = some (.ref a) ∧ RowAt prog w h a (rs.getD i []) := by
  induction x with
  | nil => intro i hi; simp at hi
  | cons r _ ih =>
    intro i hi
    cases i with
    | zero => exact ⟨_, rfl, r⟩
    | succ i => simpa using ih i (by simpa using hi)
theorem RowsIn.snoc {h : Heap} {vs rs} (x : RowsIn prog w h vs rs) {a : Addr} {row} (r : RowAt prog w h a row) : RowsIn prog w h (vs ++ [.ref a]) (rs ++ [row]) := by
  induction x with
  | nil => exact .cons r .nil
  | cons r' _ ih => exact .cons r' ih
end
theorem upd1 {n : Str} {nv nv0 : Option Value} {base : Str → Option Value} : (fun y => if y = n then nv else (fun y => if y = n then nv0 else base y) y) = (fun y => if y = n then nv else base y) := by
  funext y; by_cases h : y = n <;> simp [h]
theorem upd2 {k n : Str} {kv nv kv0 nv0 : Option Value} {base : Str → Option Value} : (fun y => if y = k then kv else if y = n then nv else (fun y => if y = k then kv0 else if y = n then nv0 else base y) y) = (fun y => if y = k then kv else if y = n then nv else base y) := by
  funext y; by_cases h : y = k <;> by_cases h' : y = n <;> simp [h, h']
theorem ini1 {n : Str} {base : Str → Option Value} (h : base n = none) : base = (fun y => if y = n then none else base y) := by
  funext y; by_cases e : y = n
  · subst e; simp [h]
  · simp [e]
theorem ini2 {k n : Str} {base : Str → Option Value} (h : base k = none) (h' : base n = none) : base = (fun y => if y = k then none else if y = n then none else base y) := by
  funext y; by_cases e : y = k
  · subst e; simp [h]
  · by_cases e' : y = n
    · subst e'; simp [h']
    · simp [e, e']
theorem stop_at {p : Prop} (h : Stop p) : p := h
theorem dec_beq (a b : Int) : decide (a = b) = (a == b) := by
  by_cases h : a = b
  · subst h; simp
  · have : (a == b) = false := beq_eq_false_iff_ne.mpr h
    rw [this, decide_eq_false h]
/-- a comb: is a cell free, do columns fit -/
noncomputable def freeB (cs : List Int) (c : Int) : Bool := decide ((cs.length : Int) ≤ c) || decide (cs.getD c.toNat 0 = 0)
noncomputable def fitsB (cs cols : List Int) (b : Int) : Bool := cols.all fun c => freeB cs (b + c)
theorem fits_step {cs cols : List Int} {b z : Int} {i : Nat} (hz : cols[i]? = some z) (h : fitsB cs (cols.take i) b = true) : (freeB cs (b + z) = true → fitsB cs (cols.take (i + 1)) b = true) ∧ (freeB cs (b + z) = false → fitsB cs cols b = false) := by
  refine ⟨fun hf => ?_, fun hf => ?_⟩
  · unfold fitsB at *
    rw [List.take_add_one, hz, List.all_append, h]
    simp [hf]
  · unfold fitsB
    rw [List.all_eq_false]
    exact ⟨z, List.mem_of_getElem? hz, by simp [hf]⟩
noncomputable def fitFrom (cs cols : List Int) : Nat → Int → Int
  | 0, b => b
  | n + 1, b => if fitsB cs cols b = true then b else fitFrom cs cols n (b + 1)
noncomputable def firstF (cs cols : List Int) : Int := fitFrom cs cols (cs.length + 1) (-(cols.getD 0 0))
theorem fits_high {cs cols : List Int} {b : Int} (h : ∀ c ∈ cols, cols.getD 0 0 ≤ c) (hb : -(cols.getD 0 0) + (cs.length : Int) ≤ b) : fitsB cs cols b = true := by
  unfold fitsB
  rw [List.all_eq_true]
  intro c hc
  have := h c hc
  unfold freeB
  rw [decide_eq_true (by omega : (cs.length : Int) ≤ b + c)]
  rfl
theorem fitFrom_bounds {cs cols : List Int} (h : ∀ c ∈ cols, cols.getD 0 0 ≤ c) : ∀ (n : Nat) (b : Int), -(cols.getD 0 0) + (cs.length : Int) ≤ b + n → -(cols.getD 0 0) ≤ b → b ≤ -(cols.getD 0 0) + (cs.length : Int) → -(cols.getD 0 0) ≤ fitFrom cs cols (n + 1) b ∧ fitFrom cs cols (n + 1) b ≤ -(cols.getD 0 0) + (cs.length : Int)
  | 0, b, h1, h2, h3 => by
    unfold fitFrom
    rw [fits_high h (by omega), if_pos rfl]
    exact ⟨h2, h3⟩
  | n + 1, b, h1, h2, h3 => by
    unfold fitFrom
    by_cases hf : fitsB cs cols b = true
    · rw [if_pos hf]; exact ⟨h2, h3⟩
    · rw [if_neg hf]
      refine fitFrom_bounds h n (b + 1) (by omega) (by omega) ?_
      rcases Int.lt_or_le b (-(cols.getD 0 0) + (cs.length : Int)) with q | q
      · omega
      · exact absurd (fits_high h q) hf
theorem firstF_bounds {cs cols : List Int} (h : ∀ c ∈ cols, cols.getD 0 0 ≤ c) : -(cols.getD 0 0) ≤ firstF cs cols ∧ firstF cs cols ≤ -(cols.getD 0 0) + (cs.length : Int) :=
  fitFrom_bounds h cs.length _ (by omega) (by omega) (by omega)
theorem rep_snoc (l : List Int) (j : Nat) : l ++ List.replicate (j + 1) 0 = (l ++ List.replicate j 0) ++ [0] := by
  rw [List.replicate_succ', List.append_assoc]
/-- rows that the sort can take -/
noncomputable def RowOk (r : List (Int × Int)) : Prop := (r.length < 64 ∨ (r.map (·.1)).Pairwise (· ≤ ·)) ∧ r.length ≤ 1000

noncomputable def keysF (rs : Rows) : List (List (Int × Int)) := rs.map rowKey
noncomputable def ownerF (rs : Rows) (i : Nat) : Nat := (keysF rs).idxOf (rowKey (rs.getD i []))
noncomputable def ownersF (rs : Rows) : List Int := (List.range rs.length).map fun i => (ownerF rs i : Int)

theorem ownersF_getD {rs : Rows} {i : Nat} (hi : i < rs.length) : (ownersF rs).getD i 0 = (ownerF rs i : Int) := by
  simp [ownersF, List.getD_eq_getElem?_getD, hi]
/-- what the dict of first rows holds after i rows -/
structure FirstsAt (rs : Rows) (i : Nat) (D : List (List (Int × Int) × Nat)) : Prop where
  some : ∀ k n, lookK D k = some n → n = (keysF rs).idxOf k
  none : ∀ k, lookK D k = none → k ∉ (keysF rs).take i
  len : D.length ≤ i
theorem FirstsAt.zero (rs : Rows) : FirstsAt rs 0 [] := ⟨fun k n h => by simp [lookK] at h, fun k _ => by simp, Nat.le_refl _⟩
theorem keysF_at {rs : Rows} {i : Nat} (hi : i < rs.length) : (keysF rs)[i]? = .some (rowKey (rs.getD i [])) := by
  simp [keysF, List.getElem?_eq_getElem hi, List.getD_eq_getElem?_getD]
theorem keysF_take {rs : Rows} {i : Nat} (hi : i < rs.length) : (keysF rs).take (i + 1) = (keysF rs).take i ++ [rowKey (rs.getD i [])] := by
  rw [List.take_add_one, keysF_at hi]; rfl
theorem FirstsAt.idx {rs : Rows} {i : Nat} {D} (x : FirstsAt rs i D) (hi : i < rs.length) (h : lookK D (rowKey (rs.getD i [])) = .none) : i = ownerF rs i := by
  have hn := x.none _ h
  unfold ownerF
  have hk : (keysF rs)[i]? = .some (rowKey (rs.getD i [])) := keysF_at hi
  have hl : (keysF rs).length = rs.length := by simp [keysF]
  have e : keysF rs = (keysF rs).take i ++ rowKey (rs.getD i []) :: (keysF rs).drop (i + 1) := by
    conv => lhs; rw [← List.take_append_drop i (keysF rs)]
    congr 1
    rw [List.drop_eq_getElem_cons (by omega)]
    congr 1
    rw [List.getElem?_eq_getElem (by omega)] at hk
    exact Option.some.inj hk
  rw [e, List.idxOf_append, if_neg hn, List.idxOf_cons_self, List.length_take]
  omega
theorem FirstsAt.add {rs : Rows} {i : Nat} {D} (x : FirstsAt rs i D) (hi : i < rs.length) (h : lookK D (rowKey (rs.getD i [])) = .none) : FirstsAt rs (i + 1) (D ++ [(rowKey (rs.getD i []), i)]) := by
  refine ⟨fun k n hk => ?_, fun k hk => ?_, by have := x.len; simp; omega⟩
  · rw [lookK_snoc _ _ _ _ h] at hk
    split at hk
    · rename_i e
      subst e
      rw [← Option.some.inj hk]
      exact x.idx hi h
    · exact x.some k n hk
  · rw [lookK_snoc _ _ _ _ h] at hk
    split at hk
    · simp at hk
    · rename_i e
      rw [keysF_take hi]
      intro hm
      rcases List.mem_append.mp hm with hm | hm
      · exact x.none k hk hm
      · exact e (List.mem_singleton.mp hm)
theorem FirstsAt.stay {rs : Rows} {i n : Nat} {D} (x : FirstsAt rs i D) (hi : i < rs.length) (h : lookK D (rowKey (rs.getD i [])) = .some n) : FirstsAt rs (i + 1) D := by
  refine ⟨x.some, fun k hk => ?_, by have := x.len; omega⟩
  rw [keysF_take hi]
  intro hm
  rcases List.mem_append.mp hm with hm | hm
  · exact x.none k hk hm
  · rw [List.mem_singleton.mp hm, h] at hk; cases hk
theorem ownersF_take {rs : Rows} {i : Nat} (hi : i < rs.length) : (ownersF rs).take (i + 1) = (ownersF rs).take i ++ [(ownerF rs i : Int)] := by
  rw [List.take_add_one]
  congr 1
  simp [ownersF, List.getElem?_range hi]
theorem ownersF_length (rs : Rows) : (ownersF rs).length = rs.length := by simp [ownersF]
noncomputable def keyedTo (rs : Rows) (k : Nat) : List (Int × Int) := (List.range k).filterMap fun i => if ownerF rs i = i ∧ 0 < (rs.getD i []).length then some (-((rs.getD i []).length : Int), (i : Int)) else none
noncomputable def keyedF (rs : Rows) : List (Int × Int) := keyedTo rs rs.length
theorem keyedTo_yes {rs : Rows} {k : Nat} (h : ownerF rs k = k) (h' : 0 < (rs.getD k []).length) : keyedTo rs (k + 1) = keyedTo rs k ++ [(-((rs.getD k []).length : Int), (k : Int))] := by
  unfold keyedTo
  rw [List.range_succ, List.filterMap_append]
  congr 1
  simp only [List.filterMap_cons, List.filterMap_nil, if_pos (And.intro h h')]
theorem keyedTo_no {rs : Rows} {k : Nat} (h : ¬ (ownerF rs k = k ∧ 0 < (rs.getD k []).length)) : keyedTo rs (k + 1) = keyedTo rs k := by
  unfold keyedTo
  rw [List.range_succ, List.filterMap_append]
  simp only [List.filterMap_cons, List.filterMap_nil, if_neg h, List.append_nil]
theorem ints_snoc {vs : List Value} {ns : List Int} (x : IntsAre vs ns) (n : Int) (t : Tok) : IntsAre (vs ++ [.int n t]) (ns ++ [n]) := x.append (.cons n t .nil)
section
variable {prog : Program} {w : World} {A : Around} {E : Value → Shared → Prop} {s : Shared} {h₀ : Heap} {L : Addr} {m : Str → Option Value} {news : List (Addr × Obj)}
theorem news_call {h h3 : Heap} {pre tail lk : List (Addr × Obj)} (N : News h₀ L h (pre ++ tail)) (kk : ∀ b o, h.get? b = some o → h3.get? b = some o) (hlk : ∀ p ∈ lk, @LE.le Nat _ h.objs.size p.1 ∧ h3.get? p.1 = some p.2) (F : Fr h₀ L h m) : News h₀ L h3 (pre ++ (lk ++ tail)) := by
  intro p hp
  rcases List.mem_append.mp hp with hp | hp
  · exact ⟨kk _ _ (N p (List.mem_append_left _ hp)).1, (N p (List.mem_append_left _ hp)).2⟩
  · rcases List.mem_append.mp hp with hp | hp
    · have z := hlk p hp
      have hL : @LT.lt Nat _ L p.1 := Nat.lt_of_lt_of_le F.ns.lt z.1
      refine ⟨z.2, Nat.ne_of_gt hL, ?_⟩
      cases e : h₀.get? p.1 with
      | none => rfl
      | some o => exact absurd (Heap.lt_size e) (Nat.not_lt.mpr (Nat.le_trans F.above (Nat.le_of_lt hL)))
    · exact ⟨kk _ _ (N p (List.mem_append_right _ hp)).1, (N p (List.mem_append_right _ hp)).2⟩
theorem news_add {h h3 : Heap} {r : Addr} {o : Obj} (N : News h₀ L h news) (F : Fr h₀ L h m) (kk : ∀ b o, h.get? b = some o → h3.get? b = some o) (hr : @LE.le Nat _ h.objs.size r) (ho : h3.get? r = some o) :
    Fr h₀ L h3 m ∧ News h₀ L h3 ((r, o) :: news) ∧ (∀ p ∈ news, @LT.lt Nat _ p.1 r) ∧ @LT.lt Nat _ L r := by
  have hL : @LT.lt Nat _ L r := Nat.lt_of_lt_of_le F.ns.lt hr
  refine ⟨F.keeps kk, fun p hp => ?_, fun p hp => Nat.lt_of_lt_of_le (Heap.lt_size (N p hp).1) hr, hL⟩
  rcases List.mem_cons.mp hp with rfl | hp
  · refine ⟨ho, Nat.ne_of_gt hL, ?_⟩
    cases e : h₀.get? r with
    | none => rfl
    | some o => exact absurd (Heap.lt_size e) (Nat.not_lt.mpr (Nat.le_trans F.above (Nat.le_of_lt hL)))
  · exact ⟨kk _ _ (N p hp).1, (N p hp).2⟩
theorem back_frame {h h₂ g : Heap} {L' : Addr} {mods l9 : List (Addr × Obj)} (F1 : Fr h₀ L h m) (N1 : News h₀ L h (mods ++ news)) (hne : ∀ p ∈ news, p.1 ∉ mods.map (·.1)) (kg : ∀ b o, b ∉ mods.map (·.1) → h.get? b = some o → g.get? b = some o) (k9 : ∀ b o, g.get? b = some o → h₂.get? b = some o) (N9 : News g L' h₂ l9) :
    Fr h₀ L h₂ m ∧ News h₀ L h₂ (l9 ++ news) := by
  have hLm : L ∉ mods.map (·.1) := fun q => by
    obtain ⟨p, hp, e⟩ := List.mem_map.mp q
    exact (N1 p (List.mem_append_left _ hp)).2.1 e
  have h0m : ∀ b o, h₀.get? b = some o → b ∉ mods.map (·.1) := fun b o e q => by
    obtain ⟨p, hp, e2⟩ := List.mem_map.mp q
    have := (N1 p (List.mem_append_left _ hp)).2.2
    rw [e2, e] at this; cases this
  have up : ∀ b o, b ∉ mods.map (·.1) → h.get? b = some o → h₂.get? b = some o := fun b o h1 e => k9 b o (kg b o h1 e)
  refine ⟨⟨F1.ns.at' fun o e => up L o hLm e, fun b o e => up b o (h0m b o e) (F1.keep b o e), F1.above⟩, fun p hp => ?_⟩
  rcases List.mem_append.mp hp with hp | hp
  · have z := N9 p hp
    refine ⟨z.1, fun e => ?_, ?_⟩
    · obtain ⟨o, _, _, h1, _⟩ := F1.ns
      have := kg L o hLm h1
      rw [← e, z.2.2] at this; cases this
    · cases e : h₀.get? p.1 with
      | none => rfl
      | some o => have := kg _ _ (h0m _ _ e) (F1.keep _ _ e); rw [z.2.2] at this; cases this
  · have z := N1 p (List.mem_append_right _ hp)
    exact ⟨up _ _ (hne p hp) z.1, z.2⟩
theorem news_kept {h h3 : Heap} (N : News h₀ L h news) (kk : ∀ b o, h.get? b = some o → h3.get? b = some o) : News h₀ L h3 news := fun p hp => ⟨kk _ _ (N p hp).1, (N p hp).2⟩
theorem kept_all {h h₂ g : Heap} {mods : List (Addr × Obj)} (kg : ∀ b o, b ∉ mods.map (·.1) → h.get? b = some o → g.get? b = some o) (k9 : ∀ b o, g.get? b = some o → h₂.get? b = some o) (hm : ∀ q ∈ mods, h.get? q.1 = some q.2 ∧ h₀.get? q.1 = none) (N : ∀ q ∈ mods, h₂.get? q.1 = some q.2) : ∀ b o, h.get? b = some o → h₂.get? b = some o := by
  intro b o e
  by_cases hb : b ∈ mods.map (·.1)
  · obtain ⟨p, hp, rfl⟩ := List.mem_map.mp hb
    rw [(hm p hp).1] at e
    rw [N p hp]; exact e
  · exact k9 b o (kg b o hb e)
theorem kept_but {h h₂ g : Heap} {mods : List (Addr × Obj)} {t k : Addr} (kg : ∀ b o, b ∉ mods.map (·.1) → h.get? b = some o → g.get? b = some o) (k9 : ∀ b o, g.get? b = some o → h₂.get? b = some o) (hm : ∀ q ∈ mods, h.get? q.1 = some q.2 ∧ h₀.get? q.1 = none) (N : ∀ q ∈ mods, q.1 ≠ t → q.1 ≠ k → h₂.get? q.1 = some q.2) : ∀ b o, b ≠ t → b ≠ k → h.get? b = some o → h₂.get? b = some o := by
  intro b o h1 h2 e
  by_cases hb : b ∈ mods.map (·.1)
  · obtain ⟨p, hp, rfl⟩ := List.mem_map.mp hb
    rw [(hm p hp).1] at e
    rw [N p hp h1 h2]; exact e
  · exact k9 b o (kg b o hb e)
noncomputable abbrev combD (w : World) (ta tb : Tok) (t k : Addr) : Obj := dictOf [⟨PyData.keyHash w.params (Str.ofString "table"), .str (Str.ofString "table") ta, .ref t⟩, ⟨PyData.keyHash w.params (Str.ofString "check"), .str (Str.ofString "check") tb, .ref k⟩] 2
theorem news_new {h h3 : Heap} {r : Addr} {o : Obj} (N : News h₀ L h news) (F : Fr h₀ L h m) (kk : ∀ b o, h.get? b = some o → h3.get? b = some o) (hr : h.get? r = none) (ho : h3.get? r = some o) :
    Fr h₀ L h3 m ∧ News h₀ L h3 ((r, o) :: news) ∧ (∀ p ∈ news, p.1 ≠ r) := by
  have ne : ∀ p ∈ news, p.1 ≠ r := fun p hp e => by have := (N p hp).1; rw [e, hr] at this; cases this
  refine ⟨F.keeps kk, fun p hp => ?_, ne⟩
  rcases List.mem_cons.mp hp with rfl | hp
  · refine ⟨ho, fun e => ?_, ?_⟩
    · obtain ⟨_, _, _, h1, _⟩ := F.ns
      dsimp only at e
      rw [← e, hr] at h1; cases h1
    · cases e : h₀.get? r with
      | none => rfl
      | some o => have := F.keep _ _ e; rw [hr] at this; cases this
  · exact ⟨kk _ _ (N p hp).1, (N p hp).2⟩
theorem newDict_L {env : Env} {pos : Pos} {Q : Value → Shared → Prop} (F : Fr h₀ L s.heap m) (N : News h₀ L s.heap news) (hbig : h₀.NoLimit)
    (k : ∀ d h' o, Fr h₀ L h' m → News h₀ L h' ((d, o) :: news) → (∀ p ∈ news, @LT.lt Nat _ p.1 d) → (d == sysModules) = false → o.IsDictOf (intKind prog w) [] → @LT.lt Nat _ L d → Q (.ref d) { s with heap := h' }) : wpAny (model prog w) A (eval (.Dict [] [] pos) env) Q E s :=
  Dict_empty_made2 F N (modules_low hbig) fun h' o F' N' lo _ _ e _ _ => k _ h' o F' N' (fun p hp => Heap.lt_size (N p hp).1) lo e F.ns.lt
theorem newList_L {vs : List Value} {Q : Value → Shared → Prop} (F : Fr h₀ L s.heap m) (N : News h₀ L s.heap news)
    (h : ∀ l h', Fr h₀ L h' m → News h₀ L h' ((l, listOf vs.toArray 0) :: news) → (∀ p ∈ news, @LT.lt Nat _ p.1 l) → @LT.lt Nat _ L l → Q (.ref l) { s with heap := h' }) (hsz : vs.length ≤ sizeLine := by size_fits) : wpAny (model prog w) A (newList vs) Q E s :=
  newList_N F N (fun h' F' N' => h _ h' F' N' (fun p hp => Heap.lt_size (N p hp).1) F.ns.lt) hsz
theorem len_base {ax : Addr} {vs : List Value} {Q : Value → Shared → Prop} (F : Fr h₀ L s.heap m) (hl : h₀.IsList ax vs.toArray) (hf : vs.length ≤ 1000000) (h : Q (.int (vs.length : Nat) (s.toks + 1)) { s with toks := s.toks + 1 + 1 }) :
    wpAny (model prog w) A (call (.builtin "len") [.ref ax]) Q E s := len_list (hl.at fun o e => F.keep ax o e) (by simp only [List.size_toArray]; omega) (by simpa only [List.size_toArray] using h)
theorem item_base {value slice : Expr} {ax : Addr} {vs : List Value} {i : Nat} {k : Int} {u : Tok} {x : Value} {Q : Value → Shared → Prop} (F : Fr h₀ L s.heap m) (hl : h₀.IsList ax vs.toArray) (hx : vs[i]? = some x) (e : k = (i : Int)) (hf : i ≤ 1000000) (h : Q x s)
    (hs : subscripted slice false (.ref ax) (.int k u) = operate [.ref ax, .int k u] (getItem (.ref ax) (.int k u)) := by with_unfolding_all rfl) :
    wpAny (model prog w) A (subscriptTail value slice (.ref ax) (.int k u)) Q E s := by
  subst e
  have hls := hl.at (h' := s.heap) fun o e => F.keep ax o e
  exact tail_any hls.typeIs slot_list_getitem.lookup (wpAny_getItem_list hls (by omega) (by omega) (by simpa using hx) h) hs
theorem len_row {a : Addr} {row : List (Int × Int)} {Q : Value → Shared → Prop} (F : Fr h₀ L s.heap m) (R : RowAt prog w h₀ a row) (hf : row.length ≤ 1000000) (h : ∀ t tk, Q (.int (row.length : Nat) t) { s with toks := tk }) :
    wpAny (model prog w) A (call (.builtin "len") [.ref a]) Q E s := by
  obtain ⟨lo, kvs, hD, hv⟩ := R
  refine call_len_dict lo (hD.keep F.keep) (by rw [hv.length]; omega) ?_
  rw [hv.length]
  exact h _ _
theorem len_led {ax : Addr} {vs : List Value} {e : Nat} {Q : Value → Shared → Prop} (N : News h₀ L s.heap news) (hm : (ax, listOf vs.toArray e) ∈ news) (hf : vs.length ≤ 1000000) (h : Q (.int (vs.length : Nat) (s.toks + 1)) { s with toks := s.toks + 1 + 1 }) :
    wpAny (model prog w) A (call (.builtin "len") [.ref ax]) Q E s := len_list (News.isList N hm) (by simp only [List.size_toArray]; omega) (by simpa only [List.size_toArray] using h)
end

end R8
section R9
open PySem PySem.W PyProof.Rows PySem.Calls PySem.Spec

noncomputable def evalK {α : Type} (lt : Nat → Nat → Bool) : KasT α → α
  | .ret a => a
  | .ask i j k => evalK lt (k (lt i j))
noncomputable def asksB {α : Type} (lt : Nat → Nat → Bool) (n : Nat) : KasT α → Bool
  | .ret _ => true
  | .ask i j k => decide (i < n) && (decide (j < n) && (!(i == j) && asksB lt n (k (lt i j))))
theorem evalK_congr {α : Type} {lt lt' : Nat → Nat → Bool} {n : Nat} (h : ∀ i j, i < n → j < n → i ≠ j → lt i j = lt' i j) : ∀ t : KasT α, asksB lt n t = true → asksB lt' n t = true ∧ evalK lt' t = evalK lt t
  | .ret _, _ => ⟨rfl, rfl⟩
  | .ask i j k, ha => by
    simp only [asksB, Bool.and_eq_true, decide_eq_true_eq, Bool.not_eq_true', beq_eq_false_iff_ne] at ha
    have e := h i j ha.1 ha.2.1 ha.2.2.1
    have := evalK_congr h (k (lt i j)) ha.2.2.2
    simp only [asksB, evalK, ← e, Bool.and_eq_true, decide_eq_true_eq, Bool.not_eq_true', beq_eq_false_iff_ne]
    exact ⟨⟨ha.1, ha.2.1, ha.2.2.1, this.1⟩, this.2⟩
noncomputable def tb (b01 b02 b10 b12 b20 b21 : Bool) : Nat → Nat → Bool
  | 0, 1 => b01
  | 0, 2 => b02
  | 1, 0 => b10
  | 1, 2 => b12
  | 2, 0 => b20
  | 2, 1 => b21
  | _, _ => false
theorem tb3 : ∀ b01 b02 b10 b12 b20 b21 : Bool, asksB (tb b01 b02 b10 b12 b20 b21) 3 (kas_sort 3) = true ∧ (evalK (tb b01 b02 b10 b12 b20 b21) (kas_sort 3)).toList.all (fun i => decide (i < 3)) = true := by decide +kernel
theorem tb2 : ∀ b01 b10 : Bool, asksB (tb b01 false b10 false false false) 2 (kas_sort 2) = true ∧ (evalK (tb b01 false b10 false false false) (kas_sort 2)).toList.all (fun i => decide (i < 2)) = true := by decide +kernel
theorem ne2 : ∀ i, i < 2 → ∀ j, j < 2 → i ≠ j → (i = 0 ∧ j = 1) ∨ (i = 1 ∧ j = 0) := by decide
theorem ne3 (i : Nat) (hi : i < 3) (j : Nat) (hj : j < 3) (h : i ≠ j) : (i = 0 ∧ j = 1) ∨ (i = 0 ∧ j = 2) ∨ (i = 1 ∧ j = 0) ∨ (i = 1 ∧ j = 2) ∨ (i = 2 ∧ j = 0) ∨ (i = 2 ∧ j = 1) := by
  match i, j, hi, hj, h with
  | 0, 1, _, _, _ => exact .inl ⟨rfl, rfl⟩
  | 0, 2, _, _, _ => exact .inr (.inl ⟨rfl, rfl⟩)
  | 1, 0, _, _, _ => exact .inr (.inr (.inl ⟨rfl, rfl⟩))
  | 1, 2, _, _, _ => exact .inr (.inr (.inr (.inl ⟨rfl, rfl⟩)))
  | 2, 0, _, _, _ => exact .inr (.inr (.inr (.inr (.inl ⟨rfl, rfl⟩))))
  | 2, 1, _, _, _ => exact .inr (.inr (.inr (.inr (.inr ⟨rfl, rfl⟩))))
  | 0, 0, _, _, h => exact absurd rfl h
  | 1, 1, _, _, h => exact absurd rfl h
  | 2, 2, _, _, h => exact absurd rfl h
theorem few_ok (lt : Nat → Nat → Bool) {n : Nat} (h2 : 2 ≤ n) (h3 : n ≤ 3) : asksB lt n (kas_sort n) = true ∧ ∀ i ∈ (evalK lt (kas_sort n)).toList, i < n := by
  rcases (by omega : n = 2 ∨ n = 3) with rfl | rfl
  · have h := tb2 (lt 0 1) (lt 1 0)
    have e := evalK_congr (lt' := lt) (n := 2) (fun i j hi hj hne => by
      rcases (ne2 i hi j hj hne) with ⟨rfl, rfl⟩ | ⟨rfl, rfl⟩ <;> rfl) (kas_sort 2) h.1
    refine ⟨e.1, ?_⟩
    rw [e.2]
    exact fun i hi => by simpa using List.all_eq_true.mp h.2 i hi
  · have h := tb3 (lt 0 1) (lt 0 2) (lt 1 0) (lt 1 2) (lt 2 0) (lt 2 1)
    have e := evalK_congr (lt' := lt) (n := 3) (fun i j hi hj hne => by
      rcases (ne3 i hi j hj hne) with ⟨rfl, rfl⟩ | ⟨rfl, rfl⟩ | ⟨rfl, rfl⟩ | ⟨rfl, rfl⟩ | ⟨rfl, rfl⟩ | ⟨rfl, rfl⟩ <;> rfl) (kas_sort 3) h.1
    refine ⟨e.1, ?_⟩
    rw [e.2]
    exact fun i hi => by simpa using List.all_eq_true.mp h.2 i hi
theorem kas_eval {α : Type} {cmp : Nat → Nat → (Bool → Shared → Prop) → Shared → Prop} {lt : Nat → Nat → Bool} {n : Nat} {Q : α → Shared → Prop} {s : Shared} (hc : ∀ i j (C : Bool → Shared → Prop), i < n → j < n → C (lt i j) s → cmp i j C s) :
    ∀ t : KasT α, asksB lt n t = true → Q (evalK lt t) s → t.kasWp cmp Q s
  | .ret _, _, h => h
  | .ask i j k, ha, h => by
    simp only [asksB, Bool.and_eq_true, decide_eq_true_eq, Bool.not_eq_true', beq_eq_false_iff_ne] at ha
    exact hc i j _ ha.1 ha.2.1 (kas_eval hc (k (lt i j)) ha.2.2.2 h)

noncomputable def lexB (p q : Int × Int) : Bool := if p.1 = q.1 then (if p.2 = q.2 then false else decide (p.2 < q.2)) else decide (p.1 < q.1)
noncomputable def ltOf (ps : List (Int × Int)) (i j : Nat) : Bool := lexB (ps.getD i (0, 0)) (ps.getD j (0, 0))
noncomputable def sort3 (ps : List (Int × Int)) : List (Int × Int) := if ps.length < 2 then ps else (evalK (ltOf ps) (kas_sort ps.length)).toList.map fun i => ps.getD i (0, 0)
theorem sort3_mem {ps : List (Int × Int)} (h3 : ps.length ≤ 3) : ∀ p ∈ sort3 ps, p ∈ ps := by
  intro p hp
  unfold sort3 at hp
  split at hp
  · exact hp
  · obtain ⟨i, hi, rfl⟩ := List.mem_map.mp hp
    have := (few_ok (ltOf ps) (by omega) h3).2 i hi
    rw [List.getD_eq_getElem?_getD, List.getElem?_eq_getElem this]
    exact List.getElem_mem this

theorem sort3_length {ps : List (Int × Int)} (h3 : ps.length ≤ 3) : (sort3 ps).length ≤ 3 := by
  unfold sort3
  split
  · omega
  · rename_i h
    rw [List.length_map]
    have a3 : ∀ b01 b02 b10 b12 b20 b21 : Bool, (evalK (tb b01 b02 b10 b12 b20 b21) (kas_sort 3)).toList.length = 3 := by decide +kernel
    have a2 : ∀ b01 b10 : Bool, (evalK (tb b01 false b10 false false false) (kas_sort 2)).toList.length = 2 := by decide +kernel
    generalize ltOf ps = lt
    rcases (by omega : ps.length = 2 ∨ ps.length = 3) with e | e
    · rw [e]
      have e := evalK_congr (lt' := lt) (n := 2) (fun i j hi hj hne => by
        rcases (ne2 i hi j hj hne) with ⟨rfl, rfl⟩ | ⟨rfl, rfl⟩ <;> rfl) (kas_sort 2) (tb2 (lt 0 1) (lt 1 0)).1
      rw [e.2, a2]; decide
    · rw [e]
      have e := evalK_congr (lt' := lt) (n := 3) (fun i j hi hj hne => by
        rcases (ne3 i hi j hj hne) with ⟨rfl, rfl⟩ | ⟨rfl, rfl⟩ | ⟨rfl, rfl⟩ | ⟨rfl, rfl⟩ | ⟨rfl, rfl⟩ | ⟨rfl, rfl⟩ <;> rfl) (kas_sort 3) (tb3 (lt 0 1) (lt 0 2) (lt 1 0) (lt 1 2) (lt 2 0) (lt 2 1)).1
      rw [e.2, a3]; decide
theorem PairsAt.length {h : Heap} {vs : List Value} {ps : List (Int × Int)} (x : PairsAt h vs ps) : vs.length = ps.length := by
  induction x with
  | nil => rfl
  | cons _ _ ih => simp [ih]
theorem PairsAt.at {h : Heap} {vs : List Value} {ps : List (Int × Int)} (x : PairsAt h vs ps) : ∀ i, i < ps.length → ∃ a n t u, vs.getD i Value.none = .ref a ∧ h.get? a = some { cls := .type "tuple", data := .seq #[.int (ps.getD i (0, 0)).1 t, .int (ps.getD i (0, 0)).2 u] n } := by
  induction x with
  | nil => intro i hi; simp at hi
  | cons h1 _ ih =>
    intro i hi
    cases i with
    | zero => exact ⟨_, _, _, _, rfl, h1⟩
    | succ i => simpa using ih i (by simpa using hi)
theorem PairsAt.pick {h : Heap} {vs : List Value} {ps : List (Int × Int)} (x : PairsAt h vs ps) : ∀ (is : List Nat), (∀ i ∈ is, i < ps.length) → PairsAt h (is.map fun i => vs.getD i Value.none) (is.map fun i => ps.getD i (0, 0))
  | [], _ => .nil
  | i :: is, hi => by
    obtain ⟨a, n, t, u, e1, e2⟩ := x.at i (hi i (.head _))
    rw [List.map_cons, List.map_cons, e1]
    exact .cons e2 (x.pick is fun j hj => hi j (.tail _ hj))
theorem PairsAt.tups {h : Heap} {vs : List Value} {ps : List (Int × Int)} (x : PairsAt h vs ps) : ∃ fs, KatTups h vs fs ∧ fs.length = ps.length ∧ ∀ v ∈ fs, ∃ n t, v = Value.int n t := by
  induction x with
  | nil => exact ⟨[], .nil, rfl, by simp⟩
  | @cons a n k v t u vs ps h1 _ ih =>
    obtain ⟨fs, h2, h3, h4⟩ := ih
    refine ⟨.int k t :: fs, .cons h1 rfl rfl rfl h2, by simp [h3], fun z hz => ?_⟩
    rcases List.mem_cons.mp hz with rfl | hz
    · exact ⟨k, t, rfl⟩
    · exact h4 z hz

section
variable {prog : Program} {w : World} {A : Around} {E : Value → Shared → Prop} {s : Shared} {h₀ : Heap} {L a : Addr} {m : Str → Option Value} {news : List (Addr × Obj)} {vs : List Value} {ps : List (Int × Int)}
theorem lt_pair {x y : Addr} {p q : Int × Int} {t1 u1 t2 u2 : Tok} {n1 n2 : Nat} {C : Bool → Shared → Prop} (hx : s.heap.get? x = some { cls := .type "tuple", data := .seq #[.int p.1 t1, .int p.2 u1] n1 }) (hy : s.heap.get? y = some { cls := .type "tuple", data := .seq #[.int q.1 t2, .int q.2 u2] n2 }) (h : C (lexB p q) s) :
    wpAny (model prog w) A (keyLt' (tuples' true) (.ref x) (.ref y)) C E s := by
  refine kat_lt hx rfl hy rfl ?_
  refine kat_cons (wpAny_eqBool_int ?_)
  unfold lexB at h
  by_cases e1 : p.1 = q.1
  · rw [if_pos e1] at h
    rw [show (p.1 == q.1) = true by simpa using e1]
    refine kat_yes (kat_cons (wpAny_eqBool_int ?_))
    by_cases e2 : p.2 = q.2
    · rw [if_pos e2] at h
      rw [show (p.2 == q.2) = true by simpa using e2]
      refine kat_yes (kat_nil ?_)
      exact h
    · rw [if_neg e2] at h
      rw [show (p.2 == q.2) = false by simpa using e2]
      refine kat_no ?_
      exact kat_one _ _ (PyProof.Rows.lt_int h)
  · rw [if_neg e1] at h
    rw [show (p.1 == q.1) = false by simpa using e1]
    refine kat_no ?_
    exact oneLt_int h

theorem pair_snd {value slice : Expr} {p : Int × Int} {n : Nat} {t1 u1 u : Tok} {Q : Value → Shared → Prop} (ht : s.heap.get? a = some { cls := .type "tuple", data := .seq #[.int p.1 t1, .int p.2 u1] n }) (h : Q (.int p.2 u1) s)
    (hs : subscripted slice false (.ref a) (.int 1 u) = operate [.ref a, .int 1 u] (getItem (.ref a) (.int 1 u)) := by with_unfolding_all rfl) :
    wpAny (model prog w) A (subscriptTail value slice (.ref a) (.int 1 u)) Q E s :=
  item_tupleT (l := [.int p.1 t1, .int p.2 u1]) (j := 1) ⟨_, ht, rfl, _, rfl⟩ (by decide) (by decide) rfl rfl h hs
theorem pair_fst {value slice : Expr} {p : Int × Int} {n : Nat} {t1 u1 u : Tok} {Q : Value → Shared → Prop} (ht : s.heap.get? a = some { cls := .type "tuple", data := .seq #[.int p.1 t1, .int p.2 u1] n }) (h : Q (.int p.1 t1) s)
    (hs : subscripted slice false (.ref a) (.int 0 u) = operate [.ref a, .int 0 u] (getItem (.ref a) (.int 0 u)) := by with_unfolding_all rfl) :
    wpAny (model prog w) A (subscriptTail value slice (.ref a) (.int 0 u)) Q E s :=
  item_tupleT (l := [.int p.1 t1, .int p.2 u1]) (j := 0) ⟨_, ht, rfl, _, rfl⟩ (by decide) (by decide) rfl rfl h hs
theorem news_rot {h : Heap} {x y z : Addr × Obj} {l : List (Addr × Obj)} (N : News h₀ L h (x :: y :: z :: l)) : News h₀ L h (y :: z :: x :: l) := fun p hp => by
  rcases List.mem_cons.mp hp with rfl | hp
  · exact N _ (.tail _ (.head _))
  · rcases List.mem_cons.mp hp with rfl | hp
    · exact N _ (.tail _ (.tail _ (.head _)))
    · rcases List.mem_cons.mp hp with rfl | hp
      · exact N _ (.head _)
      · exact N _ (.tail _ (.tail _ (.tail _ hp)))
theorem PairsAt.snoc {h : Heap} {vs : List Value} {ps : List (Int × Int)} (x : PairsAt h vs ps) {b : Addr} {n : Nat} {k v : Int} {t u : Tok} (ht : h.get? b = some { cls := .type "tuple", data := .seq #[.int k t, .int v u] n }) : PairsAt h (vs ++ [.ref b]) (ps ++ [(k, v)]) := by
  induction x with
  | nil => exact .cons ht .nil
  | cons h' _ ih => exact .cons h' ih
theorem sort_one {n : Nat} {v : Value} {P : PySem.Fin → Shared → Prop} (ho : s.heap.get? a = some (seqObj "list" #[v] n))
    (h : ∀ h' c, (∀ b o, b ≠ a → s.heap.get? b = some o → h'.get? b = some o) → h'.get? a = some (seqObj "list" #[v] c) → P (.done (.ret .none)) { s with heap := h' }) :
    wpAny (model prog w) A (Builtin.«list.sort» ⟨[.ref a], []⟩) P E s := by
  have ha : a < s.heap.objs.size := Heap.lt_size ho
  obtain ⟨e1, ho1⟩ : ∃ e1, (s.heap.update a (Obj.mapSeq fun _ => (#[] : Array Value))).get? a = some (seqObj "list" #[] e1) := ⟨_, get?_update_seq ho fun _ => #[]⟩
  have s1 := Heap.SameBut.update s.heap a (Obj.mapSeq fun _ => (#[] : Array Value))
  have ho3 : (((s.heap.update a (Obj.mapSeq fun _ => (#[] : Array Value))).push (seqObj "tuple" #[v] 0)).push (seqObj "list" #[] 0)).get? a = some (seqObj "list" #[] e1) := Heap.get?_push_of_some _ (Heap.get?_push_of_some _ ho1)
  rw [list_sort_plain]
  refine wpAny_bind (listItems_at ho rfl ?_)
  refine wpAny_bind (listUpdate_at ho rfl ?_ (by rw [sizeLine_eq]; show 1 ≤ _; omega) (Nat.zero_le _))
  refine wpAny_bind (seqEpoch_at ho1 rfl ?_)
  refine wpAny_bind (wpAny_newTuple ?_ (by rw [sizeLine_eq]; show 1 ≤ _; omega))
  refine wpAny_bind (wpAny_newList ?_ (Nat.zero_le _))
  refine wpAny_holding ?_
  show wpAny (model prog w) A _ P E { s with heap := ((s.heap.update a (Obj.mapSeq fun _ => (#[] : Array Value))).push (seqObj "tuple" #[v] 0)).push (seqObj "list" #[] 0) }
  dsimp only
  have h2 : (#[v] : Array Value).size < 2 := by show 1 < 2; omega
  rw [if_pos h2, if_pos h2]
  refine wpAny_bind (wpAny_pure ?_)
  refine wpAny_bind (m := pure ((), SortSt.mk' general' ((#[v] : Array Value).zip #[v]) #[] 7 none)) (wpAny_pure ?_)
  dsimp only
  refine wpAny_bind (seqEpoch_at ho3 rfl ?_)
  have hout : (arrOf (SortSt.mk' general' ((#[v] : Array Value).zip #[v]) #[] 7 none)).map (·.2) = #[v] := by
    show ((#[v] : Array Value).zip #[v]).map (·.2) = #[v]
    simp
  rw [hout]
  have s2 := Heap.SameBut.update (((s.heap.update a (Obj.mapSeq fun _ => (#[] : Array Value))).push (seqObj "tuple" #[v] 0)).push (seqObj "list" #[] 0)) a (Obj.mapSeq fun _ => #[v])
  obtain ⟨c2, hc2⟩ : ∃ c2, ((((s.heap.update a (Obj.mapSeq fun _ => (#[] : Array Value))).push (seqObj "tuple" #[v] 0)).push (seqObj "list" #[] 0)).update a (Obj.mapSeq fun _ => #[v])).get? a = some (seqObj "list" #[v] c2) := ⟨_, get?_update_seq ho3 fun _ => #[v]⟩
  refine wpAny_bind (listUpdate_at ho3 rfl ?_ (Nat.zero_le _) (by rw [sizeLine_eq]; show 1 ≤ _; omega))
  simp only [bne_self_eq_false, Bool.false_eq_true, if_false]
  refine wpAny_pure (h _ c2 (fun b o hb e => ?_) hc2)
  rw [s2.2 b hb]
  exact Heap.get?_push_of_some _ (Heap.get?_push_of_some _ ((s1.2 b hb).trans e))
theorem kept_ledger {h h' : Heap} {e1 e2 : Obj} (N : News h₀ L h ((a, e1) :: news)) (F : Fr h₀ L h m) (hna : ∀ p ∈ news, p.1 ≠ a) (k : ∀ b o, b ≠ a → h.get? b = some o → h'.get? b = some o) (ha : h'.get? a = some e2) : Fr h₀ L h' m ∧ News h₀ L h' ((a, e2) :: news) := by
  have z := N _ (.head _)
  refine ⟨⟨F.ns.at' fun o e => k _ o (Ne.symm z.2.1) e, fun b o e => k b o (fun q => by rw [q] at e; rw [z.2.2] at e; cases e) (F.keep b o e), F.above⟩, fun p hp => ?_⟩
  rcases List.mem_cons.mp hp with rfl | hp
  · exact ⟨ha, z.2⟩
  · exact ⟨k _ _ (hna p hp) (N p (.tail _ hp)).1, (N p (.tail _ hp)).2⟩

theorem sorted_pairs {l : Addr} {lg : List (Addr × Obj)} {Q : Value → Shared → Prop} (F : Fr h₀ L s.heap m) (N : News h₀ L s.heap news) (hlg : ∀ p ∈ lg, p ∈ news) (hl : s.heap.IsList l vs.toArray) (hv : ∀ h, Holds lg h → PairsAt h vs ps) (h1 : 1 ≤ ps.length) (h3 : ps.length ≤ 3)
    (h : ∀ D e h' tk vs', Fr h₀ L h' m → News h₀ L h' ((D, listOf (List.toArray vs') e) :: news) → (∀ q ∈ news, @LT.lt Nat _ q.1 D) → (∀ h, Holds lg h → PairsAt h vs' (sort3 ps)) → Q (.ref D) { s with heap := h', toks := tk }) :
    wpAny (model prog w) A (call (.builtin "sorted") [.ref l]) Q E s := by
  have hP := hv s.heap fun p hp => (N p (hlg p hp)).1
  have hlen := hP.length
  by_cases h2 : ps.length < 2
  · obtain ⟨v, rfl⟩ : ∃ v, vs = [v] := by
      match vs, (by omega : vs.length = 1) with
      | [v], _ => exact ⟨v, rfl⟩
    refine Calls.call_function_entry kind_sorted plain_sorted entry_sorted (args_sorted1 _) ?_
    unfold Builtin.«sorted»
    refine wpAny_bind (m := checkCount "sorted" 1 1 _) (wpAny_pure ?_)
    refine wpAny_bind (collect_list hl ?_ (by rw [sizeLine_eq]; omega))
    refine wpAny_bind (wpAny_newList ?_ (by rw [sizeLine_eq]; omega))
    have hsz : ((s.heap.push (seqObj "list" #[] 0)).update s.heap.objs.size (Obj.mapSeq (· ++ [v].toArray))).objs.size = s.heap.objs.size + 1 := by
      rw [Heap.size_update, size_push']
    have hoL : (((s.heap.push (seqObj "list" #[] 0)).update s.heap.objs.size (Obj.mapSeq (· ++ [v].toArray))).push (seqObj "list" [v].toArray 0)).get? (s.heap.objs.size + 1) = some (seqObj "list" [v].toArray 0) := by
      rw [← hsz]; exact Heap.get?_push_size _ rfl
    have keep : ∀ b o, s.heap.get? b = some o → (((s.heap.push (seqObj "list" #[] 0)).update s.heap.objs.size (Obj.mapSeq (· ++ [v].toArray))).push (seqObj "list" [v].toArray 0)).get? b = some o := fun b o q => by
      have hlt : b < s.heap.objs.size := Heap.lt_size q
      rw [Heap.get?_push_ne _ _ _ (by rw [hsz]; exact Nat.ne_of_lt (Nat.lt_succ_of_lt hlt)), Heap.get?_update_ne _ _ _ _ (Nat.ne_of_lt hlt), Heap.get?_push_ne _ _ _ (Nat.ne_of_lt hlt)]
      exact q
    have hL : L < s.heap.objs.size := F.ns.lt
    show wpAny _ _ _ _ _ { s with heap := ((s.heap.push (seqObj "list" #[] 0)).update s.heap.objs.size (Obj.mapSeq (· ++ [v].toArray))).push (seqObj "list" [v].toArray 0) }
    rw [hsz]
    refine wpAny_bind (wpAny_holding (wpAny_call_entry slot_list_sort ⟨_, hoL, rfl⟩ entry_list_sort ?body (args_list_sort _)))
    case body =>
      refine sort_one (s := { s with heap := ((s.heap.push (seqObj "list" #[] 0)).update s.heap.objs.size (Obj.mapSeq (· ++ [v].toArray))).push (seqObj "list" [v].toArray 0) }) hoL fun h' c k hc => ?_
      have F0 : Fr h₀ L (((s.heap.push (seqObj "list" #[] 0)).update s.heap.objs.size (Obj.mapSeq (· ++ [v].toArray))).push (seqObj "list" [v].toArray 0)) m := F.kept keep
      have N0 : News h₀ L (((s.heap.push (seqObj "list" #[] 0)).update s.heap.objs.size (Obj.mapSeq (· ++ [v].toArray))).push (seqObj "list" [v].toArray 0)) ((s.heap.objs.size + 1, seqObj "list" [v].toArray 0) :: news) := fun p hp => by
        rcases List.mem_cons.mp hp with rfl | hp
        · exact ⟨hoL, Nat.ne_of_gt (Nat.lt_succ_of_lt hL), Heap.get?_none_of_le (Nat.le_trans F.above (Nat.le_succ_of_le (Nat.le_of_lt hL)))⟩
        · exact N.grown keep p hp
      have hlt : ∀ q ∈ news, @LT.lt Nat _ q.1 (s.heap.objs.size + 1) := fun q hq => Nat.lt_succ_of_lt (Heap.lt_size (N q hq).1)
      obtain ⟨F1, N1⟩ := kept_ledger N0 F0 (fun p hp => Nat.ne_of_lt (hlt p hp)) k hc
      refine ⟨_, rfl, wpAny_pure ⟨_, rfl, ?_⟩⟩
      refine h (s.heap.objs.size + 1) c h' s.toks [v] F1 N1 hlt ?_
      unfold sort3
      rw [if_pos h2]
      exact hv
  · refine kat_sorted F N hl (by omega) (by omega) fun D e1 h' F' N' l1 => ?_
    have hP' : PairsAt h' vs ps := hv h' fun p hp => (N' p (.tail _ (hlg p hp))).1
    obtain ⟨fs, k1, k2, k3⟩ := hP'.tups
    refine kat_kind (fs := fs) (T := .type "int") k1 (by omega) (fun v hv => by obtain ⟨n, t, rfl⟩ := k3 v hv; exact Looks.now) (by rfl) ?_
    rw [show (Value.type "int" != Value.type "tuple") = true from by decide +kernel]
    have ok := few_ok (ltOf ps) (n := ps.length) (by omega) h3
    rw [hlen]
    refine kas_eval (n := ps.length) (lt := ltOf ps) (fun i j C hi hj hC => ?_) _ ok.1 ?_
    · obtain ⟨x, n1, t1, u1, ex, ox⟩ := hP'.at i hi
      obtain ⟨y, n2, t2, u2, ey, oy⟩ := hP'.at j hj
      unfold kas_ask
      rw [ex, ey]
      exact lt_pair ox oy hC
    · refine KasFin.intro (s := { s with heap := h' }) F' N' (UpdF.head fun p hp => Nat.ne_of_lt (l1 p hp)) fun hh2 c F2 N2 => ?_
      refine h D c hh2 s.toks _ F2 N2 l1 ?_
      unfold sort3
      rw [if_neg h2]
      intro h3 H
      exact (hv h3 H).pick _ ok.2
end

end R9
section RA
open PySem PySem.W PyProof.Rows PySem.Calls PySem.Spec
open PyProof.Rows.LCg
theorem ints_set {vs : List Value} {ns : List Int} (x : IntsAre vs ns) (n : Int) (t : Tok) : ∀ i : Nat, IntsAre (vs.set i (.int n t)) (ns.set i n) := by
  induction x with
  | nil => intro i; exact .nil
  | cons a u x ih =>
    intro i
    cases i with
    | zero => exact .cons n t x
    | succ i => exact .cons a u (ih i)
theorem sorted_head {l : List Int} (h : l.Pairwise (· ≤ ·)) : ∀ c ∈ l, l.getD 0 0 ≤ c := by
  cases l with
  | nil => simp
  | cons a l =>
    intro c hc
    rcases List.mem_cons.mp hc with rfl | hc
    · exact Int.le_refl _
    · exact (List.pairwise_cons.mp h).1 c hc
theorem sorted_last {l : List Int} (h : l.Pairwise (· ≤ ·)) : ∀ c ∈ l, c ≤ l.getD (l.length - 1) 0 := by
  intro c hc
  obtain ⟨i, hi, rfl⟩ := List.mem_iff_getElem.mp hc
  have hl : l.length - 1 < l.length := by omega
  rw [List.getD_eq_getElem?_getD, List.getElem?_eq_getElem hl]
  rcases Nat.lt_or_ge i (l.length - 1) with q | q
  · exact List.pairwise_iff_getElem.mp h i (l.length - 1) hi hl q
  · have : i = l.length - 1 := by omega
    subst this; exact Int.le_refl _
noncomputable def lastF (cols : List Int) : Int := cols.getD (cols.length - 1) 0
/-- a row laid into the comb: its base, the table and the check -/
noncomputable def setsF (l : List Int) (b : Int) (f : Int → Int) (cols : List Int) : List Int := cols.foldl (fun l c => l.set (b + c).toNat (f c)) l
noncomputable def putB (row : List (Int × Int)) (cs : List Int) : Int := firstF cs (sortK (row.map (·.1)))
noncomputable def putN (row : List (Int × Int)) (cs : List Int) : Nat := (putB row cs + lastF (sortK (row.map (·.1))) + 1 - cs.length).toNat
noncomputable def putT (row : List (Int × Int)) (ts cs : List Int) : List Int := setsF (ts ++ List.replicate (putN row cs) 0) (putB row cs) (lookD row) (sortK (row.map (·.1)))
noncomputable def putC (owner : Int) (row : List (Int × Int)) (cs : List Int) : List Int := setsF (cs ++ List.replicate (putN row cs) 0) (putB row cs) (fun _ => owner + 1) (sortK (row.map (·.1)))
theorem setsF_length (b : Int) (f : Int → Int) (cols : List Int) : ∀ l : List Int, (setsF l b f cols).length = l.length := by
  induction cols with
  | nil => intro l; rfl
  | cons c cols ih => intro l; unfold setsF; rw [List.foldl_cons]; exact (ih _).trans (List.length_set ..)
theorem setsF_take {b : Int} {f : Int → Int} {cols l : List Int} {i : Nat} {z : Int} (hz : cols[i]? = some z) : setsF l b f (cols.take (i + 1)) = (setsF l b f (cols.take i)).set (b + z).toNat (f z) := by
  unfold setsF
  rw [List.take_add_one, hz, List.foldl_append]
  rfl

noncomputable abbrev packD (w : World) (t1 t2 t3 t4 : Tok) (b t k o : Addr) : Obj := dictOf [⟨PyData.keyHash w.params (Str.ofString "bases"), .str (Str.ofString "bases") t1, .ref b⟩, ⟨PyData.keyHash w.params (Str.ofString "table"), .str (Str.ofString "table") t2, .ref t⟩, ⟨PyData.keyHash w.params (Str.ofString "check"), .str (Str.ofString "check") t3, .ref k⟩, ⟨PyData.keyHash w.params (Str.ofString "owners"), .str (Str.ofString "owners") t4, .ref o⟩] 4
theorem news_fresh {h h3 h₀ : Heap} {L : Addr} {m : Str → Option Value} {news l : List (Addr × Obj)} (N : News h₀ L h news) (F : Fr h₀ L h m) (kk : ∀ b o, h.get? b = some o → h3.get? b = some o) (hl : ∀ p ∈ l, h.get? p.1 = none ∧ h3.get? p.1 = some p.2) : Fr h₀ L h3 m ∧ News h₀ L h3 (l ++ news) := by
  refine ⟨F.keeps kk, fun p hp => ?_⟩
  rcases List.mem_append.mp hp with hp | hp
  · have z := hl p hp
    refine ⟨z.2, fun e => ?_, ?_⟩
    · obtain ⟨_, _, _, h1, _⟩ := F.ns
      rw [← e, z.1] at h1; cases h1
    · cases e : h₀.get? p.1 with
      | none => rfl
      | some o => have := F.keep _ _ e; rw [z.1] at this; cases this
  · exact ⟨kk _ _ (N p hp).1, (N p hp).2⟩
noncomputable abbrev tab7 (w : World) (t1 t2 t3 t4 t5 t6 t7 : Tok) (nm : Addr) (tc : Int) (ttc : Tok) (lf ln bf l d : Addr) : Obj := dictOf [⟨PyData.keyHash w.params (Str.ofString "names"), .str (Str.ofString "names") t1, .ref nm⟩, ⟨PyData.keyHash w.params (Str.ofString "terminal_count"), .str (Str.ofString "terminal_count") t2, .int tc ttc⟩, ⟨PyData.keyHash w.params (Str.ofString "lefts"), .str (Str.ofString "lefts") t3, .ref lf⟩, ⟨PyData.keyHash w.params (Str.ofString "lengths"), .str (Str.ofString "lengths") t4, .ref ln⟩, ⟨PyData.keyHash w.params (Str.ofString "befores"), .str (Str.ofString "befores") t5, .ref bf⟩, ⟨PyData.keyHash w.params (Str.ofString "defaults"), .str (Str.ofString "defaults") t6, .ref l⟩, ⟨PyData.keyHash w.params (Str.ofString "numbers"), .str (Str.ofString "numbers") t7, .ref d⟩] 7
noncomputable abbrev tab19 (w : World) (t1 t2 t3 t4 t5 t6 t7 t8 t9 t10 t11 t12 t13 t14 t15 t16 t17 t18 t19 : Tok) (nm : Addr) (tc : Int) (ttc : Tok) (lf ln bf l d acts b1 k1 c1 o1 gots b2 k2 c2 o2 gd gm : Addr) (n : Nat) : Obj := dictOf [⟨PyData.keyHash w.params (Str.ofString "names"), .str (Str.ofString "names") t1, .ref nm⟩, ⟨PyData.keyHash w.params (Str.ofString "terminal_count"), .str (Str.ofString "terminal_count") t2, .int tc ttc⟩, ⟨PyData.keyHash w.params (Str.ofString "lefts"), .str (Str.ofString "lefts") t3, .ref lf⟩, ⟨PyData.keyHash w.params (Str.ofString "lengths"), .str (Str.ofString "lengths") t4, .ref ln⟩, ⟨PyData.keyHash w.params (Str.ofString "befores"), .str (Str.ofString "befores") t5, .ref bf⟩, ⟨PyData.keyHash w.params (Str.ofString "defaults"), .str (Str.ofString "defaults") t6, .ref l⟩, ⟨PyData.keyHash w.params (Str.ofString "numbers"), .str (Str.ofString "numbers") t7, .ref d⟩, ⟨PyData.keyHash w.params (Str.ofString "actions"), .str (Str.ofString "actions") t8, .ref acts⟩, ⟨PyData.keyHash w.params (Str.ofString "bases"), .str (Str.ofString "bases") t9, .ref b1⟩, ⟨PyData.keyHash w.params (Str.ofString "table"), .str (Str.ofString "table") t10, .ref k1⟩, ⟨PyData.keyHash w.params (Str.ofString "check"), .str (Str.ofString "check") t11, .ref c1⟩, ⟨PyData.keyHash w.params (Str.ofString "owners"), .str (Str.ofString "owners") t12, .ref o1⟩, ⟨PyData.keyHash w.params (Str.ofString "gotos"), .str (Str.ofString "gotos") t13, .ref gots⟩, ⟨PyData.keyHash w.params (Str.ofString "goto_bases"), .str (Str.ofString "goto_bases") t14, .ref b2⟩, ⟨PyData.keyHash w.params (Str.ofString "goto_table"), .str (Str.ofString "goto_table") t15, .ref k2⟩, ⟨PyData.keyHash w.params (Str.ofString "goto_check"), .str (Str.ofString "goto_check") t16, .ref c2⟩, ⟨PyData.keyHash w.params (Str.ofString "goto_owners"), .str (Str.ofString "goto_owners") t17, .ref o2⟩, ⟨PyData.keyHash w.params (Str.ofString "goto_defaults"), .str (Str.ofString "goto_defaults") t18, .ref gd⟩, ⟨PyData.keyHash w.params (Str.ofString "goto_masks"), .str (Str.ofString "goto_masks") t19, .ref gm⟩] n
theorem dict_nil_str {prog : Program} {w : World} {o : Obj} (h : o.IsDictOf (intKind prog w) []) : o.IsDictOf (PySem.strKind prog w) [] := by
  obtain ⟨es, ep, h1, h2, _, h3, _⟩ := h
  have e : es.toList = [] := by cases hq : es.toList with
    | nil => rfl
    | cons a l => rw [hq] at h3; cases h3
  refine ⟨es, ep, h1, h2, ?_, by rw [e]; exact .nil, List.nodup_nil⟩
  obtain rfl : es = #[] := Array.toList_inj.mp (by simpa using e)
  exact fun e he => by simp at he
theorem setItem_strD {prog : Program} {w : World} {A : Around} {E : Value → Shared → Prop} {s : Shared} {h₀ : Heap} {L d : Addr} {m : Str → Option Value} {news : List (Addr × Obj)} {o : Obj} {g : Obj → List (Addr × Obj)} {z : Str} {t : Tok} {v : Value} {kvs : List (Str × Value)} {Q : Unit → Shared → Prop}
    (F : Fr h₀ L s.heap m) (N : News h₀ L s.heap news) (U : UpdF d o news g) (hd : o.IsDictOf (PySem.strKind prog w) kvs) (hsz : kvs.length ≤ 100000)
    (h : ∀ h' o' tk, Fr h₀ L h' m → News h₀ L h' (g o') → o'.IsDictOf (PySem.strKind prog w) (stored kvs z v) → Q () { s with heap := h', toks := tk }) :
    wpAny (model prog w) A (setItem (.ref d) (.str z t) v) Q E s := by
  obtain ⟨pre, post, rfl, eg, ha, hb⟩ := U.split
  have hm := N (d, o) (List.mem_append_right _ (.head _))
  refine wpAny_setItem_pairs (knd := PySem.strKind prog w) (hsz := by rw [sizeLine_eq]; omega) (strKind_is _ _ _ _) (Heap.dictOf_iff.mpr ⟨o, hm.1, hd⟩) fun h' hmm hs => ?_
  obtain ⟨o', ho', hd'⟩ := Heap.dictOf_iff.mp hmm
  refine h h' o' _ (F.change hs hm.2.1 hm.2.2) ?_ hd'
  rw [eg]
  exact news_set N ha hb hs ho'
theorem join_test {M : Model} {A : Around} {x : Sem Bool} {P : Bool → Shared → Prop} {E : Value → Shared → Prop} {s : Shared} (c : Bool) (h : wpAny M A x (fun b s₂ => Stop (b = c ∧ ∃ tk, s₂ = { s with toks := tk })) (fun _ _ => False) s) (k : ∀ tk, P c { s with toks := tk }) : wpAny M A x P E s :=
  wpAny_mono h (fun _ _ q => by obtain ⟨rfl, tk, rfl⟩ := q; exact k tk) fun _ _ q => q.elim
noncomputable def lowF (ns : List Int) : Int := ns.foldl min 0
noncomputable def highF (ns : List Int) : Int := ns.foldl max 0
theorem fold_min (ns : List Int) : ∀ a : Int, (ns.foldl min a = a ∨ ns.foldl min a ∈ ns) ∧ ns.foldl min a ≤ a ∧ ∀ b ∈ ns, ns.foldl min a ≤ b := by
  induction ns with
  | nil => intro a; exact ⟨.inl rfl, Int.le_refl _, by simp⟩
  | cons n ns ih =>
    intro a
    obtain ⟨h1, h2, h3⟩ := ih (min a n)
    rw [List.foldl_cons]
    have m1 := Int.min_le_left a n
    have m2 := Int.min_le_right a n
    refine ⟨?_, by omega, fun b hb => ?_⟩
    · rcases h1 with h1 | h1
      · rw [h1]
        rcases Int.le_total a n with q | q
        · left; exact Int.min_eq_left q
        · right; rw [Int.min_eq_right q]; exact .head _
      · right; exact .tail _ h1
    · rcases List.mem_cons.mp hb with rfl | hb
      · omega
      · exact h3 b hb
theorem fold_max (ns : List Int) : ∀ a : Int, (ns.foldl max a = a ∨ ns.foldl max a ∈ ns) ∧ a ≤ ns.foldl max a ∧ ∀ b ∈ ns, b ≤ ns.foldl max a := by
  induction ns with
  | nil => intro a; exact ⟨.inl rfl, Int.le_refl _, by simp⟩
  | cons n ns ih =>
    intro a
    obtain ⟨h1, h2, h3⟩ := ih (max a n)
    rw [List.foldl_cons]
    have m1 := Int.le_max_left a n
    have m2 := Int.le_max_right a n
    refine ⟨?_, by omega, fun b hb => ?_⟩
    · rcases h1 with h1 | h1
      · rw [h1]
        rcases Int.le_total a n with q | q
        · right; rw [Int.max_eq_right q]; exact .head _
        · left; exact Int.max_eq_left q
      · right; exact .tail _ h1
    · rcases List.mem_cons.mp hb with rfl | hb
      · omega
      · exact h3 b hb
theorem low_eq {ns : List Int} {M : Int} (h : M ∈ ns ++ [0]) (hb : ∀ a, a ∈ ns ++ [0] → M ≤ a) : M = lowF ns := by
  obtain ⟨h1, h2, h3⟩ := fold_min ns 0
  have q1 : lowF ns ∈ ns ++ [0] := by
    rcases h1 with h1 | h1
    · unfold lowF; rw [h1]; simp
    · exact List.mem_append_left _ h1
  have q2 : lowF ns ≤ M := by
    rcases List.mem_append.mp h with h | h
    · exact h3 M h
    · rw [List.mem_singleton.mp h]; exact h2
  have := hb _ q1
  omega
theorem high_eq {ns : List Int} {M : Int} (h : M ∈ ns ++ [0]) (hb : ∀ a, a ∈ ns ++ [0] → a ≤ M) : M = highF ns := by
  obtain ⟨h1, h2, h3⟩ := fold_max ns 0
  have q1 : highF ns ∈ ns ++ [0] := by
    rcases h1 with h1 | h1
    · unfold highF; rw [h1]; simp
    · exact List.mem_append_left _ h1
  have q2 : M ≤ highF ns := by
    rcases List.mem_append.mp h with h | h
    · exact h3 M h
    · rw [List.mem_singleton.mp h]; exact h2
  have := hb _ q1
  omega
theorem lowF_le (ns : List Int) : lowF ns ≤ 0 := (fold_min ns 0).2.1
noncomputable def kindF (lo hi : Int) : Int :=
  if (decide (-127 ≤ lo) && decide (hi ≤ 127)) = true then 1 else if (decide (0 ≤ lo) && decide (hi ≤ 255)) = true then 1 else if (decide (-32767 ≤ lo) && decide (hi ≤ 32767)) = true then 2 else if (decide (0 ≤ lo) && decide (hi ≤ 65535)) = true then 2 else 4
noncomputable def bytesF (ns : List Int) : Int := (ns.length : Int) * kindF (lowF ns) (highF ns)
noncomputable def sizeF (ns : List Int) : Int := kindF (lowF ns) (highF ns)
section
variable {prog : Program} {w : World} {A : Around} {E : Value → Shared → Prop} {s : Shared} {h₀ : Heap} {m : Str → Option Value} {env : Env} {news : List (Addr × Obj)}
/-- an object of the ledger as the loop's source -/
theorem loop_core {x : Str} {body : List Stmt} {Q : Flow → Shared → Prop} {ax : Addr} {vs : List Value} {ob oit : Obj} {st : Nat → Heap → Prop} (F : Fr h₀ env.locals s.heap m) (N : News h₀ env.locals s.heap news)
    (J : Nat → (Str → Option Value) → List (Addr × Obj) → Prop) (hJ : ∀ i m nw, J i m nw → (ax, ob) ∈ nw) (h0 : J 0 m news)
    (hp : ∀ P : Value → Shared → Prop, P (.ref s.heap.objs.size) { s with heap := s.heap.push oit } → wpAny (model prog w) A (pyIter (.ref ax)) P E s)
    (W : Walks prog w A s.heap.objs.size [s.heap.objs.size, ax] [s.heap.objs.size] vs.toArray.size (fun i v => vs.toArray[i]? = some v) st) (hst : st 0 (s.heap.push oit)) (hI : ∀ i h, st i h → ∃ oI, h.get? s.heap.objs.size = some oI)
    (step : ∀ i v m₁ news₁ I oI h₁ tk₁, vs[i]? = some v → J i m₁ news₁ → (∀ p ∈ news₁, p.1 ≠ I) → Fr h₀ env.locals h₁ (fun y => if y = x then some v else m₁ y) → News h₀ env.locals h₁ ((I, oI) :: news₁) →
      wpAny (model prog w) A (execs body env) (fun f s₂ => Stop (LpEnd h₀ env.locals I oI (J (i + 1)) { s with heap := h₁, toks := tk₁ } Q f s₂)) E { s with heap := h₁, toks := tk₁ })
    (done : ∀ h' tk m' news', Fr h₀ env.locals h' m' → News h₀ env.locals h' news' → J vs.length m' news' → Q .next { s with heap := h', toks := tk }) :
    wpAny (model prog w) A (pyIter (.ref ax)) (fun it s₂ => LoopAtV prog w A h₀ env x body Q E it s₂) E s := by
  rw [List.size_toArray] at W
  exact loop_gen F N J h0 hp W hst hI (fun b q => .inr ⟨ob, fun i m nw e => List.mem_singleton.mp q ▸ hJ i m nw e⟩)
    (fun i v m₁ news₁ I oI h₁ tk₁ _ hv => step i v m₁ news₁ I oI h₁ tk₁ (by rw [List.getElem?_toArray] at hv; exact hv)) done
/-- a list of the ledger as the loop's source -/
theorem loop_led {x : Str} {body : List Stmt} {Q : Flow → Shared → Prop} {ax : Addr} {vs : List Value} {e : Nat}
    (hh : A.handled = none) (F : Fr h₀ env.locals s.heap m) (N : News h₀ env.locals s.heap news)
    (J : Nat → (Str → Option Value) → List (Addr × Obj) → Prop) (hJ : ∀ i m nw, J i m nw → (ax, listOf vs.toArray e) ∈ nw) (h0 : J 0 m news)
    (step : ∀ i v m₁ news₁ I oI h₁ tk₁, vs[i]? = some v → J i m₁ news₁ → (∀ p ∈ news₁, p.1 ≠ I) → Fr h₀ env.locals h₁ (fun y => if y = x then some v else m₁ y) → News h₀ env.locals h₁ ((I, oI) :: news₁) →
      wpAny (model prog w) A (execs body env) (fun f s₂ => Stop (LpEnd h₀ env.locals I oI (J (i + 1)) { s with heap := h₁, toks := tk₁ } Q f s₂)) E { s with heap := h₁, toks := tk₁ })
    (done : ∀ h' tk m' news', Fr h₀ env.locals h' m' → News h₀ env.locals h' news' → J vs.length m' news' → Q .next { s with heap := h', toks := tk }) :
    wpAny (model prog w) A (pyIter (.ref ax)) (fun it s₂ => LoopAtV prog w A h₀ env x body Q E it s₂) E s := by
  have hls : s.heap.IsList ax vs.toArray := News.isList N (hJ _ _ _ h0)
  have hne : ax ≠ s.heap.objs.size := Nat.ne_of_lt (Heap.lt_size (N _ (hJ _ _ _ h0)).1)
  exact loop_core F N J hJ h0 (fun P => wpAny_pyIter_list hls) (Walks.list (prog := prog) (w := w) hh s.heap.objs.size ax hne vs.toArray) ⟨⟨_, Heap.get?_push_size _ rfl, rfl, rfl⟩, hls.push _⟩ (fun i h st => ⟨_, st.1.choose_spec.1⟩) step done
/-- a tuple of the ledger as the loop's source -/
theorem loop_tup {x : Str} {body : List Stmt} {Q : Flow → Shared → Prop} {ax : Addr} {vs : List Value} {e : Nat}
    (hh : A.handled = none) (F : Fr h₀ env.locals s.heap m) (N : News h₀ env.locals s.heap news)
    (J : Nat → (Str → Option Value) → List (Addr × Obj) → Prop) (hJ : ∀ i m nw, J i m nw → (ax, ({ cls := Value.type "tuple", data := Data.seq vs.toArray e } : Obj)) ∈ nw) (h0 : J 0 m news)
    (step : ∀ i v m₁ news₁ I oI h₁ tk₁, vs[i]? = some v → J i m₁ news₁ → (∀ p ∈ news₁, p.1 ≠ I) → Fr h₀ env.locals h₁ (fun y => if y = x then some v else m₁ y) → News h₀ env.locals h₁ ((I, oI) :: news₁) →
      wpAny (model prog w) A (execs body env) (fun f s₂ => Stop (LpEnd h₀ env.locals I oI (J (i + 1)) { s with heap := h₁, toks := tk₁ } Q f s₂)) E { s with heap := h₁, toks := tk₁ })
    (done : ∀ h' tk m' news', Fr h₀ env.locals h' m' → News h₀ env.locals h' news' → J vs.length m' news' → Q .next { s with heap := h', toks := tk }) :
    wpAny (model prog w) A (pyIter (.ref ax)) (fun it s₂ => LoopAtV prog w A h₀ env x body Q E it s₂) E s := by
  have hls : s.heap.IsTuple ax vs.toArray := ⟨_, (N _ (hJ _ _ _ h0)).1, rfl, _, rfl⟩
  have hne : ax ≠ s.heap.objs.size := Nat.ne_of_lt (Heap.lt_size (N _ (hJ _ _ _ h0)).1)
  exact loop_core F N J hJ h0 (fun P => wpAny_pyIter_tuple hls) (Walks.tuple (prog := prog) (w := w) hh s.heap.objs.size ax hne vs.toArray) ⟨⟨_, Heap.get?_push_size _ rfl, rfl, rfl⟩, hls.push _⟩ (fun i h st => ⟨_, st.1.choose_spec.1⟩) step done
theorem back_two {h h3 : Heap} {L t k : Addr} {ot ok : Obj} {news news' : List (Addr × Obj)} (F : Fr h₀ L h m) (N : News h₀ L h news) (ht : ∃ o, (t, o) ∈ news) (hk : ∃ o, (k, o) ∈ news)
    (kk : ∀ b o, b ≠ t → b ≠ k → h.get? b = some o → h3.get? b = some o) (h1 : h3.get? t = some ot) (h2 : h3.get? k = some ok) (hn : ∀ p ∈ news', p = (t, ot) ∨ p = (k, ok) ∨ (p.1 ≠ t ∧ p.1 ≠ k ∧ p ∈ news)) : Fr h₀ L h3 m ∧ News h₀ L h3 news' := by
  obtain ⟨o1, ht⟩ := ht
  obtain ⟨o2, hk⟩ := hk
  have zt := N _ ht
  have zk := N _ hk
  refine ⟨⟨F.ns.at' fun o e => kk _ o (Ne.symm zt.2.1) (Ne.symm zk.2.1) e, fun b o e => kk b o (fun q => by rw [q] at e; rw [zt.2.2] at e; cases e) (fun q => by rw [q] at e; rw [zk.2.2] at e; cases e) (F.keep b o e), F.above⟩, fun p hp => ?_⟩
  rcases hn p hp with rfl | rfl | ⟨q1, q2, q3⟩
  · exact ⟨h1, zt.2⟩
  · exact ⟨h2, zk.2⟩
  · exact ⟨kk _ _ q1 q2 (N p q3).1, (N p q3).2⟩
end

end RA
section RB
open PySem PySem.W PyProof.Rows PySem.Calls PySem.Spec
open PyProof.Rows.LCg
noncomputable def LstAt (h : Heap) (a : Addr) (ns : List Int) : Prop := ∃ vs, h.IsList a (List.toArray vs) ∧ IntsAre vs ns ∧ ns.length ≤ 20000
theorem LstAt.back {h g h₀ : Heap} {mods : List (Addr × Obj)} {a : Addr} {ns : List Int} (x : LstAt h a ns) (kg : ∀ b o, b ∉ mods.map (·.1) → h.get? b = some o → g.get? b = some o) (hm : ∀ q ∈ mods, h.get? q.1 = some q.2 ∧ h₀.get? q.1 = none) (hn : ∀ q ∈ mods, q.2.cls ≠ .type "list") : LstAt g a ns := by
  obtain ⟨vs, hl, hi, hz⟩ := x
  refine ⟨vs, hl.at fun o e => kg a o (fun q => ?_) e, hi, hz⟩
  obtain ⟨p, hp, rfl⟩ := List.mem_map.mp q
  obtain ⟨o2, e2, e3, _⟩ := hl
  rw [(hm p hp).1] at e2
  cases e2
  exact hn p hp e3
noncomputable def totF (t : Int) (ls : List (List Int)) : Int := ls.foldl (fun t ns => t + (ns.length : Int) * sizeF ns) t
noncomputable def OctTurn (w : World) (h₀ : Heap) (L : Addr) (A : Around) (b : List Stmt) (env : Env) : Prop :=
  ∀ (S : Shared) (base : Str → Option Value) (nw : List (Addr × Obj)) (a : Addr) (ns : List Int) (t : Int) (tt : Tok), LstAt h₀ a ns →
    Fr h₀ L S.heap (fun y => if y = Str.ofString "numbers" then some (.ref a) else if y = Str.ofString "total" then some (.int t tt) else base y) → News h₀ L S.heap nw →
    wpAny (model PySem.Challenge.rw_sf0018_01.row.prog w) A (execs b env) (fun f s₂ => Stop (f = .next ∧ ∃ h' tk' tt', s₂ = { S with heap := h', toks := tk' } ∧
      Fr h₀ L h' (fun y => if y = Str.ofString "total" then some (.int (t + (ns.length : Int) * sizeF ns) tt') else if y = Str.ofString "numbers" then some (.ref a) else base y) ∧ News h₀ L h' nw)) (fun _ _ => False) S
theorem oct_loop {w : World} {A : Around} {env : Env} {b : List Stmt} {S : Shared} {h₀ : Heap} {m : Str → Option Value} {nw : List (Addr × Obj)} {D : Addr} {vs : List Value} {e : Nat} {t : Int} {tt : Tok} {Q : Flow → Shared → Prop} (ls : List (List Int))
    (turn : OctTurn w h₀ env.locals A b env) (hh : A.handled = none) (F : Fr h₀ env.locals S.heap m) (N : News h₀ env.locals S.heap nw) (hD : (D, ({ cls := Value.type "tuple", data := Data.seq vs.toArray e } : Obj)) ∈ nw)
    (hv : ∀ (i : Nat) v, vs[i]? = some v → ∃ a, v = .ref a ∧ LstAt h₀ a (ls.getD i [])) (hl : vs.length = ls.length) (ht : m (Str.ofString "total") = some (.int t tt))
    (done : ∀ h' tk tt' nv, Fr h₀ env.locals h' (fun y => if y = Str.ofString "total" then some (.int (totF t ls) tt') else if y = Str.ofString "numbers" then nv else m y) → News h₀ env.locals h' nw → Q .next { S with heap := h', toks := tk }) :
    wpAny (model PySem.Challenge.rw_sf0018_01.row.prog w) A (pyIter (.ref D)) (fun it s₂ => LoopAtV PySem.Challenge.rw_sf0018_01.row.prog w A h₀ env (Str.ofString "numbers") b Q (fun _ _ => False) it s₂) (fun _ _ => False) S := by
  refine loop_tup (vs := vs) (e := e) hh F N (fun i m₁ nw₁ => nw₁ = nw ∧ ∃ tt' nv, m₁ = fun y => if y = Str.ofString "total" then some (.int (totF t (ls.take i)) tt') else if y = Str.ofString "numbers" then nv else m y) (fun i m nw h => by obtain ⟨rfl, _⟩ := h; exact hD) ?_ ?_ ?_
  · refine ⟨rfl, tt, m (Str.ofString "numbers"), ?_⟩
    funext y
    by_cases h1 : y = Str.ofString "total"
    · subst h1; rw [if_pos rfl, ht]; rfl
    · by_cases h2 : y = Str.ofString "numbers"
      · subst h2; simp [h1]
      · simp [h1, h2]
  · rintro i v m₁ nw₁ I oI h₁ tk₁ hi ⟨rfl, tt', nv, rfl⟩ off F₁ N₁
    obtain ⟨a, rfl, la⟩ := hv i v hi
    have lt : i < ls.length := hl ▸ (List.getElem?_eq_some_iff.mp hi).1
    have eq1 : (fun y => if y = Str.ofString "numbers" then some (Value.ref a) else (fun y => if y = Str.ofString "total" then some (.int (totF t (ls.take i)) tt') else if y = Str.ofString "numbers" then nv else m y) y) = (fun y => if y = Str.ofString "numbers" then some (Value.ref a) else if y = Str.ofString "total" then some (.int (totF t (ls.take i)) tt') else m y) := by
      funext y; by_cases h1 : y = Str.ofString "numbers" <;> simp [h1]
    rw [eq1] at F₁
    refine wpAny_mono (turn _ m _ a _ _ _ la F₁ N₁) (fun f s₂ q => ?_) fun _ _ q => q
    obtain ⟨rfl, h', tk', tt2, rfl, F2, N2⟩ := q
    refine Stop.mk ⟨h', tk', _, _, rfl, F2, N2, off, rfl, tt2, some (.ref a), ?_⟩
    have : totF t (ls.take (i + 1)) = totF t (ls.take i) + ((ls.getD i []).length : Int) * sizeF (ls.getD i []) := by
      unfold totF
      rw [List.take_add_one, List.getElem?_eq_getElem lt, List.foldl_append, List.getD_eq_getElem?_getD, List.getElem?_eq_getElem lt]
      rfl
    rw [this]
  · rintro h' tk m' nw' F' N' ⟨rfl, tt', nv, rfl⟩
    rw [hl, List.take_length] at F'
    exact done h' tk tt' nv F' N'
theorem look1 (z : Str) (v : Value) : (fun y => List.lookup y [(z, v)].reverse) = fun y => if y = z then some v else none := by
  funext y
  by_cases h : y = z
  · subst h; simp [List.lookup]
  · have e : (y == z) = false := beq_eq_false_iff_ne.mpr h
    simp [List.lookup, e, h]
theorem oct_upd {t t0 n : Option Value} {base : Str → Option Value} : (fun y => if y = Str.ofString "total" then t else if y = Str.ofString "numbers" then n else if y = Str.ofString "total" then t0 else base y) = (fun y => if y = Str.ofString "total" then t else if y = Str.ofString "numbers" then n else base y) := by
  funext y
  by_cases h1 : y = Str.ofString "total" <;> simp [h1]
theorem four {h : Heap} {a b c d : Addr} {x y z u : List Int} (la : LstAt h a x) (lb : LstAt h b y) (lc : LstAt h c z) (ld : LstAt h d u) : ∀ (i : Nat) v, [Value.ref a, Value.ref b, Value.ref c, Value.ref d][i]? = some v → ∃ q, v = .ref q ∧ LstAt h q ([x, y, z, u].getD i []) := by
  intro i v hv
  rcases i with _ | _ | _ | _ | i
  · cases hv; exact ⟨_, rfl, la⟩
  · cases hv; exact ⟨_, rfl, lb⟩
  · cases hv; exact ⟨_, rfl, lc⟩
  · cases hv; exact ⟨_, rfl, ld⟩
  · simp at hv
theorem two2 {h : Heap} {a b : Addr} {x y : List Int} (la : LstAt h a x) (lb : LstAt h b y) : ∀ (i : Nat) v, [Value.ref a, Value.ref b][i]? = some v → ∃ q, v = .ref q ∧ LstAt h q ([x, y].getD i []) := by
  intro i v hv
  rcases i with _ | _ | i
  · cases hv; exact ⟨_, rfl, la⟩
  · cases hv; exact ⟨_, rfl, lb⟩
  · simp at hv
theorem oct_ini {p t : Option Value} : (fun y => if y = Str.ofString "total" then t else if y = Str.ofString "packed" then p else none) = (fun y => if y = Str.ofString "total" then t else if y = Str.ofString "numbers" then none else if y = Str.ofString "rows" then none else if y = Str.ofString "packed" then p else none) := by
  funext y
  by_cases h1 : y = Str.ofString "total"
  · simp [h1]
  · rw [if_neg h1, if_neg h1]
    by_cases h2 : y = Str.ofString "numbers"
    · subst h2; rfl
    · rw [if_neg h2]
      by_cases h3 : y = Str.ofString "rows"
      · subst h3; rfl
      · rw [if_neg h3]
theorem oct_map {p t t0 n n0 r r0 : Option Value} : (fun y => if y = Str.ofString "total" then t else if y = Str.ofString "numbers" then n else (fun y => if y = Str.ofString "rows" then r else (fun y => if y = Str.ofString "total" then t0 else if y = Str.ofString "numbers" then n0 else if y = Str.ofString "rows" then r0 else if y = Str.ofString "packed" then p else none) y) y) = (fun y => if y = Str.ofString "total" then t else if y = Str.ofString "numbers" then n else if y = Str.ofString "rows" then r else if y = Str.ofString "packed" then p else none) := by
  funext y
  by_cases h1 : y = Str.ofString "total"
  · simp [h1]
  · by_cases h2 : y = Str.ofString "numbers"
    · simp [h1, h2]
    · by_cases h3 : y = Str.ofString "rows"
      · simp [h1, h2, h3]
      · simp [h1, h2, h3]

end RB
section RC
open PySem PySem.W PyProof.Rows PySem.Calls PySem.Spec
open PyProof.Rows.LCg
noncomputable def lookO (r : List (Int × Int)) (k : Int) : Option Int := (r.find? fun p => decide (p.1 = k)).map (·.2)
noncomputable def sameB (r r' : List (Int × Int)) : Bool := (r.length == r'.length) && r.all fun p => decide (lookO r' p.1 = some p.2)
theorem lookO_mem {r : List (Int × Int)} (hn : (r.map (·.1)).Nodup) {p : Int × Int} (hp : p ∈ r) : lookO r p.1 = some p.2 := by
  induction r with
  | nil => simp at hp
  | cons q r ih =>
    unfold lookO
    rw [List.find?_cons]
    by_cases e : q.1 = p.1
    · rcases List.mem_cons.mp hp with rfl | hp
      · simp
      · have q2 : p.1 ∈ r.map (·.1) := List.mem_map_of_mem (f := (·.1)) hp
        rw [← e] at q2
        exact absurd q2 (List.nodup_cons.mp hn).1
    · rcases List.mem_cons.mp hp with rfl | hp
      · exact absurd rfl e
      · rw [decide_eq_false e]
        exact ih (List.nodup_cons.mp hn).2 hp
theorem lookO_some {r : List (Int × Int)} {k v : Int} (h : lookO r k = some v) : (k, v) ∈ r := by
  unfold lookO at h
  cases e : r.find? fun p => decide (p.1 = k) with
  | none => rw [e] at h; cases h
  | some p =>
    rw [e] at h
    cases h
    have h1 := List.find?_some e
    have h2 := List.mem_of_find?_eq_some e
    rw [← of_decide_eq_true h1]; exact h2
theorem lookD_O {r : List (Int × Int)} {k v : Int} (h : lookO r k = some v) : lookD r k = v := by
  show (lookO r k).getD 0 = v
  rw [h]; rfl
theorem perm_of_sub : ∀ {l l' : List Int}, l.Nodup → (∀ k ∈ l, k ∈ l') → l'.length ≤ l.length → l.Perm l'
  | [], l', _, _, hl => by
    have : l' = [] := List.length_eq_zero_iff.mp (Nat.le_zero.mp hl)
    rw [this]
  | a :: l, l', hn, hs, hl => by
    obtain ⟨l1, l2, rfl⟩ := List.append_of_mem (hs a (.head _))
    have hp : (l1 ++ a :: l2).Perm (a :: (l1 ++ l2)) := List.perm_middle
    refine List.Perm.trans (.cons a (perm_of_sub (List.nodup_cons.mp hn).2 (fun k hk => ?_) ?_)) hp.symm
    · rcases List.mem_cons.mp (hp.subset (hs k (.tail _ hk))) with rfl | h
      · exact absurd hk (List.nodup_cons.mp hn).1
      · exact h
    · have := hp.length_eq
      simp only [List.length_cons] at this hl
      omega
theorem sameB_iff {r r' : List (Int × Int)} (hn : (r.map (·.1)).Nodup) (hn' : (r'.map (·.1)).Nodup) : sameB r r' = true ↔ rowKey r = rowKey r' := by
  unfold sameB
  rw [Bool.and_eq_true, List.all_eq_true, beq_iff_eq]
  constructor
  · rintro ⟨hl, ha⟩
    have hs : ∀ k ∈ r.map (·.1), k ∈ r'.map (·.1) := fun k hk => by
      obtain ⟨p, hp, rfl⟩ := List.mem_map.mp hk
      exact List.mem_map.mpr ⟨_, lookO_some (of_decide_eq_true (ha p hp)), rfl⟩
    have hp : (r.map (·.1)).Perm (r'.map (·.1)) := perm_of_sub hn hs (by simp [hl])
    have e : sortK (r.map (·.1)) = sortK (r'.map (·.1)) := sortK_eq ((sortK_perm _).trans hp) (sortK_sorted _)
    unfold rowKey
    rw [← e]
    refine List.map_congr_left fun k hk => ?_
    obtain ⟨p, hp, rfl⟩ := List.mem_map.mp ((sortK_perm _).subset hk)
    rw [lookD_O (lookO_mem hn hp), lookD_O (of_decide_eq_true (ha p hp))]
  · intro h
    have e : sortK (r.map (·.1)) = sortK (r'.map (·.1)) := by
      have := congrArg (List.map (·.1)) h
      simpa [rowKey, Function.comp_def] using this
    have hp : (r.map (·.1)).Perm (r'.map (·.1)) := ((sortK_perm _).symm.trans (e ▸ List.Perm.refl _)).trans (sortK_perm _)
    refine ⟨by simpa using hp.length_eq, fun p hpr => decide_eq_true ?_⟩
    have hk : p.1 ∈ r.map (·.1) := List.mem_map_of_mem hpr
    have m1 : (p.1, lookD r p.1) ∈ rowKey r := List.mem_map.mpr ⟨p.1, (sortK_perm _).symm.subset hk, rfl⟩
    rw [h] at m1
    obtain ⟨k, _, e2⟩ := List.mem_map.mp m1
    have e3 : k = p.1 := congrArg (·.1) e2
    have e4 : lookD r' k = lookD r p.1 := congrArg (·.2) e2
    rw [lookD_O (lookO_mem hn hpr), e3] at e4
    obtain ⟨q, hq, e5⟩ := List.mem_map.mp (hp.subset hk)
    have e6 := lookO_mem hn' hq
    rw [e5] at e6
    rw [e6, ← e4, lookD_O e6]
section
variable {prog : Program} {w : World} {A : Around} {E : Value → Shared → Prop} {s : Shared} {h₀ : Heap} {L : Addr} {m : Str → Option Value} {news : List (Addr × Obj)}
theorem RowVals.valueAt {kvs : List (Int × Value)} {row : List (Int × Int)} (x : RowVals kvs row) (k : Int) : (lookO row k = none → PySem.valueAt kvs k = none) ∧ ∀ v, lookO row k = some v → ∃ t, PySem.valueAt kvs k = some (.int v t) := by
  induction x with
  | nil => exact ⟨fun _ => rfl, fun v h => nomatch h⟩
  | @cons k' v t kvs row _ ih =>
    unfold lookO PySem.valueAt
    rw [List.find?_cons, List.find?_cons]
    by_cases e : k' = k
    · subst e
      simp
    · simp only [decide_eq_false e]; exact ih
theorem row_hits {rb : List (Int × Int)} {kb : List (Int × Value)} (yb : RowVals kb rb) {ra : List (Int × Int)} {ka : List (Int × Value)} (ya : RowVals ka ra) : KeqHits A s kb ka (ra.all fun p => decide (lookO rb p.1 = some p.2)) := by
  induction ya with
  | nil => exact .nil
  | @cons k v t kvs row _ ih =>
    rw [List.all_cons]
    cases e : lookO rb k with
    | none =>
      have : decide ((none : Option Int) = some v) = false := by simp
      show KeqHits A s kb _ (decide (none = some v) && _)
      rw [this, Bool.false_and]
      exact .miss ((yb.valueAt k).1 e)
    | some y =>
      obtain ⟨u, hu⟩ := (yb.valueAt k).2 y e
      have : decide (some y = some v) = (v == y) := by
        by_cases q : v = y
        · subst q; simp
        · rw [beq_eq_false_iff_ne.mpr q]; simp [Ne.symm q]
      show KeqHits A s kb _ (decide (some y = some v) && _)
      rw [this]
      exact .hit hu (SeqAt.EqAt.int_int v t y u) ih
theorem pairs_any {p1 p2 : Program} {w1 w2 : World} {l : List DictEntry} {k1 : List (Int × Value)} (x : Pairs (intKind p1 w1) l k1) : Pairs (intKind p2 w2) l k1 := by
  induction x with
  | nil => exact .nil
  | cons h h2 _ ih => exact .cons h h2 ih
theorem dict_any {p1 p2 : Program} {w1 w2 : World} {h : Heap} {a : Addr} {k1 : List (Int × Value)} (x : h.DictOf (intKind p1 w1) a k1) : h.DictOf (intKind p2 w2) a k1 := by
  obtain ⟨o, es, ep, h1, h2, h3, h4, h5, h6⟩ := x
  exact ⟨o, es, ep, h1, h2, h3, h4, pairs_any h5, h6⟩
theorem row_uniq {h : Heap} {a : Addr} {ra rb : List (Int × Int)} (ha : RowAt prog w h a ra) (hb : RowAt prog w h a rb) : ra = rb := by
  obtain ⟨la, ka, da, ya⟩ := ha
  obtain ⟨lb, kb, db, yb⟩ := hb
  obtain ⟨o, es, ep, h1, h2, h3, h4, h5, h6⟩ := da
  obtain ⟨o', es', ep', h1', h2', h3', h4', h5', h6'⟩ := db
  rw [h1] at h1'; cases h1'
  rw [h3] at h3'; cases h3'
  have key : ∀ {l : List DictEntry} {k1 : List (Int × Value)}, Pairs (intKind prog w) l k1 → ∀ {k2 : List (Int × Value)}, Pairs (intKind prog w) l k2 → k1 = k2 := by
    intro l k1 x
    induction x with
    | nil => intro k2 y; cases y; rfl
    | cons h h2 _ ih =>
      intro k2 y
      cases y with
      | cons h' h2' hr =>
        have q1 := (intKind prog w).inj _ _ _ h h'
        have q2 := h2.symm.trans h2'
        rw [ih hr, Prod.ext q1 q2]
  have key2 : ∀ {k1 : List (Int × Value)} {r1 : List (Int × Int)}, RowVals k1 r1 → ∀ {r2}, RowVals k1 r2 → r1 = r2 := by
    intro k1 r1 x
    induction x with
    | nil => intro r2 y; cases y; rfl
    | cons _ ih => intro r2 y; cases y with | cons hr => rw [ih hr]
  rw [← key h5 h5'] at yb
  exact key2 ya yb
theorem eq_rows {a b : Addr} {ra rb : List (Int × Int)} (ha : RowAt prog w s.heap a ra) (hb : RowAt prog w s.heap b rb) (hu : A.units < cLine) : SeqAt.EqAt A s (.ref a) (.ref b) (decide (rowKey ra = rowKey rb)) := by
  obtain ⟨la, ka, da, ya⟩ := id ha
  obtain ⟨lb, kb, db, yb⟩ := id hb
  by_cases e : a = b
  · subst e
    have : rowKey ra = rowKey rb := by rw [row_uniq ha hb]
    rw [decide_eq_true this]
    exact SeqAt.EqAt.same _
  · refine SeqAt.EqAt.of_refs e fun prog' w' E' Q' hq => ?_
    refine keq_eq (prog := prog') (w := w') (knd := intKind prog' w') la lb (dict_any da) (dict_any db) hu (fun _ => row_hits yb ya) ?_
    rw [ya.length, yb.length]
    show Q' (.bool (sameB ra rb)) s
    have : sameB ra rb = decide (rowKey ra = rowKey rb) := by
      by_cases q : rowKey ra = rowKey rb
      · rw [decide_eq_true q]; exact (sameB_iff ha.nodup hb.nodup).mpr q
      · rw [decide_eq_false q, ← Bool.not_eq_true]; exact fun h => q ((sameB_iff ha.nodup hb.nodup).mp h)
    rw [this]; exact hq
theorem index_rows {ax d : Addr} {e i : Nat} {vs : List Value} {rs : Rows} {Q : Value → Shared → Prop} (F : Fr h₀ L s.heap m) (hl : h₀.get? ax = some (listOf (List.toArray vs) e)) (R : RowsIn prog w h₀ vs rs) (hi : vs[i]? = some (.ref d)) (hmx : rs.length ≤ 100000) (hu : A.units + 1 < cLine)
    (h : ∀ t tk, Q (.int (ownerF rs i : Int) t) { s with toks := tk }) : wpAny (model prog w) A (call (.builtin "list.index") [.ref ax, .ref d]) Q E s := by
  have Rs := R.keeps (h' := s.heap) F.keep
  have hlen := R.length
  have hil : i < rs.length := hlen ▸ (List.getElem?_eq_some_iff.mp hi).1
  obtain ⟨a, ha, Ra⟩ := Rs.at i hil
  rw [hi] at ha; cases ha
  have ho : ownerF rs i < rs.length := by
    unfold ownerF
    have q := List.idxOf_lt_length_iff.mpr (List.mem_of_getElem? (keysF_at hil))
    simpa [keysF] using q
  have hsz : (List.toArray vs).size = rs.length := by simp [hlen]
  classical
  let ee : Value → Bool := fun y => match y with | .ref a => decide (∃ row, RowAt prog w s.heap a row ∧ rowKey row = rowKey (rs.getD i [])) | _ => false
  have hee : ∀ j, j < rs.length → ∃ b, vs[j]? = some (.ref b) ∧ RowAt prog w s.heap b (rs.getD j []) ∧ ee (.ref b) = decide (rowKey (rs.getD j []) = rowKey (rs.getD i [])) := by
    intro j hj
    obtain ⟨b, hb, Rb⟩ := Rs.at j hj
    refine ⟨b, hb, Rb, ?_⟩
    show decide _ = decide _
    congr 1
    refine propext ⟨fun ⟨row, h1, h2⟩ => ?_, fun h2 => ⟨_, Rb, h2⟩⟩
    rw [row_uniq Rb h1]; exact h2
  have at_ : ∀ j (hj : j < (List.toArray vs).size), ∃ b, (List.toArray vs)[j] = .ref b ∧ ee (.ref b) = decide (rowKey (rs.getD j []) = rowKey (rs.getD i [])) := by
    intro j hj
    obtain ⟨b, hb, _, h2⟩ := hee j (hsz ▸ hj)
    refine ⟨b, ?_, h2⟩
    rw [List.getElem?_eq_some_iff] at hb
    obtain ⟨_, hb⟩ := hb
    simpa using hb
  refine call_meets PySem.F.slot_list_index ⟨_, F.keep _ _ hl, rfl⟩ PySem.F.entry_list_index (PySem.F.args_list_index_2 _ _)
    (SeqAt.list_indexAt ax (List.toArray vs) e none #[] (.ref d) ee (ownerF rs i) (by omega) (by omega) ?_ ?_) ⟨F.keep _ _ hl, fun y hy => ?_, h _ _⟩
  · obtain ⟨b, h1, h2⟩ := at_ (ownerF rs i) (by omega)
    rw [h1, h2, decide_eq_true]
    have q1 := keysF_at ho
    have q2 : (keysF rs)[(keysF rs).idxOf (rowKey (rs.getD i []))]? = some (rowKey (rs.getD i [])) := by
      rw [List.getElem?_eq_getElem (List.idxOf_lt_length_iff.mpr (List.mem_of_getElem? (keysF_at hil))), List.getElem_idxOf]
    exact Option.some.inj (q1.symm.trans q2)
  · intro j hj hlt
    obtain ⟨b, h1, h2⟩ := at_ j hj
    rw [h1, h2, decide_eq_false]
    intro q
    have q1 := keysF_at (hsz ▸ hj : j < rs.length)
    rw [q] at q1
    unfold ownerF at hlt
    have hj' : j < (keysF rs).length := (List.getElem?_eq_some_iff.mp q1).1
    have q3 : (keysF rs)[j] = rowKey (rs.getD i []) := (List.getElem?_eq_some_iff.mp q1).2
    exact absurd q3 (by simpa using List.not_of_lt_findIdx (p := (· == rowKey (rs.getD i []))) hlt)
  · obtain ⟨j, hj, rfl⟩ := List.mem_iff_getElem.mp (by simpa using hy : y ∈ vs)
    obtain ⟨b, hb, Rb, h2⟩ := hee j (by omega)
    rw [List.getElem?_eq_getElem hj] at hb
    rw [Option.some.inj hb, h2]
    exact eq_rows Rb Ra hu
theorem index_method {ax : Addr} {e : Nat} {vs : List Value} {pl : Sem Bool} {Q : Value × List Value → Shared → Prop} (F : Fr h₀ L s.heap m) (hl : h₀.get? ax = some (listOf (List.toArray vs) e)) (h : Q (.builtin "list.index", [.ref ax]) s) :
    wpAny (model prog w) A (getMethod (.ref ax) (Str.ofString "index") pl) Q E s :=
  getMethod_builtin ⟨_, F.keep _ _ hl, rfl⟩ PySem.F.plainAttrs_list PySem.F.slot_list_index PySem.F.type_list_index (fun a e => by cases e; exact ⟨_, F.keep _ _ hl, rfl⟩) h
/-- a row is not empty -/
theorem ne_empty {a b : Addr} {row : List (Int × Int)} {Q : Value → Shared → Prop} (ha : RowAt prog w s.heap a row) (hb : RowAt prog w s.heap b []) (hu : A.units < cLine) (h : Q (.bool (decide (row ≠ []))) s) :
    wpAny (model prog w) A (compareOp .NotEq (.ref a) (.ref b)) Q E s := by
  obtain ⟨la, ka, da, ya⟩ := id ha
  obtain ⟨lb, kb, db, yb⟩ := id hb
  refine keq_ne la lb da db hu (fun _ => row_hits yb ya) ?_
  rw [ya.length, yb.length]
  have : (!(row.length == ([] : List (Int × Int)).length && row.all fun p => decide (lookO [] p.1 = some p.2))) = decide (row ≠ []) := by
    cases row with
    | nil => rfl
    | cons p r => simp
  rw [this]; exact h
theorem ne_empty_t {a b : Addr} {row : List (Int × Int)} {Q : Value → Shared → Prop} (F : Fr h₀ L s.heap m) (ha : RowAt prog w h₀ a row) (hb : RowAt prog w s.heap b []) (hu : A.units < cLine) (hr : row ≠ []) (h : Q (.bool true) s) :
    wpAny (model prog w) A (compareOp .NotEq (.ref a) (.ref b)) Q E s := ne_empty (ha.keeps fun o e => F.keep _ o e) hb hu (by rw [decide_eq_true hr]; exact h)
theorem ne_empty_f {a b : Addr} {row : List (Int × Int)} {Q : Value → Shared → Prop} (F : Fr h₀ L s.heap m) (ha : RowAt prog w h₀ a row) (hb : RowAt prog w s.heap b []) (hu : A.units < cLine) (hr : row = []) (h : Q (.bool false) s) :
    wpAny (model prog w) A (compareOp .NotEq (.ref a) (.ref b)) Q E s := ne_empty (ha.keeps fun o e => F.keep _ o e) hb hu (by rw [decide_eq_false (by simp [hr])]; exact h)
theorem new_row {d : Addr} {o : Obj} (N : News h₀ L s.heap news) (hm : (d, o) ∈ news) (lo : (d == sysModules) = false) (hd : o.IsDictOf (intKind prog w) []) : RowAt prog w s.heap d [] :=
  ⟨lo, [], Heap.dictOf_iff.mpr ⟨o, (N _ hm).1, hd⟩, .nil⟩
theorem item_led {value slice : Expr} {l : Addr} {vs : List Value} {ns : List Int} {e i : Nat} {k : Int} {u : Tok} {Q : Value → Shared → Prop} (N : News h₀ L s.heap news) (hm : (l, listOf (List.toArray vs) e) ∈ news) (hi : IntsAre vs ns)
    (ek : k = (i : Int)) (h1 : i < ns.length) (hfit : i ≤ 1000000) (h : ∀ t, Q (.int (ns.getD i 0) t) s)
    (hs : subscripted slice false (.ref l) (.int k u) = operate [.ref l, .int k u] (getItem (.ref l) (.int k u)) := by with_unfolding_all rfl) :
    wpAny (model prog w) A (subscriptTail value slice (.ref l) (.int k u)) Q E s := by
  subst ek
  exact item_anyK (News.isList N hm) hi (by omega) (by omega) (by omega) (by simpa using h) hs
end
theorem mem_mid {α : Type} {p x y d a b c : α} {A C : List α} (h : p ∈ x :: ([a, b, c] ++ (A ++ y :: C))) : p ∈ y :: d :: x :: a :: b :: c :: (A ++ C) := by
  simp only [List.mem_cons, List.mem_append, List.not_mem_nil, or_false] at h ⊢
  rcases h with h | (h | h | h) | h | h | h <;> simp [h]
theorem off_mid {α : Type} {P : α → Prop} {A C : List α} {y : α} (h : ∀ p ∈ A ++ C, P p) (hy : P y) : ∀ p ∈ A ++ y :: C, P p := by
  intro p hp
  rcases List.mem_append.mp hp with q | q
  · exact h p (List.mem_append_left _ q)
  · rcases List.mem_cons.mp q with rfl | q
    · exact hy
    · exact h p (List.mem_append_right _ q)

end RC
section RD
open PySem PySem.W PyProof.Rows PySem.Calls PySem.Spec
open PyProof.Rows.LCg
section
variable {prog : Program} {w : World} {A : Around} {E : Value → Shared → Prop} {s : Shared} {h₀ : Heap} {m : Str → Option Value} {env : Env} {news : List (Addr × Obj)}
theorem for_stopT {Q : Flow → Shared → Prop} {target iter : Expr} {pos : Pos} {body : List Stmt} (F : Fr h₀ env.locals s.heap m)
    (h : wpAny (model prog w) A (eval iter env) (fun xv s₁ => Stop (wpAny (model prog w) A (pyIter xv) (fun it s₂ => TurnsAt prog w A h₀ env target body Q (fun _ _ => False) it s₂) (fun _ _ => False) s₁)) (fun _ _ => False) s)
    (hs : ∀ x, foldedSetIterable iter env x = pure x := by intro _; rfl) :
    wpAny (model prog w) A (exec (.For target iter body [] pos) env) Q (fun _ _ => False) s := For_turns F h hs passes_false
/-- a list of the ledger as the loop's source, any target -/
theorem turn_led {target : Expr} {body : List Stmt} {Q : Flow → Shared → Prop} {ax : Addr} {vs : List Value} {e : Nat} (hh : A.handled = none) (F : Fr h₀ env.locals s.heap m) (N : News h₀ env.locals s.heap news)
    (J : Nat → (Str → Option Value) → List (Addr × Obj) → Prop) (hJ : ∀ i m nw, J i m nw → (ax, listOf (List.toArray vs) e) ∈ nw) (h0 : J 0 m news)
    (step : ∀ i v m₁ news₁ I oI h₁ tk₁, vs[i]? = some v → J i m₁ news₁ → (∀ p ∈ news₁, p.1 ≠ I) → Fr h₀ env.locals h₁ m₁ → News h₀ env.locals h₁ ((I, oI) :: news₁) →
      wpAny (model prog w) A (assign target env v) (fun _ s₃ => wpAny (model prog w) A (execs body env) (fun f s₂ => Stop (LpEnd h₀ env.locals I oI (J (i + 1)) { s with heap := h₁, toks := tk₁ } Q f s₂)) E s₃) E { s with heap := h₁, toks := tk₁ })
    (done : ∀ h' tk m' news', Fr h₀ env.locals h' m' → News h₀ env.locals h' news' → J vs.length m' news' → Q .next { s with heap := h', toks := tk }) :
    wpAny (model prog w) A (pyIter (.ref ax)) (fun it s₂ => TurnsAt prog w A h₀ env target body Q E it s₂) E s := by
  have hax := N _ (hJ _ _ _ h0)
  have hls : s.heap.IsList ax (List.toArray vs) := ⟨_, hax.1, rfl, _, rfl⟩
  have hne : ax ≠ s.heap.objs.size := Nat.ne_of_lt (Heap.lt_size hax.1)
  refine wpAny_pyIter_list hls ?_
  have up : ∀ b o, s.heap.get? b = some o → (s.heap.push { cls := .type "list_iterator", data := .fields #[.ref ax, .int 0 0] }).get? b = some o := fun b o e => Heap.get?_push_of_some _ e
  have hI₀ := next_is_new F
  have hIL : env.locals ≠ s.heap.objs.size := Nat.ne_of_lt F.ns.lt
  have hLax : env.locals ≠ ax := Ne.symm hax.2.1
  have W := Walks.list (prog := prog) (w := w) hh s.heap.objs.size ax hne (List.toArray vs)
  have hsz : vs.toArray.size = vs.length := List.size_toArray ..
  rw [hsz] at W
  clear hsz
  have hnI : ∀ p ∈ news, p.1 ≠ s.heap.objs.size := fun p hp => Nat.ne_of_lt (Heap.lt_size (N p hp).1)
  have one : ∀ {b c : Addr}, b ∈ [c] → b = c := fun q => List.mem_singleton.mp q
  have st0 : (s.heap.push { cls := .type "list_iterator", data := .fields #[.ref ax, .int 0 0] }).IsListIter s.heap.objs.size ax 0 := ⟨_, Heap.get?_push_size _ rfl, rfl, rfl⟩
  have F1 := F.keeps up
  have N1 := N.grown up
  have hl1 := hls.push { cls := .type "list_iterator", data := .fields #[.ref ax, .int 0 0] }
  clear up N hls F hax
  generalize s.heap.push { cls := .type "list_iterator", data := .fields #[.ref ax, .int 0 0] } = hp1 at *
  generalize s.heap.objs.size = I at *
  refine ⟨I, [I, ax], [I], vs.length, _, _, _, m, news, J, rfl, KTurns.ofWalks W (fun i v s Q E st q => letGo_listiter st.1 q), fun q => (List.mem_cons.mp q).elim hIL (fun q => hLax (one q)), fun b q => one q ▸ hI₀, fun p hp q => hnI p hp (one q), ⟨st0, hl1⟩, F1, N1, h0, ?_, fun h' tk m' news' F' N' _ hJ => done h' tk m' news' F' N' hJ⟩
  clear done N1 F1 h0 hnI hIL hLax W st0 hl1
  intro i v m₁ news₁ hh' tk' own hi hv hJi hoff hown hget hall st F₁ N₁
  refine hide ?_
  intro G ret1
  obtain ⟨oI, st', _⟩ := st.1
  have hIo := hall I (.head _) hI₀ _ st'
  have hax1 := N₁ _ (List.mem_append_right _ (hJ _ _ _ hJi))
  refine ret1 ?_
  clear ret1 G
  refine wpAny_mono (step i v m₁ news₁ I oI hh' tk' (by rw [List.getElem?_toArray] at hv; exact hv) hJi (fun p hp e => hoff p hp (e ▸ .head _)) F₁ (fun p hp => ?_)) (fun _ s₃ z => wpAny_mono z (fun f s₂ p => ?_) fun _ _ e => e) fun _ _ e => e
  · rcases List.mem_cons.mp hp with rfl | hp
    · exact N₁ _ (List.mem_append_left _ hIo)
    · exact N₁ _ (List.mem_append_right _ hp)
  · clear step z
    have own' : ∀ p ∈ own, p = (I, oI) ∨ ∀ i m nw, J i m nw → p ∈ nw := fun p hp => by
      have e2 := hget p hp
      rcases List.mem_cons.mp (hown p hp) with e1 | e1
      · rw [e1, st'] at e2
        exact .inl (Prod.ext e1 (Option.some.inj e2).symm)
      · have e1 := one e1
        rw [e1, hax1.1] at e2
        have e3 : p = (ax, listOf (List.toArray vs) e) := Prod.ext e1 (Option.some.inj e2).symm
        exact .inr (e3 ▸ hJ)
    have fin : (∃ h' tk m' news', s₂ = { ({ s with heap := hh', toks := tk' } : Shared) with heap := h', toks := tk } ∧ Fr h₀ env.locals h' m' ∧ News h₀ env.locals h' ((I, oI) :: news') ∧ (∀ p ∈ news', p.1 ≠ I) ∧ J (i + 1) m' news') →
        LoopStepU h₀ env.locals [I] own (J (i + 1)) { s with heap := hh', toks := tk' } .next s₂ := fun q => by
      refine hide ?_
      intro G ret1
      obtain ⟨h', tk, m', news', rfl, F', N', off, hm⟩ := q
      refine ret1 ⟨rfl, h', tk, m', news', rfl, F', fun p hp => ?_, fun p hp q => off p hp (one q), hm⟩
      rcases List.mem_append.mp hp with hp | hp
      · rcases own' p hp with rfl | e
        · exact N' _ (.head _)
        · exact N' _ (.tail _ (e _ _ _ hm))
      · exact N' _ (.tail _ hp)
    cases f with
    | ret v => exact .ret p
    | brk => exact .brk p
    | next => exact .next (fin p)
    | cont => exact .cont (fin p)
end

end RD
section RE
open PySem PySem.W PyProof.Rows PySem.Calls PySem.Spec
open PyProof.Rows.LCg
/-- the end of a turn of a comprehension over enumerate -/
noncomputable def EnEnd (h₀ : Heap) (L : Addr) (m : Str → Option Value) (s₁ : Shared) (own : List (Addr × Obj)) (J : List (Addr × Obj) → Prop) (s₂ : Shared) : Prop :=
  ∃ h' tk nw, s₂ = { s₁ with heap := h', toks := tk } ∧ Fr h₀ L h' m ∧ News h₀ L h' (own ++ nw) ∧ (∀ p ∈ nw, ∀ q ∈ own, @Ne Nat p.1 q.1) ∧ J nw
/-- between the turns of such a comprehension -/
noncomputable def EnInv (h₀ : Heap) (L : Addr) (m : Str → Option Value) (S : Shared) (vs : List Value) (I D l : Addr) (J : Nat → List Value → List (Addr × Obj) → Prop) (k : Nat) (s' : Shared) : Prop :=
  ∃ h' tk i ys m' nw, s' = { S with heap := h', toks := tk } ∧ i ≤ vs.length ∧ k = vs.length + 1 - i ∧ ys.length ≤ i ∧ ((∃ old, IsEnum h' (I + 1) I (i : Int) old) ∧ h'.IsListIter I l i ∧ h'.IsList l (List.toArray vs)) ∧ Fr h₀ L h' m ∧ h'.Ns (D + 1) m' ∧
    News h₀ L h' ((D, lst ys) :: nw) ∧ (∀ p ∈ nw, p.1 ≠ I + 1 ∧ p.1 ≠ I ∧ p.1 ≠ D + 1 ∧ p.1 ≠ D) ∧ J i ys nw
theorem EnInv.intro {h₀ : Heap} {L : Addr} {m : Str → Option Value} {S : Shared} {vs : List Value} {I D l : Addr} {J : Nat → List Value → List (Addr × Obj) → Prop} {k : Nat} {h' : Heap} {tk i : Nat} {ys : List Value} {m' : Str → Option Value} {nw : List (Addr × Obj)}
    (hi : i ≤ vs.length) (hk : k = vs.length + 1 - i) (hy : ys.length ≤ i) (st : (∃ old, IsEnum h' (I + 1) I (i : Int) old) ∧ h'.IsListIter I l i ∧ h'.IsList l (List.toArray vs)) (F : Fr h₀ L h' m) (hn : h'.Ns (D + 1) m') (N : News h₀ L h' ((D, lst ys) :: nw))
    (off : ∀ p ∈ nw, p.1 ≠ I + 1 ∧ p.1 ≠ I ∧ p.1 ≠ D + 1 ∧ p.1 ≠ D) (hJ : J i ys nw) : EnInv h₀ L m S vs I D l J k { S with heap := h', toks := tk } := ⟨h', tk, i, ys, m', nw, rfl, hi, hk, hy, st, F, hn, N, off, hJ⟩
noncomputable def EnAt (prog : Program) (w : World) (A : Around) (h₀ : Heap) (L : Addr) (m : Str → Option Value) (env : Env) (c elt : Expr) (a b : Str) (scope : Scope) (cl : List (Str × Addr)) (Q : Value → Shared → Prop) (s₁ : Shared) (vs : List Value) (news : List (Addr × Obj)) : Prop :=
  ∃ J : Nat → List Value → List (Addr × Obj) → Prop, J 0 [] news ∧
    (∀ i x t ys nw e oe I oI C oC D m₂ h tk (E' : Value → Shared → Prop), vs[i]? = some x → J i ys nw → NsObj oC m₂ → m₂ a = some (.int (i : Int) t) → m₂ b = some x → Fr h₀ L h m → News h₀ L h ((e, oe) :: (I, oI) :: (C, oC) :: (D, lst ys) :: nw) →
      (∀ p ∈ nw, ∀ q ∈ [(e, oe), (I, oI), (C, oC), (D, lst ys)], @Ne Nat p.1 q.1) →
      wpAny (model prog w) A (isTrue c (compEnvC scope cl C env) (eval c (compEnvC scope cl C env))) (fun ok s₃ => if ok = true then
        wpAny (model prog w) A (eval elt (compEnvC scope cl C env)) (fun y s₄ => Stop (EnEnd h₀ L m { s₁ with heap := h, toks := tk } [(e, oe), (I, oI), (C, oC), (D, lst ys)] (J (i + 1) (ys ++ [y])) s₄)) E' s₃
        else Stop (EnEnd h₀ L m { s₁ with heap := h, toks := tk } [(e, oe), (I, oI), (C, oC), (D, lst ys)] (J (i + 1) ys) s₃)) E' { s₁ with heap := h, toks := tk }) ∧
    ∀ ys nw D h tk, J vs.length ys nw → Fr h₀ L h m → News h₀ L h ((D, lst ys) :: nw) → (∀ p ∈ nw, @Ne Nat p.1 D) → Q (.ref D) { s₁ with heap := h, toks := tk }
noncomputable def EnPost (prog : Program) (w : World) (A : Around) (h₀ : Heap) (L : Addr) (m : Str → Option Value) (env : Env) (c elt : Expr) (a b : Str) (scope : Scope) (cl : List (Str × Addr)) (Q : Value → Shared → Prop) (xv : Value) (s₁ : Shared) : Prop :=
  ∃ s₀ l vs news, A.handled = none ∧ Fr h₀ L s₀.heap m ∧ News h₀ L s₀.heap news ∧ h₀.IsList l (List.toArray vs) ∧ vs.length ≤ sizeLine ∧
      xv = .ref (s₀.heap.objs.size + 1) ∧ s₁ = { s₀ with heap := s₁.heap } ∧ IsEnum s₁.heap (s₀.heap.objs.size + 1) s₀.heap.objs.size 0 .none ∧ s₁.heap.IsListIter s₀.heap.objs.size l 0 ∧ (∀ b o, s₀.heap.get? b = some o → s₁.heap.get? b = some o) ∧
      EnAt prog w A h₀ L m env c elt a b scope cl Q s₀ vs news
section
variable {prog : Program} {w : World} {A : Around} {E : Value → Shared → Prop} {s : Shared} {h₀ : Heap} {L : Addr} {m : Str → Option Value} {env : Env}
theorem lin_down {i n : Nat} (h : i < n) : n + 1 - (i + 1) < n + 1 - i := by omega
theorem enum_comp {elt iter c : Expr} {a b : Str} {pa pb tp : Pos} {kk : Nat} {scope : Scope} {cl : List (Str × Addr)} {pos : Pos} {Q : Value → Shared → Prop} (_F₀ : Fr h₀ L s.heap m)
    (hclos : closureFor scope env = pure cl) (hcell : ∀ y ∈ scope.names, y.2 ≠ .cell) (hkind : scope.kind = .function)
    (hnames : ∀ y ∈ scope.names, y.2 = .local → scope.names.lookup y.1 = some .local) (hxa : scope.names.lookup a = some .local) (hxb : scope.names.lookup b = some .local) (hab : a ≠ b)
    (h : wpAny (model prog w) A (eval iter env) (EnPost prog w A h₀ L m env c elt a b scope cl Q) E s)
    (hs : ∀ x, foldedSetIterable iter env x = pure x := by intro _; rfl) :
    wpAny (model prog w) A (eval (.ListComp elt [⟨.Tuple [.Name a pa, .Name b pb] kk tp, iter, [c], 0⟩] scope pos) env) Q E s := by
  rw [eval_ListComp]
  refine wpAny_comprehension_free (use := none) rfl hs hclos hkind hnames (wpAny_mono h (fun xv s₁ h₁ => ?_) fun _ _ e => e)
  refine hide ?_
  intro P ret1
  obtain ⟨s₀, l, vs, news, hh, F₀, N₀, hl₀, hsz, rfl, e1, hE, hI, hk, J, h0, step, fin⟩ := h₁
  obtain ⟨hp1, g1, d1, tk1, os1⟩ := s₁
  obtain ⟨hp0, g0, d0, tk0, os0⟩ := s₀
  simp only [Shared.mk.injEq, true_and] at e1
  obtain ⟨rfl, rfl, rfl, rfl⟩ := e1
  dsimp only at F₀ N₀ hE hI hk hsz step fin ret1
  have hls : hp0.IsList l (List.toArray vs) := hl₀.at fun o e => F₀.keep l o e
  obtain ⟨ol, hol, _⟩ := id hl₀
  refine ret1 ?_
  clear ret1 P
  have hlt : l < hp0.objs.size := Heap.lt_size (F₀.keep _ _ hol)
  have hlL : l < L := Nat.lt_of_lt_of_le (Heap.lt_size hol) F₀.above
  generalize hIe : hp0.objs.size = I at *
  have hle : l ≠ I + 1 := Nat.ne_of_lt (Nat.lt_succ_of_lt hlt)
  have W := WalksT.enumerate (prog := prog) (w := w) (A := A) hh (I + 1) I l (Nat.succ_ne_self _) hle (Nat.ne_of_lt hlt) (List.toArray vs)
  have F : Fr h₀ L hp1 m := F₀.keeps hk
  have N : News h₀ L hp1 news := N₀.grown hk
  have hLI : L < I := hIe ▸ F₀.ns.lt
  have hnI : ∀ p ∈ news, p.1 < I := fun p hp => hIe ▸ Heap.lt_size (N₀ p hp).1
  have fresh₀ : ∀ x, I ≤ x → h₀.get? x = none := fun x hx => by
    cases e : h₀.get? x with
    | none => rfl
    | some o => exact absurd (Nat.lt_of_lt_of_le (Heap.lt_size e) (Nat.le_trans F₀.above (Nat.le_of_lt hLI))) (Nat.not_lt.mpr hx)
  refine wpAny_pyIter_enum hE ?_
  refine wpAny_newObj_type (wpAny_newFunctionEnv hcell (by intro y hy; simp at hy) (fun h₁ hns₁ hsb₁ => ?_) hkind)
  dsimp only at hns₁ hsb₁ ⊢
  have hIlt : I < hp1.objs.size := by obtain ⟨_, x, _⟩ := hI; exact Heap.lt_size x
  have hElt : I + 1 < hp1.objs.size := Heap.lt_size hE
  generalize hD : hp1.objs.size = D at *
  generalize hH2 : hp1.push { cls := .type "list", dict := none, data := .seq ([] : List Value).toArray } = H2 at hns₁ hsb₁ ⊢
  have hC : H2.objs.size = D + 1 := by rw [← hH2, Heap.size_push, hD]
  rw [hC] at hns₁ hsb₁ ⊢
  have old : ∀ b o, hp1.get? b = some o → h₁.get? b = some o := fun b o e => hsb₁.extBut b o (Nat.ne_of_lt (Nat.lt_succ_of_lt (hD ▸ Heap.lt_size e))) (Heap.get?_push_of_some _ (hH2 ▸ Heap.get?_push_of_some _ e))
  have hacc : h₁.get? D = some (lst []) := hsb₁.extBut _ _ (Nat.ne_of_lt (Nat.lt_succ_self _)) (Heap.get?_push_of_some _ (by rw [← hH2, ← hD]; exact Heap.get?_push_size _ rfl))
  have st₁ : (∃ old, IsEnum h₁ (I + 1) I ((0 : Nat) : Int) old) ∧ h₁.IsListIter I l 0 ∧ h₁.IsList l (List.toArray vs) := ⟨⟨_, old _ _ hE⟩, hI.at fun o e => old _ _ e, hls.at fun o e => old _ _ (hk _ _ e)⟩
  have loop : ∀ s₃ : Shared, s₃ = { ({ heap := hp1, gens := g1, drawn := d1, toks := tk1, os := os1 } : Shared) with heap := h₁, toks := tk1 + ([] : List (Str × Value)).length } →
      codeAny (model prog w) A (.compLoop (.ListComp elt [⟨.Tuple [.Name a pa, .Name b pb] kk tp, iter, [c], 0⟩] scope pos) 0 (.ref (I + 1)) (.ref D) (compEnvC scope cl (D + 1) env))
        (compPost (model prog w) A E none Q (.ref D) (D + 1)) s₃ := by
    rintro s₃ rfl
    refine kct_loop
      (EnInv h₀ L m { heap := hp1, gens := g1, drawn := d1, toks := tk1, os := os1 } vs I D l J) ?_ (vs.length + 1)
      (EnInv.intro (i := 0) (ys := []) (nw := news) (Nat.zero_le _) rfl (Nat.le_refl _) st₁ (F.keeps old) hns₁ (fun p hp => ?_) (fun p hp => ?_) h0)
    · intro k s' hJ1
      refine hide ?_
      intro P ret1
      obtain ⟨h', tk, i, ys, m', nw, rfl, hi, rfl, hyl, st', F', hn', N', off', hJ⟩ := hJ1
      refine ret1 ?_
      clear ret1 P
      by_cases hlt' : i < vs.length
      · refine W.item i _ _ _ (by simpa using hlt') st' fun T vals h₂ tk₂ hPt hTs hT hMd hk₂ => ?_
        refine hide ?_
        intro P ret1
        obtain ⟨t, x, hx, rfl⟩ := hPt
        refine ret1 ?_
        clear ret1 P
        refine W.go _ _ _ i T _ _ _ hMd fun h₃ st₃ hk₃ => ?_
        have hTw : T ≠ I + 1 ∧ T ≠ I := by have := W.apart i T _ hMd; simpa using this
        have hT₃ : h₃.IsTuple T #[.int (i : Int) t, x] := hT.at fun o e => hk₃ T o (by simpa using hTw) e
        have up₃ : ∀ z o, z ≠ I + 1 → z ≠ I → h'.get? z = some o → h₃.get? z = some o := fun z o n1 n2 e => hk₃ z o (by simp [n1, n2]) (hk₂ z o (by simp [n1, n2]) e)
        have nCE : D + 1 ≠ I + 1 := Nat.ne_of_gt (Nat.lt_succ_of_lt hElt)
        have nCI : D + 1 ≠ I := Nat.ne_of_gt (Nat.lt_succ_of_lt hIlt)
        refine kcp_assign (env := compEnvC scope cl (D + 1) env) hh hT₃ (lookup_relabel_local hxa) (lookup_relabel_local hxb) (by simp [compEnvC, relabel, hkind]) (hn'.at' fun o e => up₃ _ o nCE nCI e) fun h₄ tk₄ hn₄ hs₄ => ?_
        have hs₄' : ∀ c o, c ≠ D + 1 → h₃.get? c = some o → h₄.get? c = some o := hs₄
        have up : ∀ z o, z ≠ I + 1 → z ≠ I → z ≠ D + 1 → h'.get? z = some o → h₄.get? z = some o := fun z o n1 n2 n3 e => hs₄' z o n3 (up₃ z o n1 n2 e)
        refine hide ?_
        intro P ret1
        obtain ⟨⟨old3, hE₃⟩, hI₃, hl₃⟩ := st₃
        have nlC : l ≠ D + 1 := Nat.ne_of_lt (Nat.lt_trans hlt (Nat.lt_succ_of_lt hIlt))
        have st₄ : (∃ old, IsEnum h₄ (I + 1) I ((i + 1 : Nat) : Int) old) ∧ h₄.IsListIter I l (i + 1) ∧ h₄.IsList l (List.toArray vs) := ⟨⟨_, hs₄' _ _ (Ne.symm nCE) hE₃⟩, hI₃.at fun o e => hs₄' _ _ (Ne.symm nCI) e, hl₃.at fun o e => hs₄' _ _ nlC e⟩
        obtain ⟨oe, hoe, hoE⟩ : ∃ oe : Obj, h₄.get? (I + 1) = some oe ∧ ∀ h : Heap, h.get? (I + 1) = some oe → ∃ old, IsEnum h (I + 1) I ((i + 1 : Nat) : Int) old := by
          obtain ⟨old, z⟩ := st₄.1
          exact ⟨_, z, fun h e => ⟨old, e⟩⟩
        obtain ⟨oI, hoI, hoI2⟩ : ∃ oI : Obj, h₄.get? I = some oI ∧ ∀ h : Heap, h.get? I = some oI → h.IsListIter I l (i + 1) := by
          obtain ⟨o, z, r⟩ := st₄.2.1
          exact ⟨o, z, fun h e => ⟨o, e, r⟩⟩
        obtain ⟨oC, hoC, hnC⟩ := ns_obj hn₄
        have F₄ : Fr h₀ L h₄ m := by
          have z : ∀ b, b ≤ L → b ≠ I + 1 ∧ b ≠ I ∧ b ≠ D + 1 := fun b hb => ⟨Nat.ne_of_lt (Nat.lt_of_le_of_lt hb (Nat.lt_succ_of_lt hLI)), Nat.ne_of_lt (Nat.lt_of_le_of_lt hb hLI), Nat.ne_of_lt (Nat.lt_of_le_of_lt hb (Nat.lt_trans hLI (Nat.lt_succ_of_lt hIlt)))⟩
          refine ⟨F'.ns.at' fun o e => ?_, fun b o e => ?_, F'.above⟩
          · obtain ⟨n1, n2, n3⟩ := z L (Nat.le_refl _)
            exact up _ o n1 n2 n3 e
          · obtain ⟨n1, n2, n3⟩ := z b (Nat.le_of_lt (Nat.lt_of_lt_of_le (Heap.lt_size e) F'.above))
            exact up _ o n1 n2 n3 (F'.keep b o e)
        have N₄ : News h₀ L h₄ ((I + 1, oe) :: (I, oI) :: (D + 1, oC) :: (D, lst ys) :: nw) := fun q hq => by
          rcases List.mem_cons.mp hq with rfl | hq
          · exact ⟨hoe, Nat.ne_of_gt (Nat.lt_succ_of_lt hLI), fresh₀ _ (Nat.le_succ _)⟩
          rcases List.mem_cons.mp hq with rfl | hq
          · exact ⟨hoI, Nat.ne_of_gt hLI, fresh₀ _ (Nat.le_refl _)⟩
          rcases List.mem_cons.mp hq with rfl | hq
          · exact ⟨hoC, Nat.ne_of_gt (Nat.lt_trans hLI (Nat.lt_succ_of_lt hIlt)), fresh₀ _ (Nat.le_of_lt (Nat.lt_succ_of_lt hIlt))⟩
          have z := N' q hq
          rcases List.mem_cons.mp hq with rfl | hq
          · exact ⟨up _ _ (Nat.ne_of_gt hElt) (Nat.ne_of_gt hIlt) (Nat.ne_of_lt (Nat.lt_succ_self _)) z.1, z.2⟩
          · obtain ⟨n1, n2, n3, _⟩ := off' q hq
            exact ⟨up _ _ n1 n2 n3 z.1, z.2⟩
        have offs : ∀ p ∈ nw, ∀ q ∈ [(I + 1, oe), (I, oI), (D + 1, oC), (D, lst ys)], @Ne Nat p.1 q.1 := fun p hp q hq => by
          obtain ⟨n1, n2, n3, n4⟩ := off' p hp
          simp only [List.mem_cons, List.not_mem_nil, or_false] at hq
          rcases hq with rfl | rfl | rfl | rfl
          · exact n1
          · exact n2
          · exact n3
          · exact n4
        have next : ∀ (ys' : List Value) (h₅ : Heap) (tk₅ : Nat) (nw₅ : List (Addr × Obj)), ys'.length ≤ i + 1 → Fr h₀ L h₅ m → News h₀ L h₅ ([(I + 1, oe), (I, oI), (D + 1, oC), (D, lst ys')] ++ nw₅) → (∀ p ∈ nw₅, ∀ q ∈ [(I + 1, oe), (I, oI), (D + 1, oC), (D, lst ys)], @Ne Nat p.1 q.1) → J (i + 1) ys' nw₅ →
            ∃ q', q' < vs.length + 1 - i ∧ EnInv h₀ L m { heap := hp1, gens := g1, drawn := d1, toks := tk1, os := os1 } vs I D l J q' { heap := h₅, gens := g1, drawn := d1, toks := tk₅, os := os1 } := by
          intro ys' h₅ tk₅ nw₅ hy' F₅ N₅ o₅ hJ₅
          refine ⟨vs.length + 1 - (i + 1), lin_down hlt', EnInv.intro (i := i + 1) (ys := ys') (nw := nw₅) hlt' rfl hy' ⟨hoE _ (N₅ (I + 1, oe) (.head _)).1, hoI2 _ (N₅ (I, oI) (.tail _ (.head _))).1, hl₀.at fun o e => F₅.keep l o e⟩ F₅ (hnC.ns (N₅ (D + 1, oC) (.tail _ (.tail _ (.head _)))).1) (fun p hp => N₅ p (.tail _ (.tail _ (.tail _ hp)))) (fun p hp => ?_) hJ₅⟩
          exact ⟨o₅ p hp (I + 1, oe) (.head _), o₅ p hp (I, oI) (.tail _ (.head _)), o₅ p hp (D + 1, oC) (.tail _ (.tail _ (.head _))), o₅ p hp (D, lst ys) (.tail _ (.tail _ (.tail _ (.head _))))⟩
        have hxv : vs[i]? = some x := by simpa using hx
        refine ret1 ?_
        clear ret1 P
        refine wpAny_mono (step i x t ys nw (I + 1) oe I oI (D + 1) oC D _ h₄ _ _ hxv hJ hnC (by simp [hab]) (by simp) F₄ N₄ offs) (fun ok s₄ h₄' => ?_) fun _ _ e => e
        cases ok with
        | false =>
          simp only [Bool.false_eq_true, if_false] at h₄' ⊢
          obtain ⟨h₅, tk₅, nw₅, rfl, F₅, N₅, o₅, hJ₅⟩ := h₄'
          exact next ys h₅ tk₅ nw₅ (Nat.le_succ_of_le hyl) F₅ N₅ o₅ hJ₅
        | true =>
          simp only [if_true] at h₄' ⊢
          refine wpAny_mono h₄' (fun y s₅ h₅' => ?_) fun _ _ e => e
          obtain ⟨h₅, tk₅, nw₅, rfl, F₅, N₅, o₅, hJ₅⟩ := h₅'
          refine append_at (hsz := by show ys.toArray.size ≤ sizeLine; rw [List.size_toArray]; exact Nat.le_trans (Nat.le_trans hyl (Nat.le_of_lt hlt')) hsz) (N₅ (D, lst ys) (.tail _ (.tail _ (.tail _ (.head _))))).1 fun h₆ hs₆ hD₆ => ?_
          have zD := (N₅ (D, lst ys) (.tail _ (.tail _ (.tail _ (.head _)))))
          refine next (ys ++ [y]) h₆ _ nw₅ (by rw [List.length_append, List.length_singleton]; exact Nat.succ_le_succ hyl) (F₅.change hs₆ zD.2.1 zD.2.2) (fun q hq => ?_) o₅ hJ₅
          have keep : q.1 ≠ D → q ∈ [(I + 1, oe), (I, oI), (D + 1, oC), (D, lst ys)] ++ nw₅ → h₆.get? q.1 = some q.2 ∧ q.1 ≠ L ∧ h₀.get? q.1 = none := fun n hq => ⟨hs₆.extBut _ _ n (N₅ q hq).1, (N₅ q hq).2⟩
          rcases List.mem_cons.mp hq with rfl | hq
          · exact keep (Nat.ne_of_lt hElt) (.head _)
          rcases List.mem_cons.mp hq with rfl | hq
          · exact keep (Nat.ne_of_lt hIlt) (.tail _ (.head _))
          rcases List.mem_cons.mp hq with rfl | hq
          · exact keep (Nat.succ_ne_self _) (.tail _ (.tail _ (.head _)))
          rcases List.mem_cons.mp hq with rfl | hq
          · exact ⟨hD₆.trans (congrArg some (lst_snoc ys y)), zD.2⟩
          · exact keep (o₅ q hq (D, lst ys) (.tail _ (.tail _ (.tail _ (.head _))))) (.tail _ (.tail _ (.tail _ (.tail _ hq))))
      · have hin : i = vs.length := Nat.le_antisymm hi (Nat.not_lt.mp hlt')
        subst hin
        refine W.done _ _ _ (by simpa using st') fun h₂ tk₂ hk₂ => ?_
        have up : ∀ z o, z ≠ I + 1 → z ≠ I → h'.get? z = some o → h₂.get? z = some o := fun z o n1 n2 e => hk₂ z o (by simp [n1, n2]) e
        have z : ∀ b, b ≤ L → b ≠ I + 1 ∧ b ≠ I := fun b hb => ⟨Nat.ne_of_lt (Nat.lt_of_le_of_lt hb (Nat.lt_succ_of_lt hLI)), Nat.ne_of_lt (Nat.lt_of_le_of_lt hb hLI)⟩
        have F₂ : Fr h₀ L h₂ m := ⟨F'.ns.at' fun o e => up _ o (z L (Nat.le_refl _)).1 (z L (Nat.le_refl _)).2 e, fun b o e => up b o (z b (Nat.le_of_lt (Nat.lt_of_lt_of_le (Heap.lt_size e) F'.above))).1 (z b (Nat.le_of_lt (Nat.lt_of_lt_of_le (Heap.lt_size e) F'.above))).2 (F'.keep b o e), F'.above⟩
        have N₂ : News h₀ L h₂ ((D, lst ys) :: nw) := fun p hp => by
          have q := N' p hp
          rcases List.mem_cons.mp hp with rfl | hp
          · exact ⟨up _ _ (Nat.ne_of_gt hElt) (Nat.ne_of_gt hIlt) q.1, q.2⟩
          · exact ⟨up _ _ (off' p hp).1 (off' p hp).2.1 q.1, q.2⟩
        have nC : D + 1 ≠ I + 1 ∧ D + 1 ≠ I := ⟨Nat.ne_of_gt (Nat.lt_succ_of_lt hElt), Nat.ne_of_gt (Nat.lt_succ_of_lt hIlt)⟩
        refine ⟨m', hn'.at' fun o e => up _ o nC.1 nC.2 e, fun h'' hs'' => ?_⟩
        have hCL : D + 1 ≠ L := Nat.ne_of_gt (Nat.lt_trans hLI (Nat.lt_succ_of_lt hIlt))
        refine fin ys nw D h'' tk₂ hJ (F₂.change hs'' hCL (fresh₀ _ (Nat.le_of_lt (Nat.lt_succ_of_lt hIlt)))) (fun p hp => ⟨hs''.extBut _ _ ?_ (N₂ p hp).1, (N₂ p hp).2⟩) (fun p hp => (off' p hp).2.2.2)
        rcases List.mem_cons.mp hp with rfl | hp
        · exact Nat.ne_of_lt (Nat.lt_succ_self _)
        · exact (off' p hp).2.2.1
    · rcases List.mem_cons.mp hp with rfl | hp
      · exact ⟨hacc, Nat.ne_of_gt (Nat.lt_trans hLI hIlt), fresh₀ _ (Nat.le_of_lt hIlt)⟩
      · exact ⟨old _ _ (N p hp).1, (N p hp).2⟩
    · have := hnI p hp
      exact ⟨Nat.ne_of_lt (Nat.lt_succ_of_lt this), Nat.ne_of_lt this, Nat.ne_of_lt (Nat.lt_trans this (Nat.lt_succ_of_lt hIlt)), Nat.ne_of_lt (Nat.lt_trans this hIlt)⟩
  exact codeAny_compStart_list (loop _ rfl) (W.self 0 _ _ _ st₁ (loop _ rfl))
theorem enum_call {c elt : Expr} {a b : Str} {scope : Scope} {cl : List (Str × Addr)} {Q : Value → Shared → Prop} {l : Addr} {vs : List Value} {news : List (Addr × Obj)} (hh : A.handled = none) (F : Fr h₀ L s.heap m) (N : News h₀ L s.heap news) (hl : h₀.IsList l (List.toArray vs)) (hsz : vs.length ≤ sizeLine)
    (h : EnAt prog w A h₀ L m env c elt a b scope cl Q s vs news) : wpAny (model prog w) A (call (.type "enumerate") [.ref l]) (EnPost prog w A h₀ L m env c elt a b scope cl Q) E s :=
  call_enumerate_list (hl.at fun o e => F.keep l o e) fun h' hE hI _ hk => ⟨s, l, vs, news, hh, F, N, hl, hsz, rfl, rfl, hE, hI, hk, h⟩
end

end RE
section RF
open PySem PySem.W PyProof.Rows PySem.Calls PySem.Spec
open PyProof.Rows.LCg PyProof.Rows.LCt
section
variable {prog : Program} {w : World} {A : Around} {E : Value → Shared → Prop} {s : Shared} {h₀ : Heap} {L : Addr} {m : Str → Option Value} {env : Env} {news : List (Addr × Obj)}
/-- dicts with int keys on the ledger -/
theorem in_held {H : Addr} {o : Obj} {kvs : List (Int × Value)} {c : Int} {t : Tok} {Q : Value → Shared → Prop} (N : News h₀ L s.heap news) (hm : (H, o) ∈ news) (hd : o.IsDictOf (intKind prog w) kvs) (lo : (H == sysModules) = false)
    (h : ∀ tk, Q (.bool (valueAt kvs c).isSome) { s with toks := tk }) : wpAny (model prog w) A (compareOp .In (.int c t) (.ref H)) Q E s :=
  wpAny_in_of (knd := intKind prog w) (intKind_is prog w c t) lo (Heap.DictOf.mapOf (Heap.dictOf_iff.mpr ⟨o, (N _ hm).1, hd⟩)) (h _)
theorem get_held {value slice : Expr} {H : Addr} {o : Obj} {kvs : List (Int × Value)} {c : Int} {t : Tok} {v : Value} {Q : Value → Shared → Prop} (N : News h₀ L s.heap news) (hm : (H, o) ∈ news) (hd : o.IsDictOf (intKind prog w) kvs) (hv : valueAt kvs c = some v)
    (h : ∀ tk, Q v { s with toks := tk })
    (hs : subscripted slice false (.ref H) (.int c t) = operate [.ref H, .int c t] (getItem (.ref H) (.int c t)) := by with_unfolding_all rfl) : wpAny (model prog w) A (subscriptTail value slice (.ref H) (.int c t)) Q E s := by
  have hM := Heap.DictOf.mapOf (Heap.dictOf_iff.mpr ⟨o, (N _ hm).1, hd⟩)
  exact tail_any hM.typeIs slot_dict_getitem.lookup (wpAny_getItem_of (intKind_is prog w c t) hM hv (h _)) hs
theorem set_held {H : Addr} {o : Obj} {g : Obj → List (Addr × Obj)} {c : Int} {t : Tok} {v : Value} {kvs : List (Int × Value)} {Q : Unit → Shared → Prop}
    (F : Fr h₀ L s.heap m) (N : News h₀ L s.heap news) (U : UpdF H o news g) (hd : o.IsDictOf (intKind prog w) kvs) (hsz : kvs.length ≤ 100000)
    (h : ∀ h' o' tk, Fr h₀ L h' m → News h₀ L h' (g o') → o'.IsDictOf (intKind prog w) (stored kvs c v) → Q () { s with heap := h', toks := tk }) :
    wpAny (model prog w) A (setItem (.ref H) (.int c t) v) Q E s := by
  obtain ⟨pre, post, rfl, eg, ha, hb⟩ := U.split
  have hm := N (H, o) (List.mem_append_right _ (.head _))
  refine wpAny_setItem_pairs (knd := intKind prog w) (hsz := by rw [sizeLine_eq]; omega) (intKind_is _ _ _ _) (Heap.dictOf_iff.mpr ⟨o, hm.1, hd⟩) fun h' hmm hs => ?_
  obtain ⟨o', ho', hd'⟩ := Heap.dictOf_iff.mp hmm
  refine h h' o' _ (F.change hs hm.2.1 hm.2.2) ?_ hd'
  rw [eg]
  exact news_set N ha hb hs ho'
theorem held_ne {H b : Addr} {o : Obj} {kvs : List (Int × Value)} {Q : Value → Shared → Prop} (N : News h₀ L s.heap news) (hm : (H, o) ∈ news) (hd : o.IsDictOf (intKind prog w) kvs) (lo : (H == sysModules) = false) (hb : RowAt prog w s.heap b []) (hu : A.units < cLine)
    (h : Q (.bool (decide (kvs ≠ []))) s) : wpAny (model prog w) A (compareOp .NotEq (.ref H) (.ref b)) Q E s := by
  obtain ⟨lb, kb, db, yb⟩ := id hb
  obtain rfl : kb = [] := by cases yb; rfl
  refine keq_ne (r := true) lo lb (Heap.dictOf_iff.mpr ⟨o, (N _ hm).1, hd⟩) db hu (fun e => ?_) ?_
  · have : kvs = [] := List.length_eq_zero_iff.mp e
    subst this; exact .nil
  · cases kvs with
    | nil => exact h
    | cons p r => exact h
/-- the extremes of a dict's keys -/
theorem keys_min {d : Addr} {kvs : List (Int × Value)} {Q : Value → Shared → Prop} (hh : A.handled = none) (F : Fr h₀ L s.heap m) (N : News h₀ L s.heap news) (lo : (d == sysModules) = false) (hD : s.heap.DictOf (intKind prog w) d kvs) (hne : 0 < kvs.length)
    (h : ∀ h' M t tk, Fr h₀ L h' m → News h₀ L h' news → M ∈ kvs.map (·.1) → (∀ a ∈ kvs.map (·.1), M ≤ a) → Q (.int M t) { s with heap := h', toks := tk }) : wpAny (model prog w) A (call (.builtin "min") [.ref d]) Q E s := by
  obtain ⟨ep, hat⟩ := hD.dictAt
  have hlt : d < s.heap.objs.size := by obtain ⟨o, _, ho, _⟩ := hat; exact Heap.lt_size ho
  refine call_min_walk (wpAny_pyIter_dict lo hat ?_)
  refine ⟨_, _, _, _, _, _, _, rfl, Walks.dictKeys (A := A.in1) hh s.heap.objs.size d (Nat.ne_of_lt hlt) kvs ep, ⟨⟨_, Heap.get?_push_size _ rfl, rfl, rfl⟩, hat.push _⟩, fun b hb => ?_, hne, CmpOf.ints_lt (fun i => (kvs.getD i (0, .none)).1) (fun i v => ?_), fun v h' tk hP hk => ?_⟩
  · show b < (s.heap.push _).objs.size
    rw [Heap.size_push]
    rcases List.mem_cons.mp hb with rfl | hb
    · exact Nat.lt_succ_self _
    · rw [List.mem_singleton.mp hb]; exact Nat.lt_succ_of_lt hlt
  · rintro ⟨k, x, e, hk⟩
    obtain ⟨t, rfl⟩ := Value.isInt_shape hk
    exact ⟨t, by simp [List.getD_eq_getElem?_getD, e]⟩
  · obtain ⟨k, x, e, hkk⟩ := hP
    obtain ⟨t, rfl⟩ := Value.isInt_shape hkk
    obtain ⟨q1, q2⟩ := argBest_lt (fun i => (kvs.getD i (0, .none)).1) (kvs.length - 1)
    have kk : ∀ b o, s.heap.get? b = some o → h'.get? b = some o := fun b o e => hk b o (by simpa using Nat.ne_of_lt (Heap.lt_size e)) (Heap.get?_push_of_some _ e)
    have ek : (kvs.getD (argBest (fun i j => decide ((kvs.getD i (0, .none)).1 < (kvs.getD j (0, .none)).1)) (kvs.length - 1)) (0, .none)).1 = k := by rw [List.getD_eq_getElem?_getD, e]; rfl
    refine h h' k t tk (F.keeps kk) (N.grown kk) (List.mem_map.mpr ⟨_, List.mem_of_getElem? e, rfl⟩) fun a ha => ?_
    obtain ⟨p, hp, rfl⟩ := List.mem_map.mp ha
    obtain ⟨j, hj, rfl⟩ := List.mem_iff_getElem.mp hp
    have := q2 j (by omega)
    rw [ek, List.getD_eq_getElem?_getD, List.getElem?_eq_getElem hj] at this
    exact this
theorem keys_max {d : Addr} {kvs : List (Int × Value)} {Q : Value → Shared → Prop} (hh : A.handled = none) (F : Fr h₀ L s.heap m) (N : News h₀ L s.heap news) (lo : (d == sysModules) = false) (hD : s.heap.DictOf (intKind prog w) d kvs) (hne : 0 < kvs.length)
    (h : ∀ h' M t tk, Fr h₀ L h' m → News h₀ L h' news → M ∈ kvs.map (·.1) → (∀ a ∈ kvs.map (·.1), a ≤ M) → Q (.int M t) { s with heap := h', toks := tk }) : wpAny (model prog w) A (call (.builtin "max") [.ref d]) Q E s := by
  obtain ⟨ep, hat⟩ := hD.dictAt
  have hlt : d < s.heap.objs.size := by obtain ⟨o, _, ho, _⟩ := hat; exact Heap.lt_size ho
  refine call_max_walk (wpAny_pyIter_dict lo hat ?_)
  refine ⟨_, _, _, _, _, _, _, rfl, Walks.dictKeys (A := A.in1) hh s.heap.objs.size d (Nat.ne_of_lt hlt) kvs ep, ⟨⟨_, Heap.get?_push_size _ rfl, rfl, rfl⟩, hat.push _⟩, fun b hb => ?_, hne, CmpOf.ints_gt (fun i => (kvs.getD i (0, .none)).1) (fun i v => ?_), fun v h' tk hP hk => ?_⟩
  · show b < (s.heap.push _).objs.size
    rw [Heap.size_push]
    rcases List.mem_cons.mp hb with rfl | hb
    · exact Nat.lt_succ_self _
    · rw [List.mem_singleton.mp hb]; exact Nat.lt_succ_of_lt hlt
  · rintro ⟨k, x, e, hk⟩
    obtain ⟨t, rfl⟩ := Value.isInt_shape hk
    exact ⟨t, by simp [List.getD_eq_getElem?_getD, e]⟩
  · obtain ⟨k, x, e, hkk⟩ := hP
    obtain ⟨t, rfl⟩ := Value.isInt_shape hkk
    obtain ⟨q1, q2⟩ := argBest_gt (fun i => (kvs.getD i (0, .none)).1) (kvs.length - 1)
    have kk : ∀ b o, s.heap.get? b = some o → h'.get? b = some o := fun b o e => hk b o (by simpa using Nat.ne_of_lt (Heap.lt_size e)) (Heap.get?_push_of_some _ e)
    have ek : (kvs.getD (argBest (fun i j => decide ((kvs.getD i (0, .none)).1 > (kvs.getD j (0, .none)).1)) (kvs.length - 1)) (0, .none)).1 = k := by rw [List.getD_eq_getElem?_getD, e]; rfl
    refine h h' k t tk (F.keeps kk) (N.grown kk) (List.mem_map.mpr ⟨_, List.mem_of_getElem? e, rfl⟩) fun a ha => ?_
    obtain ⟨p, hp, rfl⟩ := List.mem_map.mp ha
    obtain ⟨j, hj, rfl⟩ := List.mem_iff_getElem.mp hp
    have := q2 j (by omega)
    rw [ek, List.getD_eq_getElem?_getD, List.getElem?_eq_getElem hj] at this
    exact this
/-- a comprehension with a test over a dict of the base -/
noncomputable def DkAt (prog : Program) (w : World) (A : Around) (h₀ : Heap) (L : Addr) (m : Str → Option Value) (env : Env) (ct elt : Expr) (x : Str) (scope : Scope) (cl : List (Str × Addr)) (Q : Value → Shared → Prop) (xv : Value) (s₁ : Shared) : Prop :=
  ∃ d row news, xv = .ref d ∧ A.handled = none ∧ Fr h₀ L s₁.heap m ∧ News h₀ L s₁.heap news ∧ RowAt prog w h₀ d row ∧ row.length ≤ sizeLine ∧ ∃ J : Nat → List Value → List (Addr × Obj) → Prop, J 0 [] news ∧
    (∀ g i k t ys nw I oI C oC D m₂ h tk (E' : Value → Shared → Prop), (row.map (·.1))[i]? = some k → J i ys nw → NsObj oC m₂ → m₂ x = some (.int k t) → Fr h₀ L h m → News h₀ L h ((I, oI) :: (C, oC) :: (D, lst ys) :: nw) → Off3 I C D nw → ((@Ne Nat I C) ∧ (@Ne Nat I D) ∧ (@Ne Nat C D)) →
      wpAny (model prog w) A (isTrue ct (compEnvC scope cl C env) (eval ct (compEnvC scope cl C env))) (fun ok s' => if ok = true then
        wpAny (model prog w) A (eval elt (compEnvC scope cl C env)) (fun y s₂ => Stop (CompEnd h₀ L m { ({ s₁ with heap := g } : Shared) with heap := h, toks := tk } I oI C oC D (lst ys) (fun _ => True) (fun y nw' => J (i + 1) (ys ++ [y]) nw') y s₂)) E' s'
        else Stop (CompEnd h₀ L m { ({ s₁ with heap := g } : Shared) with heap := h, toks := tk } I oI C oC D (lst ys) (fun _ => True) (fun _ nw' => J (i + 1) ys nw') Value.none s')) E' { ({ s₁ with heap := g } : Shared) with heap := h, toks := tk }) ∧
    ∀ g ys nw, J row.length ys nw → FinE h₀ L m { s₁ with heap := g } Q ys nw
theorem dict_comp {ct elt iter : Expr} {x : Str} {px : Pos} {scope : Scope} {cl : List (Str × Addr)} {pos : Pos} {Q : Value → Shared → Prop} (_F₀ : Fr h₀ L s.heap m)
    (hclos : closureFor scope env = pure cl) (hcell : ∀ y ∈ scope.names, y.2 ≠ .cell) (hkind : scope.kind = .function)
    (hnames : ∀ y ∈ scope.names, y.2 = .local → scope.names.lookup y.1 = some .local) (hx : scope.names.lookup x = some .local)
    (h : wpAny (model prog w) A (eval iter env) (fun xv s₁ => Stop (DkAt prog w A h₀ L m env ct elt x scope cl Q xv s₁)) E s)
    (hs : ∀ x, foldedSetIterable iter env x = pure x := by intro _; rfl) :
    wpAny (model prog w) A (eval (.ListComp elt [⟨.Name x px, iter, [ct], 0⟩] scope pos) env) Q E s := by
  rw [eval_ListComp]
  refine wpAny_comprehension_free (use := none) rfl hs hclos hkind hnames (wpAny_mono h (fun xv s₁ h₁ => ?_) fun _ _ e => e)
  refine hide ?_
  intro P ret1
  obtain ⟨d, row, news, rfl, hh, F, N, R, hsz, J, h0, turn, fin⟩ := h₁
  obtain ⟨lo, kvs, hD, hv⟩ := id R
  have hks := hv.keys
  have hkl := hv.length
  obtain ⟨ep, hat₀⟩ := hD.dictAt
  refine ret1 ?_
  clear ret1 P
  have hat : s₁.heap.DictAt (intKind prog w) d kvs ep := hat₀.at' fun o e => F.keep _ o e
  have hlt : d < s₁.heap.objs.size := by obtain ⟨o, _, ho, _⟩ := hat; exact Heap.lt_size ho
  refine wpAny_pyIter_dict lo hat ?_
  have up : ∀ b o, s₁.heap.get? b = some o → (s₁.heap.push { cls := .type "dict_keyiterator", data := .fields #[.ref d, .int 0 0, .int kvs.length 0, .int ep 0] }).get? b = some o := fun b o e => Heap.get?_push_of_some _ e
  have rest : ∀ g (j i : Nat) (ys : List Value) (nw : List (Addr × Obj)), i + j = kvs.length → J i ys nw → CompRestT prog w A h₀ L m env ct elt x scope cl { s₁ with heap := g } (fun _ => True) (fun i v => ∃ k x, kvs[i]? = some (k, x) ∧ (intKind prog w).is k v = true) (FinE h₀ L m { s₁ with heap := g } Q) j i ys nw := by
    intro g j
    induction j with
    | zero =>
      intro i ys nw hi hJ
      have : i = row.length := by omega
      subst this
      exact CompRestT.zero (fin g ys nw hJ)
    | succ j ih =>
      intro i ys nw hi hJ
      refine CompRestT.succ fun v I oI C oC D m₂ h tk E' hv hC hx F N off ne => ?_
      refine hide ?_
      intro P ret1
      obtain ⟨k, y, e, hk⟩ := hv
      obtain ⟨t, rfl⟩ := Value.isInt_shape hk
      refine ret1 ?_
      clear ret1 P
      have ek : (row.map (·.1))[i]? = some k := by rw [← hks, List.getElem?_map, e]; rfl
      refine wpAny_mono (turn g i k t ys nw I oI C oC D m₂ h tk E' ek hJ hC hx F N off ne) (fun ok s₂ hq => ?_) fun _ _ e => e
      cases ok with
      | true =>
        simp only [if_true] at hq ⊢
        refine wpAny_mono hq (fun y s₃ hr => ?_) fun _ _ e => e
        obtain ⟨h', tk', nw', e1, F', N', off', hS, hn⟩ := hr
        exact ⟨h', tk', nw', e1, F', N', off', hS, ih (i + 1) _ nw' (by omega) hn⟩
      | false =>
        simp only [Bool.false_eq_true, if_false] at hq ⊢
        obtain ⟨h', tk', nw', e1, F', N', off', hS, hn⟩ := hq
        exact ⟨h', tk', nw', e1, F', N', off', hS, ih (i + 1) _ nw' (by omega) hn⟩
  refine block_T (S := fun _ => True) (Walks.dictKeys (A := A) (knd := intKind prog w) hh s₁.heap.objs.size d (Nat.ne_of_lt hlt) kvs ep) (by omega) (fun i h st => by obtain ⟨o, e, _⟩ := st.1; exact ⟨o, e⟩)
    (fun i h h' o nw st e e' k _ _ => ⟨by obtain ⟨o', q, r⟩ := st.1; rw [e] at q; cases q; exact ⟨o, e', r⟩, hat₀.at' fun o e => k _ o e⟩) hcell hkind hx ⟨⟨_, Heap.get?_push_size _ rfl, rfl, rfl⟩, hat.push _⟩ (fun b hb => ?_)
    (F.keeps up) (N.grown up) (Nat.ne_of_lt F.ns.lt) (next_is_new F) (fun p hp => Nat.ne_of_lt (Heap.lt_size (N p hp).1)) trivial (rest _ _ _ _ _ (by omega) h0) ?_
  · show b < (s₁.heap.push _).objs.size
    rw [Heap.size_push]
    rcases List.mem_cons.mp hb with rfl | hb
    · exact Nat.lt_succ_self _
    · rw [List.mem_singleton.mp hb]; exact Nat.lt_succ_of_lt hlt
  · intro D C h tk m' ys news' F' N' o1 hn hC₀ hD₀ hCL hDL hCD offC fin
    refine ⟨m', hn, fun h'' hs'' => fin D h'' tk (F'.change hs'' hCL hC₀) (fun p hp => ?_) o1⟩
    refine ⟨hs''.extBut _ _ ?_ (N' p hp).1, (N' p hp).2⟩
    rcases List.mem_cons.mp hp with rfl | hp
    · exact Ne.symm hCD
    · exact offC p hp
/-- a dict of the base as the loop's source -/
theorem loop_dict {x : Str} {body : List Stmt} {Q : Flow → Shared → Prop} {d : Addr} {row : List (Int × Int)}
    (hh : A.handled = none) (F : Fr h₀ env.locals s.heap m) (N : News h₀ env.locals s.heap news) (R : RowAt prog w h₀ d row)
    (J : Nat → (Str → Option Value) → List (Addr × Obj) → Prop) (h0 : J 0 m news)
    (step : ∀ i k t m₁ news₁ I oI h₁ tk₁, (row.map (·.1))[i]? = some k → J i m₁ news₁ → (∀ p ∈ news₁, p.1 ≠ I) → Fr h₀ env.locals h₁ (fun y => if y = x then some (.int k t) else m₁ y) → News h₀ env.locals h₁ ((I, oI) :: news₁) →
      wpAny (model prog w) A (execs body env) (fun f s₂ => Stop (LpEnd h₀ env.locals I oI (J (i + 1)) { s with heap := h₁, toks := tk₁ } Q f s₂)) E { s with heap := h₁, toks := tk₁ })
    (done : ∀ h' tk m' news', Fr h₀ env.locals h' m' → News h₀ env.locals h' news' → J row.length m' news' → Q .next { s with heap := h', toks := tk }) :
    wpAny (model prog w) A (pyIter (.ref d)) (fun it s₂ => LoopAtV prog w A h₀ env x body Q E it s₂) E s := by
  obtain ⟨lo, kvs, hD, hv⟩ := id R
  have hks := hv.keys
  have hkl := hv.length
  obtain ⟨ep, hat₀⟩ := hD.dictAt
  have hat : s.heap.DictAt (intKind prog w) d kvs ep := hat₀.at' fun o e => F.keep _ o e
  obtain ⟨ol, _, hol, _⟩ := id hat₀
  have hlt : d < h₀.objs.size := Heap.lt_size hol
  have hne : d ≠ s.heap.objs.size := Nat.ne_of_lt (Nat.lt_trans (Nat.lt_of_lt_of_le hlt F.above) F.ns.lt)
  rw [← hkl] at done
  refine loop_gen F N J h0 (fun P => wpAny_pyIter_dict lo hat) (Walks.dictKeys (A := A) (knd := intKind prog w) hh s.heap.objs.size d hne kvs ep) ⟨⟨_, Heap.get?_push_size _ rfl, rfl, rfl⟩, hat.push _⟩ (fun i h st => ⟨_, st.1.choose_spec.1⟩) (fun b q => .inl ⟨ol, List.mem_singleton.mp q ▸ hol⟩)
    (fun i v m₁ news₁ I oI h₁ tk₁ _ hv => ?_) done
  obtain ⟨k, y, e, hk⟩ := hv
  obtain ⟨t, rfl⟩ := Value.isInt_shape hk
  exact step i k t m₁ news₁ I oI h₁ tk₁ (by rw [← hks, List.getElem?_map, e]; rfl)
end

end RF
section RG
open PySem PySem.W PyProof.Rows PySem.Calls PySem.Spec
/-- the comb as a partial function -/
noncomputable def combF (ts cs : List Int) (c : Int) : Option (Int × Int) := if 0 ≤ c ∧ c < cs.length ∧ cs.getD c.toNat 0 ≠ 0 then some (cs.getD c.toNat 0, ts.getD c.toNat 0) else none
theorem free_comb {ts cs : List Int} {c : Int} (h : 0 ≤ c) : freeB cs c = (combF ts cs c).isNone := by
  unfold freeB combF
  by_cases h1 : (cs.length : Int) ≤ c
  · rw [decide_eq_true h1, Bool.true_or, if_neg (fun q => absurd q.2.1 (Int.not_lt.mpr h1))]; rfl
  · rw [decide_eq_false h1, Bool.false_or]
    by_cases h2 : cs.getD c.toNat 0 = 0
    · rw [decide_eq_true h2, if_neg (fun q => q.2.2 h2)]; rfl
    · rw [decide_eq_false h2, if_pos ⟨h, by omega, h2⟩]; rfl
theorem fits_comb {ts cs cols : List Int} {b : Int} (h : ∀ c ∈ cols, 0 ≤ b + c) : fitsB cs cols b = cols.all fun c => (combF ts cs (b + c)).isNone := by
  unfold fitsB
  rw [Bool.eq_iff_iff, List.all_eq_true, List.all_eq_true]
  exact ⟨fun q c hc => by rw [← free_comb (h c hc)]; exact q c hc, fun q c hc => by rw [free_comb (ts := ts) (h c hc)]; exact q c hc⟩
theorem all_perm {α : Type} {p : α → Bool} {l l' : List α} (h : l.Perm l') : l.all p = l'.all p := by
  rw [Bool.eq_iff_iff, List.all_eq_true, List.all_eq_true]
  exact ⟨fun q c hc => q c (h.symm.subset hc), fun q c hc => q c (h.subset hc)⟩
theorem sets_get {b : Int} {f : Int → Int} : ∀ (cols l : List Int), (∀ c ∈ cols, 0 ≤ b + c ∧ b + c < l.length) → ∀ j : Nat, (setsF l b f cols).getD j 0 = if ((j : Int) - b) ∈ cols then f ((j : Int) - b) else l.getD j 0
  | [], l, _, j => by simp [setsF]
  | c :: cols, l, h, j => by
    have ih := sets_get (f := f) cols (l.set (b + c).toNat (f c)) (fun x hx => by rw [List.length_set]; exact h x (.tail _ hx)) j
    have e : setsF l b f (c :: cols) = setsF (l.set (b + c).toNat (f c)) b f cols := rfl
    rw [e, ih]
    obtain ⟨h1, h2⟩ := h c (.head _)
    by_cases q : ((j : Int) - b) ∈ cols
    · rw [if_pos q, if_pos (.tail _ q)]
    · rw [if_neg q]
      by_cases q2 : (j : Int) - b = c
      · have ej : j = (b + c).toNat := by omega
        rw [if_pos (by rw [q2]; exact .head _), q2, List.getD_eq_getElem?_getD, ej, List.getElem?_set_self (by omega)]
        rfl
      · rw [if_neg (fun z => by rcases List.mem_cons.mp z with z | z; exact q2 z; exact q z), List.getD_eq_getElem?_getD, List.getElem?_set_ne (by omega), ← List.getD_eq_getElem?_getD]
theorem pad_get {l : List Int} {n j : Nat} : (l ++ List.replicate n 0).getD j 0 = l.getD j 0 := by
  rw [List.getD_eq_getElem?_getD, List.getD_eq_getElem?_getD]
  rcases Nat.lt_or_ge j l.length with h | h
  · rw [List.getElem?_append_left h]
  · rw [List.getElem?_append_right h, List.getElem?_eq_none h]
    rcases Nat.lt_or_ge (j - l.length) n with q | q
    · rw [List.getElem?_replicate_of_lt q]; rfl
    · rw [List.getElem?_eq_none (by simpa using q)]
/-- what a row laid into the comb turns -/
theorem put_comb {row : List (Int × Int)} {ts cs : List Int} {o : Int} (htc : ts.length = cs.length) (ho : o + 1 ≠ 0) (c : Int) :
    combF (putT row ts cs) (putC o row cs) c = if c - putB row cs ∈ row.map (·.1) then some (o + 1, lookD row (c - putB row cs)) else combF ts cs c := by
  have hs := sortK_sorted (row.map (·.1))
  have hp := sortK_perm (row.map (·.1))
  have hm : ∀ k, k ∈ sortK (row.map (·.1)) ↔ k ∈ row.map (·.1) := fun k => ⟨fun q => hp.subset q, fun q => hp.symm.subset q⟩
  have hlast := sorted_last hs
  have hb := firstF_bounds (cs := cs) (sorted_head hs)
  have hpos : ∀ k ∈ sortK (row.map (·.1)), 0 ≤ putB row cs + k := fun k hk' => by
    have := sorted_head hs k hk'
    unfold putB; omega
  have hlen : ∀ k ∈ sortK (row.map (·.1)), putB row cs + k < (cs.length + putN row cs : Nat) := fun k hk' => by
    have := hlast k hk'
    unfold putN lastF
    omega
  have lT : (ts ++ List.replicate (putN row cs) 0).length = cs.length + putN row cs := by simp [htc]
  have lC : (cs ++ List.replicate (putN row cs) 0).length = cs.length + putN row cs := by simp
  have gC : ∀ j : Nat, (putC o row cs).getD j 0 = if ((j : Int) - putB row cs) ∈ row.map (·.1) then o + 1 else cs.getD j 0 := fun j => by
    unfold putC
    rw [sets_get _ _ (fun k hk' => ⟨hpos k hk', by rw [lC]; exact hlen k hk'⟩) j, pad_get]
    by_cases q : ((j : Int) - putB row cs) ∈ row.map (·.1)
    · rw [if_pos q, if_pos ((hm _).mpr q)]
    · rw [if_neg q, if_neg (fun z => q ((hm _).mp z))]
  have gT : ∀ j : Nat, (putT row ts cs).getD j 0 = if ((j : Int) - putB row cs) ∈ row.map (·.1) then lookD row ((j : Int) - putB row cs) else ts.getD j 0 := fun j => by
    unfold putT
    rw [sets_get _ _ (fun k hk' => ⟨hpos k hk', by rw [lT]; exact hlen k hk'⟩) j, pad_get]
    by_cases q : ((j : Int) - putB row cs) ∈ row.map (·.1)
    · rw [if_pos q, if_pos ((hm _).mpr q)]
    · rw [if_neg q, if_neg (fun z => q ((hm _).mp z))]
  have ll : (putC o row cs).length = cs.length + putN row cs := by unfold putC; rw [setsF_length, lC]
  unfold combF
  rw [ll]
  by_cases h0 : 0 ≤ c
  · have ec : ((c.toNat : Nat) : Int) = c := by omega
    rw [gC, gT, ec]
    by_cases q : c - putB row cs ∈ row.map (·.1)
    · have := hlen _ ((hm _).mpr q)
      rw [if_pos q, if_pos q, if_pos q, if_pos ⟨h0, by omega, ho⟩]
    · rw [if_neg q, if_neg q, if_neg q]
      by_cases h1 : c < cs.length
      · by_cases h2 : cs.getD c.toNat 0 ≠ 0
        · rw [if_pos ⟨h0, by omega, h2⟩, if_pos ⟨h0, h1, h2⟩]
        · rw [if_neg (fun z => h2 z.2.2), if_neg (fun z => h2 z.2.2)]
      · have h2 : cs.getD c.toNat 0 = 0 := by rw [List.getD_eq_getElem?_getD, List.getElem?_eq_none (by omega)]; rfl
        rw [if_neg (fun z => z.2.2 h2), if_neg (fun z => z.2.2 h2)]
  · have q : c - putB row cs ∉ row.map (·.1) := fun z => by
      have := hpos _ ((hm _).mpr z)
      omega
    rw [if_neg q, if_neg (fun z => h0 z.1), if_neg (fun z => h0 z.1)]
noncomputable def lastOk (cs : List Int) : Prop := cs = [] ∨ cs.getD (cs.length - 1) 0 ≠ 0
theorem lastF_mem {cols : List Int} (h : cols ≠ []) : lastF cols ∈ cols := by
  have hl : 0 < cols.length := List.length_pos_iff.mpr h
  unfold lastF
  rw [List.getD_eq_getElem?_getD, List.getElem?_eq_getElem (by omega : cols.length - 1 < cols.length)]
  exact List.getElem_mem _
theorem lin_put {a c : Nat} {p : Int} (hN : a = (p + 1 - c).toNat) (hz : a ≠ 0) (hbl : 0 ≤ p) : c + a - 1 = p.toNat := by omega
theorem put_last {row : List (Int × Int)} {ts cs : List Int} {o : Int} (hne : row ≠ []) (htc : ts.length = cs.length) (ho : o + 1 ≠ 0) (hl : lastOk cs) : lastOk (putC o row cs) := by
  have hp := sortK_perm (row.map (·.1))
  have hs := sortK_sorted (row.map (·.1))
  have hne' : sortK (row.map (·.1)) ≠ [] := fun e => by
    have := hp.length_eq
    rw [e] at this
    exact hne (List.length_eq_zero_iff.mp (by simpa using this.symm))
  have hlm := lastF_mem hne'
  have hb := firstF_bounds (cs := cs) (sorted_head hs)
  have h0 := sorted_head hs _ hlm
  have ll : (putC o row cs).length = cs.length + putN row cs := by unfold putC; rw [setsF_length]; simp
  have key : ∀ c : Int, combF (putT row ts cs) (putC o row cs) c ≠ none → (putC o row cs).getD c.toNat 0 ≠ 0 := fun c hc => by
    unfold combF at hc
    by_cases q : 0 ≤ c ∧ c < (putC o row cs).length ∧ (putC o row cs).getD c.toNat 0 ≠ 0
    · exact q.2.2
    · rw [if_neg q] at hc; exact absurd rfl hc
  have hN : putN row cs = (putB row cs + lastF (sortK (row.map (·.1))) + 1 - cs.length).toNat := rfl
  have hbl : 0 ≤ putB row cs + lastF (sortK (row.map (·.1))) := by unfold putB; omega
  right
  rw [ll]
  by_cases hz : putN row cs = 0
  · have hcs : 0 < cs.length := by omega
    have q : cs.getD (cs.length - 1) 0 ≠ 0 := by
      rcases hl with rfl | q
      · simp at hcs
      · exact q
    have := key ((cs.length - 1 : Nat) : Int) (by
      rw [put_comb htc ho]
      by_cases z : ((cs.length - 1 : Nat) : Int) - putB row cs ∈ row.map (·.1)
      · rw [if_pos z]; exact fun e => nomatch e
      · rw [if_neg z]
        unfold combF
        rw [Int.toNat_natCast, if_pos ⟨by omega, by omega, q⟩]
        exact fun e => nomatch e)
    rw [Int.toNat_natCast] at this
    rw [hz]; exact this
  · have := key (putB row cs + lastF (sortK (row.map (·.1)))) (by
      rw [put_comb htc ho, if_pos (by rw [show putB row cs + lastF (sortK (row.map (·.1))) - putB row cs = lastF (sortK (row.map (·.1))) by omega]; exact hp.subset hlm)]
      exact fun e => nomatch e)
    have e : cs.length + putN row cs - 1 = (putB row cs + lastF (sortK (row.map (·.1)))).toNat := lin_put hN hz hbl
    rw [e]; exact this
/-- a dict that holds the comb -/
noncomputable def tup2 (p : Int × Int) (t u : Tok) (n : Nat) : Obj := { cls := Value.type "tuple", data := Data.seq #[Value.int p.1 t, Value.int p.2 u] n }
noncomputable def HeldIs (l : List (Addr × Obj)) (kvs : List (Int × Value)) (φ : Int → Option (Int × Int)) : Prop :=
  ∀ c, (φ c = none → valueAt kvs c = none) ∧ ∀ p, φ c = some p → ∃ a n t u, valueAt kvs c = some (.ref a) ∧ (a, tup2 p t u n) ∈ l
theorem HeldIs.mono {l l' : List (Addr × Obj)} {kvs : List (Int × Value)} {φ : Int → Option (Int × Int)} (x : HeldIs l kvs φ) (h : ∀ p ∈ l, p ∈ l') : HeldIs l' kvs φ :=
  fun c => ⟨(x c).1, fun p hp => let ⟨a, n, t, u, e, m⟩ := (x c).2 p hp; ⟨a, n, t, u, e, h _ m⟩⟩
theorem HeldIs.congr {l : List (Addr × Obj)} {kvs : List (Int × Value)} {φ ψ : Int → Option (Int × Int)} (x : HeldIs l kvs φ) (h : ∀ c, φ c = ψ c) : HeldIs l kvs ψ := by
  rw [← funext h]; exact x
theorem va_map (k : Int) (v : Value) (x : Int) : ∀ kvs : List (Int × Value), valueAt (kvs.map fun kv => if kv.1 = k then (kv.1, v) else kv) x = if x = k then (valueAt kvs k).map (fun _ => v) else valueAt kvs x
  | [] => by simp [valueAt]
  | (k', v') :: r => by
    have ih := va_map k v x r
    unfold valueAt at *
    rw [List.map_cons, List.find?_cons, List.find?_cons, List.find?_cons]
    by_cases e : k' = k
    · subst e
      by_cases e2 : x = k'
      · subst e2; simp
      · simp only [Ne.symm e2, decide_false, if_true, if_neg e2]
        rw [ih, if_neg e2]
    · by_cases e2 : k' = x
      · subst e2; simp [e]
      · simp only [e, if_false, e2, decide_false]
        exact ih
theorem valueAt_stored (kvs : List (Int × Value)) (k : Int) (v : Value) (x : Int) : valueAt (stored kvs k v) x = if x = k then some v else valueAt kvs x := by
  unfold stored
  by_cases h : (kvs.any fun kv => decide (kv.1 = k)) = true
  · rw [if_pos h, va_map]
    have : (valueAt kvs k).isSome = true := by unfold valueAt; rw [Option.isSome_map, List.find?_isSome]; simpa using h
    obtain ⟨y, hy⟩ := Option.isSome_iff_exists.mp this
    rw [hy]; rfl
  · rw [if_neg h]
    have hn : valueAt kvs k = none := by
      unfold valueAt
      rw [Option.map_eq_none_iff, List.find?_eq_none]
      intro p hp q
      exact h (List.any_eq_true.mpr ⟨p, hp, by simpa using q⟩)
    unfold valueAt at *
    rw [List.find?_append]
    by_cases e : x = k
    · subst e
      rw [if_pos rfl]
      rw [Option.map_eq_none_iff] at hn
      rw [hn]; simp
    · rw [if_neg e]
      cases q : kvs.find? fun kv => decide (kv.1 = x) with
      | some y => rfl
      | none => simp [Ne.symm e]
theorem HeldIs.isSome {l : List (Addr × Obj)} {kvs : List (Int × Value)} {φ : Int → Option (Int × Int)} (x : HeldIs l kvs φ) (c : Int) : (valueAt kvs c).isSome = (φ c).isSome := by
  cases e : φ c with
  | none => rw [(x c).1 e]; rfl
  | some p => obtain ⟨a, n, t, u, e1, _⟩ := (x c).2 p e; rw [e1]; rfl
theorem HeldIs.store {l : List (Addr × Obj)} {kvs : List (Int × Value)} {φ : Int → Option (Int × Int)} (x : HeldIs l kvs φ) {k : Int} {a : Addr} {p : Int × Int} {t u : Tok} {n : Nat} (h : (a, tup2 p t u n) ∈ l) : HeldIs l (stored kvs k (.ref a)) (fun c => if c = k then some p else φ c) := by
  intro c
  rw [valueAt_stored]
  dsimp only
  by_cases e : c = k
  · rw [if_pos e, if_pos e]
    exact ⟨fun q => (nomatch q), fun q hq => by cases hq; exact ⟨a, n, t, u, rfl, h⟩⟩
  · rw [if_neg e, if_neg e]; exact x c
theorem min_row {prog : Program} {w : World} {A : Around} {E : Value → Shared → Prop} {s : Shared} {h₀ : Heap} {L : Addr} {m : Str → Option Value} {news : List (Addr × Obj)} {a : Addr} {row : List (Int × Int)} {Q : Value → Shared → Prop}
    (hh : A.handled = none) (F : Fr h₀ L s.heap m) (N : News h₀ L s.heap news) (R : RowAt prog w h₀ a row) (hne : row ≠ [])
    (h : ∀ h' t tk, Fr h₀ L h' m → News h₀ L h' news → Q (.int ((sortK (row.map (·.1))).getD 0 0) t) { s with heap := h', toks := tk }) : wpAny (model prog w) A (call (.builtin "min") [.ref a]) Q E s := by
  obtain ⟨lo, kvs, hD, hv⟩ := R
  have hk := hv.keys
  have hl := hv.length
  have hp := sortK_perm (row.map (·.1))
  refine keys_min hh F N lo (hD.keep F.keep) (by rw [hl]; exact List.length_pos_iff.mpr hne) fun h' M t tk F' N' hM hle => ?_
  rw [hk] at hM hle
  have e : M = (sortK (row.map (·.1))).getD 0 0 := by
    have h1 := sorted_head (sortK_sorted (row.map (·.1))) M (hp.symm.subset hM)
    have hm : (sortK (row.map (·.1))).getD 0 0 ∈ sortK (row.map (·.1)) := by
      have : 0 < (sortK (row.map (·.1))).length := by rw [hp.length_eq, List.length_map]; exact List.length_pos_iff.mpr hne
      rw [List.getD_eq_getElem?_getD, List.getElem?_eq_getElem this]
      exact List.getElem_mem _
    have h2 := hle _ (hp.subset hm)
    omega
  subst e
  exact h h' t tk F' N'
theorem filt_yes {l : List Int} {j : Nat} {c : Int} {p : Int → Bool} (h : l[j]? = some c) (hp : p c = true) : (l.take (j + 1)).filter p = (l.take j).filter p ++ [c] := by
  rw [List.take_add_one, h, List.filter_append]; simp [hp]
theorem filt_no {l : List Int} {j : Nat} {c : Int} {p : Int → Bool} (h : l[j]? = some c) (hp : p c = false) : (l.take (j + 1)).filter p = (l.take j).filter p := by
  rw [List.take_add_one, h, List.filter_append]; simp [hp]
theorem fits_filter {row : List (Int × Int)} {ts cs : List Int} {b : Int} (h : ∀ c ∈ row.map (·.1), 0 ≤ b + c) : fitsB cs (sortK (row.map (·.1))) b = decide ((row.map (·.1)).filter (fun c => (combF ts cs (b + c)).isSome) = []) := by
  rw [fits_comb (ts := ts) (fun c hc => h c ((sortK_perm _).subset hc)), all_perm (sortK_perm _)]
  rw [Bool.eq_iff_iff, List.all_eq_true, decide_eq_true_iff, List.filter_eq_nil_iff]
  refine ⟨fun q c hc => ?_, fun q c hc => ?_⟩
  · have := q c hc
    cases e : combF ts cs (b + c) with
    | none => simp
    | some y => rw [e] at this; cases this
  · have := q c hc
    cases e : combF ts cs (b + c) with
    | none => rfl
    | some y => rw [e] at this; exact absurd rfl this
noncomputable def phiF (φ : Int → Option (Int × Int)) (b o : Int) (row : List (Int × Int)) (ks : List Int) (c : Int) : Option (Int × Int) := if c - b ∈ ks then some (o, lookD row (c - b)) else φ c
theorem phi_step {φ : Int → Option (Int × Int)} {b o k : Int} {row : List (Int × Int)} {l : List Int} {j : Nat} (h : l[j]? = some k) (x : Int) : (if x = b + k then some (o, lookD row k) else phiF φ b o row (l.take j) x) = phiF φ b o row (l.take (j + 1)) x := by
  unfold phiF
  rw [List.take_add_one, h]
  by_cases e : x = b + k
  · have e2 : x - b = k := by omega
    rw [if_pos e, e2, if_pos (by simp)]
  · have e2 : x - b ≠ k := by omega
    rw [if_neg e]
    by_cases q : x - b ∈ l.take j
    · rw [if_pos q, if_pos (by simp [q])]
    · rw [if_neg q, if_neg (by simp [q, e2])]
theorem fit_hit {cs cols : List Int} {n : Nat} {b : Int} (h : fitsB cs cols b = true) : fitFrom cs cols (n + 1) b = b := by unfold fitFrom; rw [if_pos h]
theorem fit_miss {cs cols : List Int} {n : Nat} {b : Int} (h : fitsB cs cols b = false) : fitFrom cs cols (n + 1) b = fitFrom cs cols n (b + 1) := by
  conv => lhs; unfold fitFrom
  rw [if_neg (by rw [h]; decide)]
theorem upd0 (n : Str) (base : Str → Option Value) : base = fun y => if y = n then base n else base y := by
  funext y
  by_cases h : y = n
  · subst h; rw [if_pos rfl]
  · rw [if_neg h]
theorem mem_shift {α : Type} {p x y : α} {A C : List α} (h : p ∈ x :: (A ++ y :: C)) : p ∈ y :: x :: (A ++ C) := by
  simp only [List.mem_append, List.mem_cons] at *
  rcases h with h | h | h | h
  · exact .inr (.inl h)
  · exact .inr (.inr (.inl h))
  · exact .inl h
  · exact .inr (.inr (.inr h))
theorem put_zero {row : List (Int × Int)} {ts cs : List Int} {o : Int} (htc : ts.length = cs.length) (ho : o + 1 ≠ 0) (hz : ∀ c : Nat, cs.getD c 0 = 0 → ts.getD c 0 = 0) (c : Nat) (h : (putC o row cs).getD c 0 = 0) : (putT row ts cs).getD c 0 = 0 := by
  have hp := sortK_perm (row.map (·.1))
  have hs := sortK_sorted (row.map (·.1))
  have hb := firstF_bounds (cs := cs) (sorted_head hs)
  have hin : ∀ k ∈ sortK (row.map (·.1)), 0 ≤ putB row cs + k ∧ putB row cs + k < (cs.length + putN row cs : Nat) := fun k hk' => by
    have h1 := sorted_head hs k hk'
    have h2 := sorted_last hs k hk'
    unfold putN lastF
    unfold putB at *
    omega
  unfold putC at h
  unfold putT
  rw [sets_get _ _ (fun k hk' => by have := hin k hk'; simpa using this) c, pad_get] at h
  rw [sets_get _ _ (fun k hk' => by have := hin k hk'; simpa [htc] using this) c, pad_get]
  by_cases q : ((c : Int) - putB row cs) ∈ sortK (row.map (·.1))
  · rw [if_pos q] at h; exact absurd h ho
  · rw [if_neg q] at h ⊢; exact hz c h
noncomputable def pairsTo (ts cs : List Int) (j : Nat) : List (Int × Int) := (List.range j).map fun c => (cs.getD c 0, ts.getD c 0)
theorem pairsTo_succ (ts cs : List Int) (j : Nat) : pairsTo ts cs (j + 1) = pairsTo ts cs j ++ [(cs.getD j 0, ts.getD j 0)] := by unfold pairsTo; rw [List.range_succ, List.map_append]; rfl
theorem range_getD {l : List Int} {n : Nat} (h : n = l.length) : (List.range n).map (fun c => l.getD c 0) = l := by
  subst h
  apply List.ext_getElem
  · simp
  · intro i h1 h2
    simp [List.getD_eq_getElem?_getD, List.getElem?_eq_getElem h2]
theorem pairsTo_length (ts cs : List Int) (j : Nat) : (pairsTo ts cs j).length = j := by unfold pairsTo; simp
theorem pairsTo_at {ts cs : List Int} {j i : Nat} (h : i < j) : (pairsTo ts cs j).getD i (0, 0) = (cs.getD i 0, ts.getD i 0) := by
  unfold pairsTo
  rw [List.getD_eq_getElem?_getD, List.getElem?_map, List.getElem?_range h]; rfl
section
variable {prog : Program} {w : World} {A : Around} {E : Value → Shared → Prop} {s : Shared} {h₀ : Heap} {L : Addr} {m : Str → Option Value} {news : List (Addr × Obj)}
theorem in_held_t {H : Addr} {o : Obj} {kvs : List (Int × Value)} {c : Int} {t : Tok} {v : Value} {Q : Value → Shared → Prop} (N : News h₀ L s.heap news) (hm : (H, o) ∈ news) (hd : o.IsDictOf (intKind prog w) kvs) (lo : (H == sysModules) = false) (e : valueAt kvs c = some v)
    (h : ∀ tk, Q (.bool true) { s with toks := tk }) : wpAny (model prog w) A (compareOp .In (.int c t) (.ref H)) Q E s := in_held N hm hd lo (by rw [e]; exact h)
theorem in_held_f {H : Addr} {o : Obj} {kvs : List (Int × Value)} {c : Int} {t : Tok} {Q : Value → Shared → Prop} (N : News h₀ L s.heap news) (hm : (H, o) ∈ news) (hd : o.IsDictOf (intKind prog w) kvs) (lo : (H == sysModules) = false) (e : valueAt kvs c = none)
    (h : ∀ tk, Q (.bool false) { s with toks := tk }) : wpAny (model prog w) A (compareOp .In (.int c t) (.ref H)) Q E s := in_held N hm hd lo (by rw [e]; exact h)
theorem held_ne_t {H b : Addr} {o : Obj} {kvs : List (Int × Value)} {Q : Value → Shared → Prop} (N : News h₀ L s.heap news) (hm : (H, o) ∈ news) (hd : o.IsDictOf (intKind prog w) kvs) (lo : (H == sysModules) = false) (hb : RowAt prog w s.heap b []) (hu : A.units < cLine) (hk : kvs ≠ [])
    (h : Q (.bool true) s) : wpAny (model prog w) A (compareOp .NotEq (.ref H) (.ref b)) Q E s := held_ne N hm hd lo hb hu (by rw [decide_eq_true hk]; exact h)
theorem held_ne_f {H b : Addr} {o : Obj} {kvs : List (Int × Value)} {Q : Value → Shared → Prop} (N : News h₀ L s.heap news) (hm : (H, o) ∈ news) (hd : o.IsDictOf (intKind prog w) kvs) (lo : (H == sysModules) = false) (hb : RowAt prog w s.heap b []) (hu : A.units < cLine) (hk : kvs = [])
    (h : Q (.bool false) s) : wpAny (model prog w) A (compareOp .NotEq (.ref H) (.ref b)) Q E s := held_ne N hm hd lo hb hu (by rw [decide_eq_false (by simp [hk])]; exact h)
theorem va_mem {kvs : List (Int × Value)} {k : Int} (h : k ∈ kvs.map (·.1)) : valueAt kvs k ≠ none := by
  unfold valueAt
  rw [Ne, Option.map_eq_none_iff, List.find?_eq_none]
  intro q
  obtain ⟨p, hp, e⟩ := List.mem_map.mp h
  exact q p hp (by simpa using e)
theorem va_key {kvs : List (Int × Value)} {k : Int} (h : valueAt kvs k ≠ none) : k ∈ kvs.map (·.1) := by
  unfold valueAt at h
  rw [Ne, Option.map_eq_none_iff] at h
  cases e : kvs.find? fun kv => decide (kv.1 = k) with
  | none => exact absurd e h
  | some p => exact List.mem_map.mpr ⟨p, List.mem_of_find?_eq_some e, by simpa using List.find?_some e⟩
theorem max_held {H : Addr} {o : Obj} {kvs : List (Int × Value)} {l : List (Addr × Obj)} {ts cs : List Int} {Q : Value → Shared → Prop} (hh : A.handled = none) (F : Fr h₀ L s.heap m) (N : News h₀ L s.heap news) (hm : (H, o) ∈ news) (hd : o.IsDictOf (intKind prog w) kvs) (lo : (H == sysModules) = false)
    (hk : kvs ≠ []) (hHe : HeldIs l kvs (combF ts cs)) (hlo : lastOk cs) (h : ∀ h' t tk, Fr h₀ L h' m → News h₀ L h' news → Q (.int ((cs.length : Int) - 1) t) { s with heap := h', toks := tk }) :
    wpAny (model prog w) A (call (.builtin "max") [.ref H]) Q E s := by
  refine keys_max hh F N lo (Heap.dictOf_iff.mpr ⟨o, (N _ hm).1, hd⟩) (List.length_pos_iff.mpr hk) fun h' M t tk F' N' hM hle => ?_
  have hM2 := va_mem hM
  have hin : 0 ≤ M ∧ M < cs.length := by
    cases e : combF ts cs M with
    | none => exact absurd ((hHe M).1 e) hM2
    | some p =>
      unfold combF at e
      by_cases q : 0 ≤ M ∧ M < cs.length ∧ cs.getD M.toNat 0 ≠ 0
      · exact ⟨q.1, q.2.1⟩
      · rw [if_neg q] at e; cases e
  have hl : cs.getD (cs.length - 1) 0 ≠ 0 := by
    rcases hlo with rfl | q
    · simp at hin; omega
    · exact q
  have hx : ((cs.length : Int) - 1) ∈ kvs.map (·.1) := va_key fun e => by
    have e2 : combF ts cs ((cs.length : Int) - 1) = some (cs.getD ((cs.length : Int) - 1).toNat 0, ts.getD ((cs.length : Int) - 1).toNat 0) := by
      unfold combF
      rw [if_pos ⟨by omega, by omega, by rw [show ((cs.length : Int) - 1).toNat = cs.length - 1 by omega]; exact hl⟩]
    obtain ⟨_, _, _, _, e3, _⟩ := (hHe _).2 _ e2
    rw [e] at e3; cases e3
  have := hle _ hx
  have e : M = (cs.length : Int) - 1 := by omega
  subst e
  exact h h' t tk F' N'
theorem held_empty {kvs : List (Int × Value)} {l : List (Addr × Obj)} {ts cs : List Int} (hk : kvs = []) (hHe : HeldIs l kvs (combF ts cs)) (hlo : lastOk cs) : cs.length = 0 := by
  subst hk
  rcases hlo with rfl | q
  · rfl
  · rcases Nat.eq_zero_or_pos cs.length with z | z
    · exact z
    · have e2 : combF ts cs ((cs.length : Int) - 1) = some (cs.getD ((cs.length : Int) - 1).toNat 0, ts.getD ((cs.length : Int) - 1).toNat 0) := by
        unfold combF
        rw [if_pos ⟨by omega, by omega, by rw [show ((cs.length : Int) - 1).toNat = cs.length - 1 by omega]; exact q⟩]
      obtain ⟨_, _, _, _, e3, _⟩ := (hHe _).2 _ e2
      cases e3
theorem join_int {M : Model} {T : Sem Value} {Q : Value → Shared → Prop} {nw : List (Addr × Obj)} (_F : Fr h₀ L s.heap m) (n : Int) (h : wpAny M A T (fun v s' => Stop (∃ h' tk t, v = .int n t ∧ s' = { s with heap := h', toks := tk } ∧ Fr h₀ L h' m ∧ News h₀ L h' nw)) (fun _ _ => False) s)
    (k : ∀ h' tk t, Fr h₀ L h' m → News h₀ L h' nw → Q (.int n t) { s with heap := h', toks := tk }) : wpAny M A T Q E s :=
  wpAny_mono h (fun _ _ q => by obtain ⟨h', tk, t, rfl, rfl, F', N'⟩ := q; exact k h' tk t F' N') fun _ _ q => q.elim
end
theorem mem_front {α : Type} {p y : α} {A C : List α} (h : p ∈ A ++ y :: C) : p ∈ y :: (A ++ C) := by
  simp only [List.mem_append, List.mem_cons] at *
  rcases h with h | h | h
  · exact .inr (.inl h)
  · exact .inl h
  · exact .inr (.inr h)
theorem comb_none {ts cs : List Int} {j : Nat} (hj : j < cs.length) (h : combF ts cs (0 + (j : Int)) = none) : cs.getD j 0 = 0 := by
  unfold combF at h
  by_cases q : cs.getD j 0 = 0
  · exact q
  · rw [if_pos ⟨by omega, by omega, by rw [show (0 + (j : Int)).toNat = j by omega]; exact q⟩] at h; cases h
theorem comb_some {ts cs : List Int} {j : Nat} {p : Int × Int} (h : combF ts cs (0 + (j : Int)) = some p) : p = (cs.getD j 0, ts.getD j 0) := by
  unfold combF at h
  by_cases q : 0 ≤ 0 + (j : Int) ∧ 0 + (j : Int) < cs.length ∧ cs.getD (0 + (j : Int)).toNat 0 ≠ 0
  · rw [if_pos q, show (0 + (j : Int)).toNat = j by omega] at h
    exact (Option.some.inj h).symm
  · rw [if_neg q] at h; cases h
theorem take_getD {l : List Int} {j : Nat} (h : j < l.length) : l.take (j + 1) = l.take j ++ [l.getD j 0] := by
  rw [List.take_add_one, List.getElem?_eq_getElem h, List.getD_eq_getElem?_getD, List.getElem?_eq_getElem h]; rfl

end RG
section RH
open PySem PySem.W PyProof.Rows PySem.Calls PySem.Spec
theorem putR_new {row : List (Int × Int)} {k v : Int} (h : k ∉ row.map (·.1)) : putR row k v = row ++ [(k, v)] := by
  unfold putR
  rw [if_neg]
  simpa using h
theorem putAll_nodup (qs : List (Int × Int)) : ∀ row : List (Int × Int), ((row ++ qs).map (·.1)).Nodup → putAll row qs = row ++ qs := by
  induction qs with
  | nil => intro row _; simp [putAll]
  | cons q r ih =>
    intro row h
    have e : row ++ q :: r = (row ++ [q]) ++ r := by simp
    have hk : q.1 ∉ row.map (·.1) := by
      rw [List.map_append, List.map_cons] at h
      exact fun m => (List.nodup_append.mp h).2.2 _ m _ (List.mem_cons_self) rfl
    show putAll (putR row q.1 q.2) r = _
    rw [putR_new hk, e]
    exact ih _ (e ▸ h)
theorem range_ok {qs : List (Int × Int)} {n : Nat} (h : qs.map (·.1) = (List.range n).map fun (j : Nat) => (j : Int)) : putAll [] qs = qs := by
  refine putAll_nodup qs [] ?_
  rw [List.nil_append, h]
  exact List.Pairwise.map _ (fun a b hab e => hab (Int.ofNat.inj e)) (List.nodup_range (n := n))
theorem range_sorted {qs : List (Int × Int)} {n : Nat} (h : qs.map (·.1) = (List.range n).map fun (j : Nat) => (j : Int)) : (qs.map (·.1)).Pairwise (· ≤ ·) := by
  rw [h]
  exact List.Pairwise.map _ (fun a b hab => Int.ofNat_le.mpr hab) ((List.pairwise_lt_range (n := n)).imp fun q => Nat.le_of_lt q)

end RH
section RI
open PySem PySem.W PyProof.Rows PySem.Calls PySem.Spec PyProof.V PySem.SeqAt
section
variable {prog : Program} {w : World} {A : Around} {E : Value → Shared → Prop} {s : Shared}
noncomputable def dataL (ns : List Int) : PyData := .list (ns.map PyData.int)
theorem LstAt.reads {h : Heap} {a : Addr} {ns : List Int} (x : LstAt h a ns) : Reads h (.ref a) (dataL ns) [a] := by
  obtain ⟨vs, hl, hi, _⟩ := x
  exact reads_of_ints hl hi
theorem LstAt.keeps {h h' : Heap} {a : Addr} {ns : List Int} (x : LstAt h a ns) (k : ∀ b o, h.get? b = some o → h'.get? b = some o) : LstAt h' a ns := by
  obtain ⟨vs, hl, r⟩ := x
  exact ⟨vs, hl.at fun o e => k a o e, r⟩
theorem reads_lists {h : Heap} : ∀ {l : List (Addr × List Int)}, (∀ p ∈ l, LstAt h p.1 p.2) → ReadsAll h (l.map fun p => Value.ref p.1) (l.map fun p => dataL p.2) (l.map (·.1))
  | [], _ => .nil
  | p :: r, x => ReadsAll.cons (x p (.head _)).reads (reads_lists fun q hq => x q (.tail _ hq))
theorem lay_lists : ∀ l : List (List Int), PyData.canLayAll0 (l.map dataL) = true
  | [] => rfl
  | n :: r => by simp [PyData.canLayAll0, dataL, PyData.canLay0, canLayAll0_ints n, lay_lists r]
theorem depth_lists : ∀ l : List (List Int), PyData.depthAll (l.map dataL) ≤ 3
  | [] => by simp [PyData.depthAll]
  | n :: r => by
    have h1 := depth_lists r
    have h2 := PySem.W.depthAll_ints n
    simp only [List.map_cons, PyData.depthAll]; rw [show PyData.depth (dataL n) = 1 + PyData.depthAll (n.map PyData.int) from by simp [dataL, PyData.depth]; try omega]
    have h3 : PyData.depthAll (List.map dataL r) = PyData.depthAll (r.map fun n => PyData.list (n.map PyData.int)) := rfl
    omega
theorem shaped_lists (l : List (List Int)) : shaped (.list (l.map dataL)) = true := by
  have h1 := depth_lists l
  have h2 : PyData.depth (.list (l.map dataL)) ≤ 64 := by simp only [PyData.depth]; omega
  show (PyData.canLay0 (.list (l.map dataL)) && decide (PyData.depth (.list (l.map dataL)) ≤ 64)) = true
  rw [Bool.and_eq_true]
  exact ⟨by simp only [PyData.canLay0]; exact lay_lists l, decide_eq_true h2⟩
/-- two lists of lists of the same ints -/
theorem ne_lists {a b : Addr} {ea eb : Nat} {va vb : Array Value} {Q : Value → Shared → Prop} (la lb : List (Addr × List Int)) (ha : s.heap.get? a = some (listOf va ea)) (hb : s.heap.get? b = some (listOf vb eb))
    (ea' : va.toList = la.map fun p => Value.ref p.1) (eb' : vb.toList = lb.map fun p => Value.ref p.1) (xa : ∀ p ∈ la, LstAt s.heap p.1 p.2) (xb : ∀ p ∈ lb, LstAt s.heap p.1 p.2) (e : la.map (·.2) = lb.map (·.2))
    (hu : A.units + 64 < cLine) (h : Q (.bool false) s) : wpAny (model prog w) A (compareOp .NotEq (.ref a) (.ref b)) Q E s := by
  have key : ∀ l : List (Addr × List Int), (l.map fun p => dataL p.2) = (l.map (·.2)).map dataL := fun l => by rw [List.map_map]; rfl
  refine ne_dataH (reads_list_at ha rfl rfl (by rw [ea']; exact reads_lists xa)) (reads_list_at hb rfl rfl (by rw [eb']; exact reads_lists xb)) (by rw [key]; exact shaped_lists _) (by rw [key]; exact shaped_lists _) hu ?_
  have : PyData.eqv (.list (la.map fun p => dataL p.2)) (.list (lb.map fun p => dataL p.2)) = true := by
    rw [key, key, e]
    simp only [PyData.eqv]
    exact eqvAll_refl _ (lay_lists _)
  rw [this]
  exact h
structure Four (h : Heap) (a b c d : Addr) (na nb nc nd : List Int) : Prop where
  l1 : LstAt h a na
  l2 : LstAt h b nb
  l3 : LstAt h c nc
  l4 : LstAt h d nd
theorem Four.all {h : Heap} {a b c d : Addr} {na nb nc nd : List Int} (x : Four h a b c d na nb nc nd) : ∀ p ∈ [(a, na), (b, nb), (c, nc), (d, nd)], LstAt h p.1 p.2 := by
  intro p hp
  simp only [List.mem_cons, List.not_mem_nil, or_false] at hp
  rcases hp with rfl | rfl | rfl | rfl
  · exact x.l1
  · exact x.l2
  · exact x.l3
  · exact x.l4
/-- two lists of four lists of the same ints -/
theorem ne_four {h₀ : Heap} {L : Addr} {news : List (Addr × Obj)} {a b a1 a2 a3 a4 b1 b2 b3 b4 : Addr} {n1 n2 n3 n4 : List Int} {ea eb : Nat} {Q : Value → Shared → Prop} (N : News h₀ L s.heap ((b, listOf #[.ref b1, .ref b2, .ref b3, .ref b4] eb) :: (a, listOf #[.ref a1, .ref a2, .ref a3, .ref a4] ea) :: news))
    (xa : Four s.heap a1 a2 a3 a4 n1 n2 n3 n4) (xb : Four s.heap b1 b2 b3 b4 n1 n2 n3 n4) (hu : A.units + 64 < cLine) (h : News h₀ L s.heap news → Q (.bool false) s) : wpAny (model prog w) A (compareOp .NotEq (.ref a) (.ref b)) Q E s :=
  ne_lists [(a1, n1), (a2, n2), (a3, n3), (a4, n4)] [(b1, n1), (b2, n2), (b3, n3), (b4, n4)] (N _ (.tail _ (.head _))).1 (N _ (.head _)).1 rfl rfl xa.all xb.all rfl hu (h fun p hp => N p (.tail _ (.tail _ hp)))
theorem News.drop1 {h₀ h : Heap} {L : Addr} {news : List (Addr × Obj)} {p : Addr × Obj} (N : News h₀ L h (p :: news)) : News h₀ L h news := fun q hq => N q (.tail _ hq)
theorem holds_news {h₀ h : Heap} {L : Addr} {news : List (Addr × Obj)} (N : News h₀ L h news) : Holds news h := fun p hp => (N p hp).1
noncomputable def octs (l : List (Addr × List Int)) : List Int := l.map fun p => (p.2.length : Int) * sizeF p.2
theorem totF_sum (l : List (Addr × List Int)) : ∀ t : Int, totF t (l.map (·.2)) = t + (octs l).sum := by
  induction l with
  | nil => intro t; simp [totF, octs]
  | cons p r ih =>
    intro t
    have := ih (t + (p.2.length : Int) * sizeF p.2)
    show totF (t + (p.2.length : Int) * sizeF p.2) (r.map (·.2)) = _
    rw [this]
    show _ = t + ((p.2.length : Int) * sizeF p.2 + (octs r).sum)
    rw [Int.add_assoc]
theorem octs_at {l : List (Addr × List Int)} {i : Nat} {v : Value} (h : (l.map fun p => Value.ref p.1)[i]? = some v) : ∃ p, p ∈ l ∧ v = .ref p.1 ∧ (octs l).take (i + 1) = (octs l).take i ++ [(p.2.length : Int) * sizeF p.2] := by
  rw [List.getElem?_map] at h
  cases e : l[i]? with
  | none => rw [e] at h; cases h
  | some p =>
    rw [e] at h
    cases h
    refine ⟨p, List.mem_of_getElem? e, rfl, ?_⟩
    rw [List.take_add_one]
    congr 1
    simp [octs, e]
end

end RI
section K1
open PySem PySem.W PyProof.Rows PySem.Calls PySem.Spec
theorem kind_law {lo hi : Int} (h : lo ≤ 0) : (if (decide (-127 ≤ lo) && decide (hi ≤ 127) || (lo == 0 && decide (hi ≤ 255))) = true then (1 : Int) else if (decide (-32767 ≤ lo) && decide (hi ≤ 32767) || (lo == 0 && decide (hi ≤ 65535))) = true then 2 else 4) = kindF lo hi := by
  unfold kindF
  simp only [Bool.or_eq_true, Bool.and_eq_true, decide_eq_true_eq, beq_iff_eq]
  by_cases h1 : -127 ≤ lo ∧ hi ≤ 127
  · rw [if_pos (.inl h1), if_pos h1]
  · rw [if_neg h1]
    by_cases h2 : 0 ≤ lo ∧ hi ≤ 255
    · rw [if_pos h2, if_pos (.inr ⟨by omega, h2.2⟩)]
    · rw [if_neg h2, if_neg (by omega)]
      by_cases h3 : -32767 ≤ lo ∧ hi ≤ 32767
      · rw [if_pos (.inl h3), if_pos h3]
      · rw [if_neg h3]
        by_cases h4 : 0 ≤ lo ∧ hi ≤ 65535
        · rw [if_pos h4, if_pos (.inr ⟨by omega, h4.2⟩)]
        · rw [if_neg h4, if_neg (by omega)]
theorem pow_is {prog : Program} {w : World} {A : Around} {E : Value → Shared → Prop} {s : Shared} {Q : Value → Shared → Prop} {a n : Int} {t u : Tok} (r : Int) (hn : 0 ≤ n) (hn2 : n ≤ 1000000) (ha : a.natAbs < 2 ^ 64) (e : a ^ n.toNat = r) (h : Q (.int r s.toks) { s with toks := s.toks + 1 }) :
    wpAny (model prog w) A (binaryOp .Pow (.int a t) (.int n u)) Q E s := pow_int_small hn hn2 ha (by rw [e]; exact h)
theorem kt {lo hi a b c : Int} (h : (a ≤ lo ∧ hi ≤ b) ∨ (lo = 0 ∧ hi ≤ c)) : true = (decide (a ≤ lo) && decide (hi ≤ b) || (lo == 0 && decide (hi ≤ c))) := by
  symm; simpa [Bool.or_eq_true, Bool.and_eq_true, decide_eq_true_eq, beq_iff_eq] using h
theorem kf {lo hi a b c : Int} (h : ¬((a ≤ lo ∧ hi ≤ b) ∨ (lo = 0 ∧ hi ≤ c))) : false = (decide (a ≤ lo) && decide (hi ≤ b) || (lo == 0 && decide (hi ≤ c))) := by
  symm; rw [← Bool.not_eq_true]; intro q; apply h; simpa [Bool.or_eq_true, Bool.and_eq_true, decide_eq_true_eq, beq_iff_eq] using q
theorem join_test2 {M : Model} {A : Around} {x : Sem Bool} {P : Bool → Shared → Prop} {E : Value → Shared → Prop} {s : Shared} (c : Bool) (h : wpAny M A x (fun b s₂ => Stop (b = c ∧ ∃ tk, s₂ = { s with toks := tk })) (fun _ _ => False) s) (kt : c = true → ∀ tk, P true { s with toks := tk }) (kf : c = false → ∀ tk, P false { s with toks := tk }) : wpAny M A x P E s :=
  join_test c h fun tk => by
    cases hc : c with
    | true => exact kt hc tk
    | false => exact kf hc tk

end K1
section Walks
local macro_rules | `(tactic| wrow_close) => `(tactic| k_extra "close")
local macro_rules | `(tactic| walk_at $s:str) => `(tactic| k_extra $s)
local macro_rules | `(tactic| k_all) => `(tactic| k_extra "k_all")
local macro_rules | `(tactic| k_ne) => `(tactic| k_extra "k_ne")
section D1
open PySem PySem.W PyProof.Rows PySem.Calls PySem.Spec PyProof.Rows.LCg
theorem lines_D1 : True := by
  k_with_none
  k_with "om" => first | ((repeat ((with_reducible rename (@LT.lt Nat _ _ _ ∧ _) => hq9); clear hq9)); (repeat ((with_reducible rename (@Ne Nat _ _) => hq9); clear hq9)); omega) | omega
  k_with "c cj" => (first | assumption | exact And.left (by assumption) | exact And.right (by assumption) | exact And.left (And.right (by assumption)) | exact And.right (And.right (by assumption)) | exact And.left (And.right (And.right (by assumption))) | exact And.right (And.right (And.right (by assumption))) | exact And.left (And.right (And.right (And.right (by assumption)))) | exact And.right (And.right (And.right (And.right (by assumption)))) | exact And.left (And.right (And.right (And.right (And.right (by assumption))))) | exact And.right (And.right (And.right (And.right (And.right (by assumption))))) | exact And.left (And.right (And.right (And.right (And.right (And.right (by assumption)))))) | exact And.right (And.right (And.right (And.right (And.right (And.right (by assumption)))))) | exact And.left (And.right (And.right (And.right (And.right (And.right (And.right (by assumption))))))) | exact And.right (And.right (And.right (And.right (And.right (And.right (And.right (by assumption))))))) | exact And.left (And.right (And.right (And.right (And.right (And.right (And.right (And.right (by assumption)))))))) | exact And.right (And.right (And.right (And.right (And.right (And.right (And.right (And.right (by assumption)))))))) | exact And.left (And.right (And.right (And.right (And.right (And.right (And.right (And.right (And.right (by assumption))))))))) | exact And.right (And.right (And.right (And.right (And.right (And.right (And.right (And.right (And.right (by assumption))))))))) | exact And.left (And.right (And.right (And.right (And.right (And.right (And.right (And.right (And.right (And.right (by assumption)))))))))) | exact And.right (And.right (And.right (And.right (And.right (And.right (And.right (And.right (And.right (And.right (by assumption)))))))))))
  k_with "k_ne" => (refine neN ?_; (try dsimp only); first | assumption | exact Ne.symm (by assumption) | exact Nat.ne_of_lt (by walk_at "c cj") | exact Nat.ne_of_gt (by walk_at "c cj") | walk_at "c cj" | exact Ne.symm (by walk_at "c cj") | walk_at "om")
  k_with "execs cons" => ((try dsimp only at *); refine execs_hid ?_; intro Pst hNx)
  k_with "close" => (refine nx_go (by assumption) ?_; clear hNx; (try clear Pst))
  k_with "close" => (refine nr_go (by assumption) ?_; (try dsimp only))
  k_with "setItem ref int" => (k_here; k_dflt (refine' setAt_any (by k_asm) (by k_asm) (by k_upd) (by decide) (by decide) (by decide) ?_; k_whole); intro _ _ _; (try k_sweep))
  k_with "call builtin:len" => (k_here; (with_reducible show wpAny _ _ (call (Value.builtin "len") [Value.ref _]) _ _ _); k_dflt (refine' len_list (by exact News.isList (by k_asm) (by k_memK)) (by (simp only [List.size_toArray]; walk_at "om")) ?_; k_whole); (try simp only [List.size_toArray]))
  k_with "DivisorWantsNonzero" => ((show False); (rename decide (_ = []) = false => hne); (have hne' := len_ne hne); walk_at "om")
  k_with "binaryOp Mult int int" => (k_here; (refine PyProof.Rows.mul_int ?_ (IntMulOk.of_left (intBits_le_64 (by walk_at "om") (by walk_at "om")))))
  trivial
theorem len_ne {ns : List Int} (h : decide (ns = []) = false) : ns.length ≠ 0 := by
  intro h0
  have : ns = [] := List.length_eq_zero_iff.mp h0
  simp [this] at h
theorem fm_lo {a b : Int} (hb : 1 ≤ b) : 0 ≤ a.fmod b := by rw [Int.fmod_eq_emod_of_nonneg _ (by omega)]; exact Int.emod_nonneg _ (by omega)
theorem fm_hi {a b : Int} (hb : 1 ≤ b) : a.fmod b < b := by rw [Int.fmod_eq_emod_of_nonneg _ (by omega)]; exact Int.emod_lt_of_pos _ (by omega)
theorem getD_nn {ns : List Int} (h : ∀ n ∈ ns, 0 ≤ n) (i : Nat) : 0 ≤ ns.getD i 0 := by
  by_cases hi : i < ns.length
  · rw [List.getD_eq_getElem?_getD, List.getElem?_eq_getElem hi]; exact h _ (List.getElem_mem hi)
  · rw [List.getD_eq_getElem?_getD, List.getElem?_eq_none (by omega)]; exact Int.le_refl 0
theorem set_nn {ns : List Int} (h : ∀ n ∈ ns, 0 ≤ n) {i j : Nat} {many : Int} (hm : 1 ≤ many) : ∀ n ∈ ns.set i ((ns.getD j 0).fdiv many), 0 ≤ n := by
  intro n hn
  rcases List.mem_or_eq_of_mem_set hn with hn | rfl
  · exact h n hn
  · rw [Int.fdiv_eq_ediv_of_nonneg _ (by omega)]; exact Int.ediv_nonneg (getD_nn h j) (by omega)
theorem C_dig (w : World) (dp un : Nat) (fr : List Env) (gd : Option (List Code)) (s : Shared) (h₀ : Heap) (Q E : Value → Shared → Prop)
    (am : Amb w h₀) (st : h₀.StaysIn s.heap) (t c : Addr) (cells : List Value) (ns : List Int) (hI : IntsAre cells ns) (hpos : ∀ n ∈ ns, 0 ≤ n) (k many : Int) (tk tk2 : Tok) (e1 e2 : Nat) (hct : c < t)
    (ht : s.heap.get? t = some (listOf #[.ref c, .int k tk] e1)) (hc : s.heap.get? c = some (listOf cells.toArray e2)) (ht0 : h₀.get? t = none) (hc0 : h₀.get? c = none)
    (hlen : ns.length < 1000) (hm : 1 ≤ many) (hm2 : many ≤ 1000) (hk2 : k < 100000) (hk : 0 ≤ k) (hdp : dp < 900) (hun : un < 1000)
    (ret : ∀ r h' tk' tk3 tk4 cells' ns', 0 ≤ r → r < many → IntsAre cells' ns' → (∀ n ∈ ns', 0 ≤ n) → ns'.length = ns.length → h'.get? t = some (listOf #[.ref c, .int (k + 1) tk4] e1) → h'.get? c = some (listOf cells'.toArray e2) →
       (∀ b o, b ≠ t → b ≠ c → s.heap.get? b = some o → h'.get? b = some o) → Q (.int r tk3) { s with heap := h', toks := tk' }) :
    wpAny (model PySem.Challenge.rw_sf0018_01.row.prog w) (AT dp un fr gd) (call (.ref 361) [.ref t, .int many tk2]) Q E s := by
  obtain ⟨X, mean, mg, mb, T⟩ := am
  revert X; k_fill; intro X
  have hmods : ∀ q ∈ [(t, listOf #[.ref c, .int k tk] e1), (c, listOf cells.toArray e2)], s.heap.get? q.1 = some q.2 ∧ h₀.get? q.1 = none := by
    intro q hq
    simp only [List.mem_cons, List.not_mem_nil, or_false] at hq
    rcases hq with rfl | rfl
    · exact ⟨ht, ht0⟩
    · exact ⟨hc, hc0⟩
  refine wpAny_call ?_
  k_dflt (refine' enterP ?k1 ?k2 ?k3 _ ?k4 ?k6 ?k7 ?k8 ?k9 ?kB ?_ ?c2 ?c3 ?c4 ?c5; (case k1 => assumption); (case k2 => assumption); (case k3 => assumption); (case k4 => assumption); (case k6 => k_is); (case k7 => k_is); (case k8 => ktr_room); (case k9 => exact BindsTo.of_eq rfl); (case c5 => decide); (case kB => exact locs rfl); (case c2 => exact rfl); (case c3 => exact rfl); (case c4 => exact rfl))
  intro g L' h₁ F N Xg Tg stg sgs kg lt lsz
  conv in (fnBody _) => whnf
  conv in (occs := *) (fnScope _) => all_goals whnf
  replace hct := ltN hct
  have hcl := hI.length
  k_steps
  all_goals (
    (with_reducible rename News _ _ _ _ => N9)
    (with_reducible rename Fr _ _ _ _ => F9)
    refine' ret _ _ _ _ _ _ _ (fm_lo hm) (fm_hi hm) ?c ?d ?e ?f ?g (fun b o h1 h2 e => F9.keep b o (kg b o (by simp [h1, h2]) e))
    (case f => exact News.get N9 (by k_memK))
    (case g => exact News.get N9 (by k_memK))
    (case c => assumption)
    (case d => first | assumption | exact set_nn hpos hm)
    (case e => first | rfl | exact List.length_set ..))

end D1
section D2
open PySem PySem.W PyProof.Rows PySem.Calls PySem.Spec PyProof.Rows.LCg
theorem lines_D2 : True := by
  k_with_none
  k_with "om" => first | ((repeat ((with_reducible rename (@LT.lt Nat _ _ _ ∧ _) => hq9); clear hq9)); (repeat ((with_reducible rename (@Ne Nat _ _) => hq9); clear hq9)); omega) | omega
  k_with "c cj" => (first | assumption | exact And.left (by assumption) | exact And.right (by assumption) | exact And.left (And.right (by assumption)) | exact And.right (And.right (by assumption)) | exact And.left (And.right (And.right (by assumption))) | exact And.right (And.right (And.right (by assumption))) | exact And.left (And.right (And.right (And.right (by assumption)))) | exact And.right (And.right (And.right (And.right (by assumption)))) | exact And.left (And.right (And.right (And.right (And.right (by assumption))))) | exact And.right (And.right (And.right (And.right (And.right (by assumption))))) | exact And.left (And.right (And.right (And.right (And.right (And.right (by assumption)))))) | exact And.right (And.right (And.right (And.right (And.right (And.right (by assumption)))))) | exact And.left (And.right (And.right (And.right (And.right (And.right (And.right (by assumption))))))) | exact And.right (And.right (And.right (And.right (And.right (And.right (And.right (by assumption))))))) | exact And.left (And.right (And.right (And.right (And.right (And.right (And.right (And.right (by assumption)))))))) | exact And.right (And.right (And.right (And.right (And.right (And.right (And.right (And.right (by assumption)))))))) | exact And.left (And.right (And.right (And.right (And.right (And.right (And.right (And.right (And.right (by assumption))))))))) | exact And.right (And.right (And.right (And.right (And.right (And.right (And.right (And.right (And.right (by assumption))))))))) | exact And.left (And.right (And.right (And.right (And.right (And.right (And.right (And.right (And.right (And.right (by assumption)))))))))) | exact And.right (And.right (And.right (And.right (And.right (And.right (And.right (And.right (And.right (And.right (by assumption)))))))))))
  k_with "k_ne" => (refine neN ?_; (try dsimp only); first | assumption | exact Ne.symm (by assumption) | exact Nat.ne_of_lt (by walk_at "c cj") | exact Nat.ne_of_gt (by walk_at "c cj") | walk_at "c cj" | exact Ne.symm (by walk_at "c cj") | walk_at "om")
  k_with "execs cons" => ((try dsimp only at *); refine execs_hid ?_; intro Pst hNx)
  k_with "close" => (refine nx_go (by assumption) ?_; clear hNx; (try clear Pst))
  k_with "close" => (refine nr_go (by assumption) ?_; (try dsimp only))
  k_with "call ref" => (k_here; k_dflt (refine' use_dig (by k_asm) (by k_asm) (by k_asm) (by k_asm) (by assumption) (by k_updF) (by (intro _; k_updF)) (by assumption) (by first | decide | walk_at "om") (by first | decide | walk_at "om") (by first | assumption | walk_at "om") (by (dsimp only [AT, Around.deeper, Around.in1]; walk_at "om")) (by (dsimp only [AT, Around.deeper, Around.in1]; walk_at "om")) ?_; k_whole); intro _ _ _ _ _ _ _ _ _ _ _; (try k_sweep))
  trivial
noncomputable def Trug (c : Addr) (o1 o2 : Obj) (n : Nat) : Prop := ∃ cells ns k tk e1 e2, o1 = listOf #[.ref c, .int k tk] e1 ∧ o2 = listOf (List.toArray cells) e2 ∧ IntsAre cells ns ∧ (∀ x ∈ ns, 0 ≤ x) ∧ ns.length < 1000 ∧ 0 ≤ k ∧ k ≤ n

theorem C_dig2 (w : World) (dp un : Nat) (fr : List Env) (gd : Option (List Code)) (s : Shared) (h₀ : Heap) (Q E : Value → Shared → Prop)
    (am : Amb w h₀) (st : h₀.StaysIn s.heap) (t c : Addr) (o1 o2 : Obj) (n : Nat) (TR : Trug c o1 o2 n) (many : Int) (tk2 : Tok) (hct : c < t)
    (ht : s.heap.get? t = some o1) (hc : s.heap.get? c = some o2) (ht0 : h₀.get? t = none) (hc0 : h₀.get? c = none)
    (hm : 1 ≤ many) (hm2 : many ≤ 1000) (hn : n < 1000) (hdp : dp < 900) (hun : un < 1000)
    (ret : ∀ r h' tk' tk3 o1' o2', 0 ≤ r → r < many → Trug c o1' o2' (n + 1) → h'.get? t = some o1' → h'.get? c = some o2' →
       (∀ b o, b ≠ t → b ≠ c → s.heap.get? b = some o → h'.get? b = some o) → Q (.int r tk3) { s with heap := h', toks := tk' }) :
    wpAny (model PySem.Challenge.rw_sf0018_01.row.prog w) (AT dp un fr gd) (call (.ref 361) [.ref t, .int many tk2]) Q E s := by
  obtain ⟨cells, ns, k, tk, e1, e2, rfl, rfl, hI, hp, hl, hk, hkn⟩ := TR
  refine C_dig w dp un fr gd s h₀ Q E am st t c cells ns hI hp k many tk tk2 e1 e2 hct ht hc ht0 hc0 hl hm hm2 (by omega) hk hdp hun ?_
  intro r h' tk' tk3 tk4 cells' ns' h0 h1 hI' hp' hl' ht' hc' kk
  exact ret r h' tk' tk3 _ _ h0 h1 ⟨cells', ns', k + 1, tk4, e1, e2, rfl, rfl, hI', hp', by omega, by omega, by omega⟩ ht' hc' kk

/-- two entries of a ledger turned -/
theorem news_two {h₀ h h' : Heap} {L t c : Addr} {news : List (Addr × Obj)} {g1 : Obj → List (Addr × Obj)} {g2 : Obj → Obj → List (Addr × Obj)} {o1 o2 o1' o2' : Obj} (N : News h₀ L h news)
    (U1 : UpdF t o1 news g1) (U2 : UpdF c o2 (g1 o1') (g2 o1')) (hct : c ≠ t) (ht : h'.get? t = some o1') (hc : h'.get? c = some o2')
    (k : ∀ b o, b ≠ t → b ≠ c → h.get? b = some o → h'.get? b = some o) : News h₀ L h' (g2 o1' o2') := by
  obtain ⟨pre, post, rfl, eg, a1, a2⟩ := U1.split
  obtain ⟨pre2, post2, e2, eg2, b1, b2⟩ := U2.split
  rw [eg2]
  have zt := N (t, o1) (by simp)
  intro p hp
  -- every entry of g2 other than c stands in g1 o1'
  have inG : p.1 = c ∨ p ∈ g1 o1' := by
    rcases List.mem_append.mp hp with q | q
    · right; rw [e2]; exact List.mem_append_left _ q
    · rcases List.mem_cons.mp q with rfl | q
      · left; rfl
      · right; rw [e2]; exact List.mem_append_right _ (.tail _ q)
  have hcN : h₀.get? c = none ∧ c ≠ L := by
    have : (c, o2) ∈ g1 o1' := by rw [e2]; simp
    rw [eg] at this
    rcases List.mem_append.mp this with q | q
    · have := N _ (List.mem_append_left _ q); exact ⟨this.2.2, this.2.1⟩
    · rcases List.mem_cons.mp q with q | q
      · exact absurd (congrArg Prod.fst q) hct
      · have := N _ (List.mem_append_right _ (.tail _ q)); exact ⟨this.2.2, this.2.1⟩
  by_cases hpc : p.1 = c
  · have hpo : p = (c, o2') := by
      rcases List.mem_append.mp hp with q | q
      · exact absurd hpc (b1 p q)
      · rcases List.mem_cons.mp q with q | q
        · exact q
        · exact absurd hpc (b2 p q)
    rw [hpo]; exact ⟨hc, hcN.2, hcN.1⟩
  · have hg := inG.resolve_left hpc
    rw [eg] at hg
    by_cases hpt : p.1 = t
    · have : p = (t, o1') := by
        rcases List.mem_append.mp hg with q | q
        · exact absurd hpt (a1 p q)
        · rcases List.mem_cons.mp q with q | q
          · exact q
          · exact absurd hpt (a2 p q)
      rw [this]; exact ⟨ht, zt.2⟩
    · have hin : p ∈ pre ++ (t, o1) :: post := by
        rcases List.mem_append.mp hg with q | q
        · exact List.mem_append_left _ q
        · rcases List.mem_cons.mp q with q | q
          · rw [q] at hpt; exact absurd rfl hpt
          · exact List.mem_append_right _ (.tail _ q)
      have z := N p hin
      exact ⟨k _ _ hpt hpc z.1, z.2⟩
theorem fr_but2 {h₀ h h' : Heap} {L t c : Addr} {m : Str → Option Value} (F : Fr h₀ L h m) (hL : L ≠ t ∧ L ≠ c) (h0 : h₀.get? t = none ∧ h₀.get? c = none)
    (k : ∀ b o, b ≠ t → b ≠ c → h.get? b = some o → h'.get? b = some o) : Fr h₀ L h' m :=
  ⟨F.ns.at' fun o e => k L o hL.1 hL.2 e, fun b o e => k b o (fun q => by rw [q, h0.1] at e; cases e) (fun q => by rw [q, h0.2] at e; cases e) (F.keep b o e), F.above⟩

theorem updF_mem {d : Addr} {o : Obj} : ∀ {l : List (Addr × Obj)} {g : Obj → List (Addr × Obj)}, UpdF d o l g → (d, o) ∈ l
  | _, _, .head _ => .head _
  | _, _, .tail _ r => .tail _ (updF_mem r)

/-- a draw, at a caller that holds the trug on its ledger -/
theorem use_dig {w : World} {dp un : Nat} {fr : List Env} {gd : Option (List Code)} {s : Shared} {h₀ : Heap} {L : Addr} {m : Str → Option Value} {news : List (Addr × Obj)} {Q E : Value → Shared → Prop} {mean : ExcName → Option Value} {mg mb : Str → Option Value}
    {t c : Addr} {o1 o2 : Obj} {n : Nat} {g1 : Obj → List (Addr × Obj)} {g2 : Obj → Obj → List (Addr × Obj)} {many : Int} {tk2 : Tok}
    (F : Fr h₀ L s.heap m) (N : News h₀ L s.heap news) (X : (KD w.params).In h₀) (T : Top VD (looseW VD []) mean mg mb h₀) (TR : Trug c o1 o2 n)
    (U1 : UpdF t o1 news g1) (U2 : ∀ o', UpdF c o2 (g1 o') (g2 o')) (hct : @LT.lt Nat _ c t)
    (hm : 1 ≤ many) (hm2 : many ≤ 1000) (hn : n < 1000) (hdp : dp < 900) (hun : un < 1000)
    (ret : ∀ r h' tk' tk3 o1' o2', Fr h₀ L h' m → News h₀ L h' (g2 o1' o2') → 0 ≤ r → r < many → Trug c o1' o2' (n + 1) → Q (.int r tk3) { s with heap := h', toks := tk' }) :
    wpAny (model PySem.Challenge.rw_sf0018_01.row.prog w) (AT dp un fr gd) (call (.ref 361) [.ref t, .int many tk2]) Q E s := by
  have hne : c ≠ t := Nat.ne_of_lt hct
  have zt := N _ (updF_mem U1)
  have zc : (c, o2) ∈ news := by
    obtain ⟨pre, post, rfl, eg, a1, a2⟩ := U1.split
    have := updF_mem (U2 o1)
    rwa [eg] at this
  have zc := N _ zc
  refine C_dig2 w dp un fr gd s h₀ Q E ⟨X, _, _, _, T⟩ F.keep t c o1 o2 n TR many tk2 hct zt.1 zc.1 zt.2.2 zc.2.2 hm hm2 hn hdp hun ?_
  intro r h' tk' tk3 o1' o2' h0 h1 TR' ht hc k
  exact ret r h' tk' tk3 o1' o2' (fr_but2 F ⟨Ne.symm zt.2.1, Ne.symm zc.2.1⟩ ⟨zt.2.2, zc.2.2⟩ k) (news_two N U1 (U2 _) hne ht hc k) h0 h1 TR'

theorem C_worth (w : World) (dp un : Nat) (fr : List Env) (gd : Option (List Code)) (s : Shared) (h₀ : Heap) (Q E : Value → Shared → Prop)
    (am : Amb w h₀) (st : h₀.StaysIn s.heap) (t c : Addr) (o1 o2 : Obj) (n : Nat) (TR : Trug c o1 o2 n) (hct : c < t)
    (ht : s.heap.get? t = some o1) (hc : s.heap.get? c = some o2) (ht0 : h₀.get? t = none) (hc0 : h₀.get? c = none)
    (hn : n < 1000) (hdp : dp < 800) (hun : un < 900)
    (ret : ∀ r h' tk' tk3 o1' o2', Trug c o1' o2' (n + 1) → h'.get? t = some o1' → h'.get? c = some o2' →
       (∀ b o, b ≠ t → b ≠ c → s.heap.get? b = some o → h'.get? b = some o) → Q (.int r tk3) { s with heap := h', toks := tk' }) :
    wpAny (model PySem.Challenge.rw_sf0018_01.row.prog w) (AT dp un fr gd) (call (.ref 368) [.ref t]) Q E s := by
  obtain ⟨X, mean, mg, mb, T⟩ := am
  revert X; k_fill; intro X
  have hmods : ∀ q ∈ [(t, o1), (c, o2)], s.heap.get? q.1 = some q.2 ∧ h₀.get? q.1 = none := by
    intro q hq
    simp only [List.mem_cons, List.not_mem_nil, or_false] at hq
    rcases hq with rfl | rfl
    · exact ⟨ht, ht0⟩
    · exact ⟨hc, hc0⟩
  refine wpAny_call ?_
  k_dflt (refine' enterP ?k1 ?k2 ?k3 _ ?k4 ?k6 ?k7 ?k8 ?k9 ?kB ?_ ?c2 ?c3 ?c4 ?c5; (case k1 => assumption); (case k2 => assumption); (case k3 => assumption); (case k4 => assumption); (case k6 => k_is); (case k7 => k_is); (case k8 => ktr_room); (case k9 => exact BindsTo.of_eq rfl); (case c5 => decide); (case kB => exact locs rfl); (case c2 => exact rfl); (case c3 => exact rfl); (case c4 => exact rfl))
  intro g L' h₁ F N Xg Tg stg sgs kg lt lsz
  conv in (fnBody _) => whnf
  conv in (occs := *) (fnScope _) => all_goals whnf
  replace hct := ltN hct
  k_steps
  all_goals (
    (with_reducible rename News _ _ _ _ => N9)
    (with_reducible rename Fr _ _ _ _ => F9)
    refine' ret _ _ _ _ _ _ (by assumption) ?f ?g (fun b o h1 h2 e => F9.keep b o (kg b o (by simp [h1, h2]) e))
    (case f => exact News.get N9 (by k_memK))
    (case g => exact News.get N9 (by k_memK)))

end D2
section D3
open PySem PySem.W PyProof.Rows PySem.Calls PySem.Spec PyProof.Rows.LCg
theorem lines_D3 : True := by
  k_with_none
  k_with "om" => first | ((repeat ((with_reducible rename (@LT.lt Nat _ _ _ ∧ _) => hq9); clear hq9)); (repeat ((with_reducible rename (@Ne Nat _ _) => hq9); clear hq9)); omega) | omega
  k_with "c room" => (dsimp only [AT, Around.deeper, Around.in1]; first | ((repeat refine room_up ?_); exact Nat.lt_of_lt_of_le (by assumption) (by decide)) | walk_at "om")
  k_with "c cj" => (first | assumption | exact And.left (by assumption) | exact And.right (by assumption) | exact And.left (And.right (by assumption)) | exact And.right (And.right (by assumption)) | exact And.left (And.right (And.right (by assumption))) | exact And.right (And.right (And.right (by assumption))) | exact And.left (And.right (And.right (And.right (by assumption)))) | exact And.right (And.right (And.right (And.right (by assumption)))) | exact And.left (And.right (And.right (And.right (And.right (by assumption))))) | exact And.right (And.right (And.right (And.right (And.right (by assumption))))) | exact And.left (And.right (And.right (And.right (And.right (And.right (by assumption)))))) | exact And.right (And.right (And.right (And.right (And.right (And.right (by assumption)))))) | exact And.left (And.right (And.right (And.right (And.right (And.right (And.right (by assumption))))))) | exact And.right (And.right (And.right (And.right (And.right (And.right (And.right (by assumption))))))) | exact And.left (And.right (And.right (And.right (And.right (And.right (And.right (And.right (by assumption)))))))) | exact And.right (And.right (And.right (And.right (And.right (And.right (And.right (And.right (by assumption)))))))) | exact And.left (And.right (And.right (And.right (And.right (And.right (And.right (And.right (And.right (by assumption))))))))) | exact And.right (And.right (And.right (And.right (And.right (And.right (And.right (And.right (And.right (by assumption))))))))) | exact And.left (And.right (And.right (And.right (And.right (And.right (And.right (And.right (And.right (And.right (by assumption)))))))))) | exact And.right (And.right (And.right (And.right (And.right (And.right (And.right (And.right (And.right (And.right (by assumption)))))))))))
  k_with "k_ne" => (refine neN ?_; (try dsimp only); first | assumption | exact Ne.symm (by assumption) | exact Nat.ne_of_lt (by walk_at "c cj") | exact Nat.ne_of_gt (by walk_at "c cj") | walk_at "c cj" | exact Ne.symm (by walk_at "c cj") | walk_at "om")
  k_with "execs cons" => ((try dsimp only at *); refine execs_hid ?_; intro Pst hNx)
  k_with "close" => (refine nx_go (by assumption) ?_; clear hNx; (try clear Pst))
  k_with "close" => (refine nr_go (by assumption) ?_; (try dsimp only))
  k_with "call ref" => (k_here; k_dflt (refine' use_dig (by k_asm) (by k_asm) (by k_asm) (by k_asm) (by assumption) (by k_updF) (by (intro _; k_updF)) (by assumption) (by first | decide | walk_at "om") (by first | decide | walk_at "om") (by first | assumption | walk_at "om") (by walk_at "c room") (by walk_at "c room") ?_; k_whole); intro _ _ _ _ _ _ _ _ _ _ _; (try k_sweep))
  k_with "call ref" => (k_here; k_dflt (refine' use_worth (by k_asm) (by k_asm) (by k_asm) (by k_asm) (by assumption) (by k_updF) (by (intro _; k_updF)) (by assumption) (by first | assumption | walk_at "om") (by walk_at "c room") (by walk_at "c room") ?_; k_whole); intro _ _ _ _ _ _ _ _ _; (try k_sweep))
  k_with "eval ListComp" => (k_here; k_dflt (refine comp_stop (F₀ := by k_asm) (by with_unfolding_all rfl) (by decide) (by rfl) (by decide) (by rfl) ?_))
  k_with "k_all" => (refine tail_off (by assumption) ?_; (try dsimp only); first | assumption | walk_at "om")
  trivial
theorem use_worth {w : World} {dp un : Nat} {fr : List Env} {gd : Option (List Code)} {s : Shared} {h₀ : Heap} {L : Addr} {m : Str → Option Value} {news : List (Addr × Obj)} {Q E : Value → Shared → Prop} {mean : ExcName → Option Value} {mg mb : Str → Option Value}
    {t c : Addr} {o1 o2 : Obj} {n : Nat} {g1 : Obj → List (Addr × Obj)} {g2 : Obj → Obj → List (Addr × Obj)}
    (F : Fr h₀ L s.heap m) (N : News h₀ L s.heap news) (X : (KD w.params).In h₀) (T : Top VD (looseW VD []) mean mg mb h₀) (TR : Trug c o1 o2 n)
    (U1 : UpdF t o1 news g1) (U2 : ∀ o', UpdF c o2 (g1 o') (g2 o')) (hct : @LT.lt Nat _ c t)
    (hn : n < 1000) (hdp : dp < 800) (hun : un < 900)
    (ret : ∀ r h' tk' tk3 o1' o2', Fr h₀ L h' m → News h₀ L h' (g2 o1' o2') → Trug c o1' o2' (n + 1) → Q (.int r tk3) { s with heap := h', toks := tk' }) :
    wpAny (model PySem.Challenge.rw_sf0018_01.row.prog w) (AT dp un fr gd) (call (.ref 368) [.ref t]) Q E s := by
  have hne : c ≠ t := Nat.ne_of_lt hct
  have zt := N _ (updF_mem U1)
  have zc : (c, o2) ∈ news := by
    obtain ⟨pre, post, rfl, eg, a1, a2⟩ := U1.split
    have := updF_mem (U2 o1)
    rwa [eg] at this
  have zc := N _ zc
  refine C_worth w dp un fr gd s h₀ Q E ⟨X, _, _, _, T⟩ F.keep t c o1 o2 n TR hct zt.1 zc.1 zt.2.2 zc.2.2 hn hdp hun ?_
  intro r h' tk' tk3 o1' o2' TR' ht hc k
  exact ret r h' tk' tk3 o1' o2' (fr_but2 F ⟨Ne.symm zt.2.1, Ne.symm zc.2.1⟩ ⟨zt.2.2, zc.2.2⟩ k) (news_two N U1 (U2 _) hne ht hc k) TR'

theorem tail_off {tail : List (Addr × Obj)} {b : Nat} {d : Addr} (h : ∀ q ∈ tail, @LT.lt Nat _ b q.1) (hd : @LE.le Nat _ d b) : ∀ p ∈ tail, p.1 ≠ d :=
  fun p hp e => by have := h p hp; rw [e] at this; exact absurd (Nat.lt_of_le_of_lt hd this) (Nat.lt_irrefl _)
theorem trug_mono {c : Addr} {o1 o2 : Obj} {n n' : Nat} (h : Trug c o1 o2 n) (hn : n ≤ n') : Trug c o1 o2 n' := by
  obtain ⟨cells, ns, k, tk, e1, e2, a, b, d, e, f, g, i⟩ := h
  exact ⟨cells, ns, k, tk, e1, e2, a, b, d, e, f, g, by omega⟩
theorem lin_i {i : Nat} {r : Int} (h : i < (1 + r - 0).toNat) (h2 : r < 2) : i ≤ 1 := by omega
theorem lin_n {n i k m : Nat} (hn : n < k) (h : i ≤ 1) (e : k + 3 ≤ m) : n + 1 + 2 * i < m := by omega
theorem lin_m {n i k m : Nat} (hn : n < k) (h : i ≤ 1) (e : k + 4 ≤ m) : n + 1 + 2 * i + 1 < m := by omega
theorem lin_s {n i : Nat} : n + 1 + 2 * (i + 1) = n + 1 + 2 * i + 1 + 1 := by omega
theorem lin_e {n : Nat} {r : Int} (h : r < 2) : n + 1 + 2 * (1 + r - 0).toNat ≤ n + 5 := by omega
theorem lin_q {r : Int} {k : Nat} (h : k = (1 + r - 0).toNat) (h2 : r < 2) : k ≤ 2 := by omega
theorem C_row (w : World) (dp un : Nat) (fr : List Env) (gd : Option (List Code)) (s : Shared) (h₀ : Heap) (Q E : Value → Shared → Prop)
    (am : Amb w h₀) (st : h₀.StaysIn s.heap) (t c : Addr) (o1 o2 : Obj) (n : Nat) (TR : Trug c o1 o2 n) (hct : c < t) (begun : Int) (tkb : Tok) (hb0 : 0 ≤ begun) (hb1 : begun ≤ 1000)
    (ht : s.heap.get? t = some o1) (hc : s.heap.get? c = some o2) (ht0 : h₀.get? t = none) (hc0 : h₀.get? c = none)
    (hn : n < 900) (hdp : dp < 700) (hun : un < 800)
    (ret : ∀ r h' tk' o1' o2' row, Trug c o1' o2' (n + 5) → h'.get? t = some o1' → h'.get? c = some o2' → s.heap.get? r = none → RowAt PySem.Challenge.rw_sf0018_01.row.prog w h' r row → 1 ≤ row.length → row.length ≤ 2 → (∀ p ∈ row, begun ≤ p.1 ∧ p.1 ≤ begun + 2) →
       (∀ b o, b ≠ t → b ≠ c → s.heap.get? b = some o → h'.get? b = some o) → Q (.ref r) { s with heap := h', toks := tk' }) :
    wpAny (model PySem.Challenge.rw_sf0018_01.row.prog w) (AT dp un fr gd) (call (.ref 373) [.ref t, .int begun tkb]) Q E s := by
  obtain ⟨X, mean, mg, mb, T⟩ := am
  revert X; k_fill; intro X
  have hmods : ∀ q ∈ [(t, o1), (c, o2)], s.heap.get? q.1 = some q.2 ∧ h₀.get? q.1 = none := by
    intro q hq
    simp only [List.mem_cons, List.not_mem_nil, or_false] at hq
    rcases hq with rfl | rfl
    · exact ⟨ht, ht0⟩
    · exact ⟨hc, hc0⟩
  refine wpAny_call ?_
  k_dflt (refine' enterC (binds := [(Str.ofString "trug", .ref t), (Str.ofString "begun", .int begun tkb)]) ?k1 ?k2 ?k3 _ ?k4 ?k6 ?k7 ?k8 ?k9 ?kB ?kD ?_ ?c2 ?c3 ?c4; (case k1 => assumption); (case k2 => assumption); (case k3 => assumption); (case k4 => assumption); (case k6 => k_is); (case k7 => k_is); (case k8 => ktr_room); (case k9 => exact BindsTo.of_eq rfl); (case kB => exact rfl); (case kD => decide +kernel); (case c2 => exact rfl); (case c3 => exact rfl); (case c4 => exact rfl))
  intro g L' h₁ tkk cells F N Y Xg Tg stg sgs kg lt lsz
  conv in (fnBody _) => whnf
  conv in (occs := *) (fnScope _) => all_goals whnf
  replace hct := ltN hct
  have lt1 : @LT.lt Nat _ t L' := lt _ _ ht
  have lt2 : @LT.lt Nat _ c L' := lt _ _ hc
  have a1 : @Ne Nat (L' + 1 + 1) t := Nat.ne_of_gt (Nat.lt_succ_of_lt (Nat.lt_succ_of_lt lt1))
  have a2 : @Ne Nat (L' + 1) t := Nat.ne_of_gt (Nat.lt_succ_of_lt lt1)
  have a3 : @Ne Nat (L' + 1 + 1) c := Nat.ne_of_gt (Nat.lt_succ_of_lt (Nat.lt_succ_of_lt lt2))
  have a4 : @Ne Nat (L' + 1) c := Nat.ne_of_gt (Nat.lt_succ_of_lt lt2)
  have a5 : @LE.le Nat _ t (L' + 2) := Nat.le_of_lt (Nat.lt_succ_of_lt (Nat.lt_succ_of_lt lt1))
  have a6 : @LE.le Nat _ c (L' + 2) := Nat.le_of_lt (Nat.lt_succ_of_lt (Nat.lt_succ_of_lt lt2))
  obtain ⟨ob, ot, rfl, db, dt⟩ := CellsAre.two Y
  clear Y
  (try simp only [List.cons_append, List.nil_append] at N)
  k_steps
  refine Stop.mk (CompSrc.range (by rfl) (by k_asm) (by k_asm) (by assumption) (small_one (by walk_at "om") (by walk_at "om") (by walk_at "om") (by walk_at "om")) (rangeSize_nat _ _) (by rw [sizeLine_eq]; walk_at "om") ?_)
  intro gg
  refine rest_ind (fun i ys nw => ∃ o1 o2 tail ps, nw = [(L'+1+1, ob), (L'+1, ot), (t, o1), (c, o2)] ++ tail ∧ Trug c o1 o2 (n+1+2*i) ∧ TupsIn tail ys ps ∧ ∃ qs, RowVals ps qs ∧ qs.length = i ∧ (∀ p ∈ qs, begun ≤ p.1 ∧ p.1 ≤ begun+2) ∧ (∀ q ∈ tail, @LT.lt Nat _ (L' + 2) q.1)) ?_ ?_ ?_
  · exact ⟨_, _, [], [], rfl, by assumption, .nil, [], .nil, rfl, (by simp), (by simp)⟩
  · intro i ys nw v I oI C oC D m₂ h tk E' hi hJ1 hv hC hx F9 N9 off ne
    refine hideB ?_
    intro Post1 fin1 P ret1
    refine exE4 hJ1 ?_
    clear hJ1
    intro o1' o2' tail ps hE
    refine anE4 hE ?_
    clear hE
    intro hq1 TR' htl hq2
    subst hq1
    obtain ⟨qs, hq, hql, hqb, hlt⟩ := hq2
    refine ret1 ?_
    clear ret1 P
    simp only [Off3, List.cons_append, List.nil_append] at off N9
    have hi2 := lin_i hi (by assumption)
    have hn0 : n + 1 + 2 * i < 1000 := lin_n hn hi2 (by decide)
    have hn1 : n + 1 + 2 * i + 1 < 1000 := lin_m hn hi2 (by decide)
    have q1 : @Ne Nat t I := off.2.2.1.1
    have q2 : @Ne Nat t C := off.2.2.1.2.1
    have q3 : @Ne Nat t D := off.2.2.1.2.2
    have q4 : @Ne Nat c I := off.2.2.2.1.1
    have q5 : @Ne Nat c C := off.2.2.2.1.2.1
    have q6 : @Ne Nat c D := off.2.2.2.1.2.2
    k_steps
    rename_i r1 hh1 tk1 tk31 o11 o21 h01 h11 TR1 cE1 r2 hh2 tk2 tk32 o12 o22 TR2 D2 hh3 F3 N3 l3
    refine fin1 _ _ ?_
    refine Stop.mk (CompEnd.intro F3 N3 ([(L' + 1 + 1, ob), (L' + 1, ot), (t, o12), (c, o22)] ++ (D2, { cls := Value.type "tuple", data := Data.seq #[Value.int (begun + r1) tk1, Value.int r2 tk32] }) :: tail) ?_ ?_ trivial (exI4 _ _ _ _ ⟨rfl, ?_, (htl.mono (fun _ hp => .tail _ hp)).snoc (.head _), qs ++ [(begun + r1, r2)], hq.append (.cons .nil), ?_, ?_, ?_⟩))
    · simp only [List.cons_append, List.nil_append]; kcf_all
    · simp only [Off3, List.cons_append, List.nil_append]
      exact ⟨off.1, off.2.1, off.2.2.1, off.2.2.2.1, ⟨by walk_at "om", by walk_at "om", by walk_at "om"⟩, off.2.2.2.2⟩
    · rw [lin_s]; exact TR2
    · simp [hql]
    · intro p hp
      rcases List.mem_append.mp hp with hp | hp
      · exact hqb p hp
      · rw [List.mem_singleton.mp hp]; exact ⟨by show begun ≤ begun + r1; walk_at "om", by show begun + r1 ≤ begun + 2; walk_at "om"⟩
    · intro q hq'
      rcases List.mem_cons.mp hq' with rfl | hq'
      · show @LT.lt Nat _ (L' + 2) D2; walk_at "om"
      · exact hlt q hq'
  · intro ys nw hJ1
    refine hide ?_
    intro P ret1
    refine exE4 hJ1 ?_
    clear hJ1
    intro o1' o2' tail ps hE
    refine anE4 hE ?_
    clear hE
    intro hq1 TR' htl hq2
    subst hq1
    obtain ⟨qs, hq, hql, hqb, hlt⟩ := hq2
    refine ret1 ?_
    clear ret1 P
    intro D h tk F9 N9 off
    simp only [Off1, List.cons_append, List.nil_append] at off N9
    k_steps
    have hpl := hq.length
    have hNt := htl.pairs (prog := PySem.Challenge.rw_sf0018_01.row.prog) (w := w) (fun p hp => (N9 p (.tail _ (.tail _ (.tail _ (.tail _ (.tail _ hp)))))).1)
    have hq2 := lin_q hql (by assumption)
    refine dict_of_pairs (by rfl) (News.get N9 (.head _)) hNt (by rw [hpl]; exact Nat.le_trans hq2 (by decide)) ?_
    intro d h' tk' hd0 kk hD
    have lenq := putAll_len qs []
    simp only [List.length_nil] at lenq
    have hne : qs ≠ [] := by rintro rfl; simp only [List.length_nil] at hql; walk_at "om"
    have up : ∀ b o, b ≠ t → b ≠ c → s.heap.get? b = some o → h'.get? b = some o := fun b o h1 h2 e => kk b o (F9.keep b o (kg b o (by simp [h1, h2]) e))
    have hLd : @LT.lt Nat _ L' d := Nat.lt_of_lt_of_le F9.ns.lt hd0
    have hlow : (d == sysModules) = false := beq_eq_false_iff_ne.mpr (Nat.ne_of_gt (Nat.lt_trans (Nat.lt_of_lt_of_le (modules_low Tg.nolimit) F9.above) hLd))
    refine nr_go hNx ?_
    refine ret d h' tk' o1' o2' (putAll [] qs) (trug_mono TR' (lin_e (by assumption))) (kk _ _ (News.get N9 (by k_memK))) (kk _ _ (News.get N9 (by k_memK))) ?_ ⟨hlow, _, hD, hq.storedAll .nil⟩ (lenq.2.1 hne) (Nat.le_trans lenq.1 (by rw [Nat.zero_add]; exact hq2)) (putAll_keys (P := fun k => begun ≤ k ∧ k ≤ begun + 2) hqb (by simp)) up
    cases e : s.heap.get? d with
    | none => rfl
    | some o => exact absurd (lt d o e) (Nat.not_lt.mpr (Nat.le_of_lt hLd))

end D3
section RK
open PySem PySem.W PyProof.Rows PySem.Calls PySem.Spec PyProof.Rows.LCg
theorem updF_sub {d : Addr} {o o' : Obj} {l : List (Addr × Obj)} {g : Obj → List (Addr × Obj)} (u : UpdF d o l g) : ∀ p ∈ g o', p.1 = d ∨ p ∈ l := by
  obtain ⟨pre, post, rfl, eg, _, _⟩ := u.split
  intro p hp
  rw [eg] at hp
  rcases List.mem_append.mp hp with q | q
  · exact .inr (List.mem_append_left _ q)
  · rcases List.mem_cons.mp q with rfl | q
    · exact .inl rfl
    · exact .inr (List.mem_append_right _ (.tail _ q))
/-- a new row, at a caller that holds the trug on its ledger -/
theorem use_row {w : World} {dp un : Nat} {fr : List Env} {gd : Option (List Code)} {s : Shared} {h₀ : Heap} {L : Addr} {m : Str → Option Value} {news : List (Addr × Obj)} {Q E : Value → Shared → Prop} {mean : ExcName → Option Value} {mg mb : Str → Option Value}
    {t c : Addr} {o1 o2 : Obj} {n : Nat} {g1 : Obj → List (Addr × Obj)} {g2 : Obj → Obj → List (Addr × Obj)} {begun : Int} {tkb : Tok}
    (F : Fr h₀ L s.heap m) (N : News h₀ L s.heap news) (X : (KD w.params).In h₀) (T : Top VD (looseW VD []) mean mg mb h₀) (TR : Trug c o1 o2 n)
    (U1 : UpdF t o1 news g1) (U2 : ∀ o', UpdF c o2 (g1 o') (g2 o')) (hct : @LT.lt Nat _ c t)
    (hb0 : 0 ≤ begun) (hb1 : begun ≤ 1000) (hn : n < 900) (hdp : dp < 700) (hun : un < 800)
    (ret : ∀ r o h' tk' o1' o2' row, Fr h₀ L h' m → News h₀ L h' ((r, o) :: g2 o1' o2') → Trug c o1' o2' (n + 5) → (∀ h : Heap, h.get? r = some o → RowAt PySem.Challenge.rw_sf0018_01.row.prog w h r row) → 1 ≤ row.length → row.length ≤ 2 → (∀ p ∈ row, begun ≤ p.1 ∧ p.1 ≤ begun + 2) →
      (∀ p ∈ news, p.1 ≠ r) → Q (.ref r) { s with heap := h', toks := tk' }) :
    wpAny (model PySem.Challenge.rw_sf0018_01.row.prog w) (AT dp un fr gd) (call (.ref 373) [.ref t, .int begun tkb]) Q E s := by
  have hne : c ≠ t := Nat.ne_of_lt hct
  have zt := N _ (updF_mem U1)
  have zc : (c, o2) ∈ news := by
    obtain ⟨pre, post, rfl, eg, a1, a2⟩ := U1.split
    have := updF_mem (U2 o1)
    rwa [eg] at this
  have zc := N _ zc
  refine C_row w dp un fr gd s h₀ Q E ⟨X, _, _, _, T⟩ F.keep t c o1 o2 n TR hct begun tkb hb0 hb1 zt.1 zc.1 zt.2.2 zc.2.2 hn hdp hun ?_
  intro r h' tk' o1' o2' row TR' ht hc hr R l1 l2 hk k
  obtain ⟨lo, kvs, ⟨o, es, ep, ho, rd⟩, rv⟩ := R
  refine ret r o h' tk' o1' o2' row (fr_but2 F ⟨Ne.symm zt.2.1, Ne.symm zc.2.1⟩ ⟨zt.2.2, zc.2.2⟩ k) (fun p hp => ?_) TR' (fun h e => ⟨lo, kvs, ⟨o, es, ep, e, rd⟩, rv⟩) l1 l2 hk (fun p hp e => by have := (N p hp).1; rw [e, hr] at this; cases this)
  rcases List.mem_cons.mp hp with rfl | hp
  · refine ⟨ho, fun e => ?_, ?_⟩
    · obtain ⟨_, _, _, h1, _⟩ := F.ns
      dsimp only at e
      rw [← e, hr] at h1; cases h1
    · cases e : h₀.get? r with
      | none => rfl
      | some o => have := F.keep _ _ e; rw [hr] at this; cases this
  · exact news_two N U1 (U2 _) hne ht hc k p hp

end RK
section RL
open PySem PySem.W PyProof.Rows PySem.Calls PySem.Spec
noncomputable def lawS : Stmt := PySem.Challenge.rw_sf0018_01.row.prog.main.body.getD 25 (.Pass default)
noncomputable def lawRest (k : Nat) : List Stmt := (fnBody lawS).drop k
noncomputable abbrev lawE (L : Addr) : Env := envOfC (Str.ofString "law") (fnScope lawS) L 390 (.ref 389)
/-- four names first -/
theorem pull4 {m : Str → Option Value} {k1 k2 k3 k4 : Str} {v1 v2 v3 v4 : Option Value} (h1 : m k1 = v1) (h2 : m k2 = v2) (h3 : m k3 = v3) (h4 : m k4 = v4) :
    m = fun y => if y = k1 then v1 else if y = k2 then v2 else if y = k3 then v3 else if y = k4 then v4 else m y := by
  funext y
  by_cases e1 : y = k1
  · subst e1; rw [if_pos rfl]; exact h1
  · rw [if_neg e1]
    by_cases e2 : y = k2
    · subst e2; rw [if_pos rfl]; exact h2
    · rw [if_neg e2]
      by_cases e3 : y = k3
      · subst e3; rw [if_pos rfl]; exact h3
      · rw [if_neg e3]
        by_cases e4 : y = k4
        · subst e4; rw [if_pos rfl]; exact h4
        · rw [if_neg e4]
theorem fr_eq {g h : Heap} {L : Addr} {m m' : Str → Option Value} (F : Fr g L h m) (e : m = m') : Fr g L h m' := e ▸ F

end RL
section D4
open PySem PySem.W PyProof.Rows PySem.Calls PySem.Spec PyProof.Rows.LCg
theorem lines_D4 : True := by
  k_with_none
  k_with "om" => first | ((repeat ((with_reducible rename (@LT.lt Nat _ _ _ ∧ _) => hq9); clear hq9)); (repeat ((with_reducible rename (@Ne Nat _ _) => hq9); clear hq9)); omega) | omega
  k_with "c room" => (dsimp only [AT, Around.deeper, Around.in1]; first | ((repeat refine room_up ?_); exact Nat.lt_of_lt_of_le (by assumption) (by decide)) | walk_at "om")
  k_with "setItem ref int" => (k_here; k_dflt (refine' setAt_any (by k_asm) (by k_asm) (by k_upd) (by decide) (by decide) (by decide) ?_; k_whole); intro _ _ _; (try k_sweep))
  k_with "eval ListComp" => (k_here; k_dflt (refine comp_stop (F₀ := by k_asm) (by with_unfolding_all rfl) (by decide) (by rfl) (by decide) (by rfl) ?_))
  k_with "k_all" => (refine tail_off (by assumption) ?_; (try dsimp only); first | assumption | walk_at "om")
  k_with "subscriptTail" => (k_here; (with_reducible show wpAny _ _ (subscriptTail _ _ (Value.ref _) (Value.int _ _)) _ _ _); k_dflt (refine' row_item (by k_asm) (by with_reducible assumption) (by assumption) ?_ (by with_unfolding_all rfl); k_whole); intro _)
  k_with "exec For Name Call cons nil" => (k_here; k_dflt (refine for_stop (by k_asm) (by with_unfolding_all rfl) (by with_unfolding_all rfl) ?_))
  k_with "call builtin:len" => (k_here; (with_reducible show wpAny _ _ (call (Value.builtin "len") [Value.ref _]) _ _ _); k_dflt (refine' len_base (by k_asm) (by assumption) (by first | assumption | walk_at "om") ?_; k_whole))
  k_with "call builtin:len" => (k_here; (with_reducible show wpAny _ _ (call (Value.builtin "len") [Value.ref _]) _ _ _); k_dflt (refine' len_led (by k_asm) (by k_memK) (by first | assumption | walk_at "om") ?_; k_whole))
  k_with "subscriptTail" => (k_here; (with_reducible show wpAny _ _ (subscriptTail _ _ (Value.ref _) (Value.int _ _)) _ _ _); k_dflt (refine' item_base (by k_asm) (by assumption) (by assumption) (by first | assumption | walk_at "om") (by first | assumption | walk_at "om") ?_; k_whole))
  k_with "c unit" => (dsimp only [AT, Around.deeper, Around.in1]; unfold cLine; first | exact Nat.lt_of_lt_of_le (by assumption) (by decide) | exact Nat.lt_of_lt_of_le (Nat.add_lt_add_right (by assumption) _) (by decide) | walk_at "om")
  k_with "eval Dict nil nil" => (k_here; k_dflt (refine' newDict_L (by k_asm) (by k_asm) (TopRead.nolimit (by k_asm)) ?_; k_whole); intro _ _ _ _ _ l1 _ _ _; (replace l1 := allLt_of l1; dsimp only [AllLt] at l1); (revert l1; intro _); (try k_sweep))
  k_with "newList" => (k_here; k_dflt (refine' newList_L (by k_asm) (by k_asm) ?_; k_whole); intro _ _ _ _ l1 _; (replace l1 := allLt_of l1; dsimp only [AllLt] at l1); (revert l1; intro _); (try k_sweep))
  k_with "call builtin:len" => (k_here; (with_reducible show wpAny _ _ (call (Value.builtin "len") [Value.ref _]) _ _ _); k_dflt (refine' len_row (by k_asm) (by assumption) (by first | assumption | walk_at "om") ?_; k_whole); intro _ _)
  k_with "exec For Name Name cons cons" => (k_here; k_dflt (refine for_stop (by k_asm) (by with_unfolding_all rfl) (by with_unfolding_all rfl) ?_))
  k_with "exec For Name Name cons nil" => (k_here; k_dflt (refine for_stop (by k_asm) (by with_unfolding_all rfl) (by with_unfolding_all rfl) ?_))
  k_with "exec For Name Name" => (k_here; k_dflt (refine for_stop (by k_asm) (by with_unfolding_all rfl) (by with_unfolding_all rfl) ?_))
  k_with "exec While" => (refine stop_at ?_)
  k_with "exec While Compare" => (refine stop_at ?_)
  k_with "exec While UnaryOp" => (refine stop_at ?_)
  k_with "setItem ref int" => (k_here; k_dflt (refine' setAt_any (by k_asm) (by k_asm) (by k_upd) (by walk_at "om") (by walk_at "om") (by walk_at "om") ?_; k_whole); intro _ _ _; (try k_sweep))
  k_with "c cj" => (first | assumption | exact And.left (by assumption) | exact And.right (by assumption) | exact And.left (And.right (by assumption)) | exact And.right (And.right (by assumption)) | exact And.left (And.right (And.right (by assumption))) | exact And.right (And.right (And.right (by assumption))) | exact And.left (And.right (And.right (And.right (by assumption)))) | exact And.right (And.right (And.right (And.right (by assumption)))) | exact And.left (And.right (And.right (And.right (And.right (by assumption))))) | exact And.right (And.right (And.right (And.right (And.right (by assumption))))) | exact And.left (And.right (And.right (And.right (And.right (And.right (by assumption)))))) | exact And.right (And.right (And.right (And.right (And.right (And.right (by assumption)))))) | exact And.left (And.right (And.right (And.right (And.right (And.right (And.right (by assumption))))))) | exact And.right (And.right (And.right (And.right (And.right (And.right (And.right (by assumption))))))) | exact And.left (And.right (And.right (And.right (And.right (And.right (And.right (And.right (by assumption)))))))) | exact And.right (And.right (And.right (And.right (And.right (And.right (And.right (And.right (by assumption)))))))) | exact And.left (And.right (And.right (And.right (And.right (And.right (And.right (And.right (And.right (by assumption))))))))) | exact And.right (And.right (And.right (And.right (And.right (And.right (And.right (And.right (And.right (by assumption))))))))) | exact And.left (And.right (And.right (And.right (And.right (And.right (And.right (And.right (And.right (And.right (by assumption)))))))))) | exact And.right (And.right (And.right (And.right (And.right (And.right (And.right (And.right (And.right (And.right (by assumption)))))))))))
  k_with "k_ne" => (refine neN ?_; (try dsimp only); first | assumption | exact Ne.symm (by assumption) | exact Nat.ne_of_lt (by walk_at "c cj") | exact Nat.ne_of_gt (by walk_at "c cj") | walk_at "c cj" | exact Ne.symm (by walk_at "c cj") | walk_at "om")
  k_with "execs cons" => ((try dsimp only at *); refine execs_hid ?_; intro Pst hNx)
  k_with "close" => (refine nx_go (by assumption) ?_; clear hNx; (try clear Pst))
  k_with "close" => (refine nr_go (by assumption) ?_; (try dsimp only))
  trivial
theorem no_mods {h h₀ : Heap} : ∀ q ∈ ([] : List (Addr × Obj)), h.get? q.1 = some q.2 ∧ h₀.get? q.1 = none := fun _ h => nomatch h
theorem C_rowkey (w : World) (dp un : Nat) (fr : List Env) (gd : Option (List Code)) (s : Shared) (Q E : Value → Shared → Prop)
    (am : Amb w s.heap) (d : Addr) (row : List (Int × Int)) (R : RowAt PySem.Challenge.rw_sf0018_01.row.prog w s.heap d row) (hc : row.length < 64 ∨ (row.map (·.1)).Pairwise (· ≤ ·)) (hmx : row.length ≤ 10000)
    (hdp : dp < 900) (hun : un < 900)
    (ret : ∀ r h' tk' l, (∀ p ∈ l, @LE.le Nat _ s.heap.objs.size p.1 ∧ h'.get? p.1 = some p.2) → KeyOn l r (rowKey row) → (∀ b o, s.heap.get? b = some o → h'.get? b = some o) → Q (.ref r) { s with heap := h', toks := tk' }) :
    wpAny (model PySem.Challenge.rw_sf0018_01.row.prog w) (AT dp un fr gd) (call (.ref 129) [.ref d]) Q E s := by
  obtain ⟨X, mean, mg, mb, T⟩ := am
  revert X; k_fill; intro X
  have st : s.heap.StaysIn s.heap := fun _ _ e => e
  refine wpAny_call ?_
  k_dflt (refine' enterC (binds := [(Str.ofString "row", .ref d)]) ?k1 ?k2 ?k3 [] no_mods ?k6 ?k7 ?k8 ?k9 ?kB ?kD ?_ ?c2 ?c3 ?c4; (case k1 => assumption); (case k2 => assumption); (case k3 => assumption); (case k6 => k_is); (case k7 => k_is); (case k8 => ktr_room); (case k9 => exact BindsTo.of_eq rfl); (case kB => exact rfl); (case kD => decide +kernel); (case c2 => exact rfl); (case c3 => exact rfl); (case c4 => exact rfl))
  intro g L' h₁ tkk cells F N Y Xg Tg stg sgs kg lt lsz
  conv in (fnBody _) => whnf
  conv in (occs := *) (fnScope _) => all_goals whnf
  have Rg : RowAt PySem.Challenge.rw_sf0018_01.row.prog w g d row := R.keeps fun o e => kg _ _ (by simp) e
  obtain ⟨oc, rfl, dc⟩ := CellsAre.one Y
  clear Y
  (try simp only [List.cons_append, List.nil_append] at N)
  k_steps
  refine sorted_row rfl (by k_asm) (by k_asm) Rg hc (by walk_at "om") ?_
  intro D h' tk vs ns e F1 N1 lt1 hI hp hs
  have hlen : vs.length = row.length := by rw [hI.length, hp.length_eq, List.length_map]
  have lD : @LT.lt Nat _ (L' + 1) D := lt1 _ (.head _)
  refine Stop.mk (CompSrc.ledger rfl F1 N1 (.head _) (by rw [sizeLine_eq]; simp only [List.size_toArray]; walk_at "om") ?_)
  intro gg
  refine rest_ind (fun i ys nw => ∃ tail ps, nw = [(D, listOf vs.toArray e), (L' + 1, oc)] ++ tail ∧ TupsIn tail ys ps ∧ RowVals ps ((ns.take i).map fun k => (k, lookD row k)) ∧ (∀ q ∈ tail, @LT.lt Nat _ D q.1)) ?_ ?_ ?_
  · exact ⟨[], [], rfl, .nil, by simp only [List.take_zero, List.map_nil]; exact .nil, by simp⟩
  · intro i ys nw v I oI C oC D2 m₂ h tk2 E' hi hJ1 hv hC hx F9 N9 off ne
    refine hideB ?_
    intro Post1 fin1 P ret1
    refine exE2 hJ1 ?_
    clear hJ1
    intro tail ps hE
    refine anE4 hE ?_
    clear hE
    intro hq1 htl hq hlt
    subst hq1
    refine ret1 ?_
    clear ret1 P
    simp only [Off3, List.cons_append, List.nil_append] at off N9
    have hi' : i < ns.length := by simp only [List.size_toArray] at hi; rw [← hI.length]; exact hi
    obtain ⟨t, ht⟩ := hI.get i ns[i] (by simp [hi'])
    have hv' : v = .int ns[i] t := by
      have hv2 : vs[i]? = some v := by simpa using hv
      rw [ht] at hv2; exact (Option.some.inj hv2).symm
    subst hv'
    have hmem : ns[i] ∈ row.map (·.1) := hp.subset (List.getElem_mem hi')
    k_steps
    rename_i tt Dn hn Fn Nn ln
    have htake : ns.take (i + 1) = ns.take i ++ [ns[i]] := by rw [List.take_add_one, List.getElem?_eq_getElem hi']; rfl
    refine fin1 _ _ ?_
    refine Stop.mk (CompEnd.intro Fn Nn ((D, listOf vs.toArray e) :: (L' + 1, oc) :: (Dn, { cls := Value.type "tuple", data := Data.seq #[Value.int ns[i] t, Value.int (lookD row ns[i]) tt] }) :: tail) ?_ ?_ (.inr ⟨_, .head _, rfl, _, rfl⟩) (exI2 _ _ ⟨rfl, (htl.mono (fun _ hp => .tail _ hp)).snoc (.head _), ?_, ?_⟩))
    · kcf_all
    · simp only [Off3]
      exact ⟨off.1, off.2.1, ⟨by walk_at "om", by walk_at "om", by walk_at "om"⟩, off.2.2⟩
    · rw [htake, List.map_append]
      exact hq.append (.cons .nil)
    · intro q hq'
      rcases List.mem_cons.mp hq' with rfl | hq'
      · show @LT.lt Nat _ D Dn; walk_at "om"
      · exact hlt q hq'
  · intro ys nw hJ1
    refine hide ?_
    intro P ret1
    refine exE2 hJ1 ?_
    clear hJ1
    intro tail ps hE
    refine anE4 hE ?_
    clear hE
    intro hq1 htl hq hlt
    subst hq1
    refine ret1 ?_
    clear ret1 P
    intro D3 h tk2 F9 N9 off
    simp only [Off1, List.cons_append, List.nil_append] at off N9
    k_steps
    have hys : ys.length ≤ 10000 := by
      have e1 := htl.length; have e2 := hq.length
      rw [List.length_map, List.length_take] at e2
      have e3 := hI.length
      walk_at "om"
    refine kde_tupleOf F9 N9 (News.isList N9 (.head _)) (by simp only [List.size_toArray]; walk_at "om") rfl ?_
    intro D4 h' F10 N10 l10
    have hL4 : @LT.lt Nat _ L' D4 := Nat.lt_trans (Nat.lt_succ_self _) (l10 (L' + 1, oc) (.tail _ (.tail _ (.head _))))
    refine nr_go hNx ?_
    refine ret D4 h' tk2 ((D4, { cls := Value.type "tuple", data := Data.seq ys.toArray }) :: tail) ?_ ?_ (fun b o e => F10.keep b o (kg b o (by simp) e))
    · intro p hp
      rcases List.mem_cons.mp hp with rfl | hp
      · exact ⟨Nat.le_of_lt (Nat.lt_of_le_of_lt lsz hL4), News.get N10 (.head _)⟩
      · exact ⟨by have := hlt p hp; walk_at "om", (N10 p (.tail _ (.tail _ (.tail _ (.tail _ hp))))).1⟩
    · intro h2 H
      have hz := htl.pairsAt (h := h2) (fun p hp => H p (.tail _ hp)) hq
      have hall : ns.take vs.toArray.size = ns := by rw [List.size_toArray, hI.length, List.take_length]
      rw [hall, sortK_eq hp hs] at hz
      exact ⟨ys, 0, H _ (.head _), hz⟩

end D4
section O1
open PySem PySem.W PyProof.Rows PySem.Calls PySem.Spec PyProof.Rows.LCg
theorem C_owners (w : World) (dp un : Nat) (fr : List Env) (gd : Option (List Code)) (s : Shared) (Q E : Value → Shared → Prop)
    (am : Amb w s.heap) (ax : Addr) (vs : List Value) (rs : Rows) (hl : s.heap.IsList ax vs.toArray) (R : RowsIn PySem.Challenge.rw_sf0018_01.row.prog w s.heap vs rs) (hok : ∀ r ∈ rs, RowOk r) (hmx : rs.length ≤ 900)
    (hdp : dp < 800) (hun : un < 800)
    (ret : ∀ r h' tk' os e, s.heap.objs.size ≤ r → h'.get? r = some (listOf (List.toArray os) e) → IntsAre os (ownersF rs) → (∀ b o, s.heap.get? b = some o → h'.get? b = some o) → Q (.ref r) { s with heap := h', toks := tk' }) :
    wpAny (model PySem.Challenge.rw_sf0018_01.row.prog w) (AT dp un fr gd) (call (.ref 136) [.ref ax]) Q E s := by
  obtain ⟨X, mean, mg, mb, T⟩ := am
  revert X; k_fill; intro X
  have st : s.heap.StaysIn s.heap := fun _ _ e => e
  refine wpAny_call ?_
  k_dflt (refine' enterP (binds := [(Str.ofString "rows", .ref ax)]) ?k1 ?k2 ?k3 [] no_mods ?k6 ?k7 ?k8 ?k9 ?kB ?_ ?c2 ?c3 ?c4 ?c5; (case k1 => assumption); (case k2 => assumption); (case k3 => assumption); (case k6 => k_is); (case k7 => k_is); (case k8 => ktr_room); (case k9 => exact BindsTo.of_eq rfl); (case c5 => decide); (case kB => exact locs rfl); (case c2 => exact rfl); (case c3 => exact rfl); (case c4 => exact rfl))
  intro g L' h₁ F N Xg Tg stg sgs kg lt lsz
  conv in (fnBody _) => whnf
  conv in (occs := *) (fnScope _) => all_goals whnf
  have hlg : g.IsList ax vs.toArray := hl.at fun o e => kg _ _ (by simp) e
  have Rg : RowsIn PySem.Challenge.rw_sf0018_01.row.prog w g vs rs := R.keeps fun b o e => kg _ _ (by simp) e
  have hvl := Rg.length
  k_steps
  rename_i d _ o lo hi' ll1 _ _ l _ ll2 ld _ F0 N0 h2 tk2 t1 u1 v1 hr F1 N1 keepH
  refine Stop.mk (loop_range (by rfl) F1 N1 hr (small_one (by walk_at "om") (by walk_at "om") (by walk_at "om") (by walk_at "om")) (rangeSize_nat _ _)
    (fun i m nw => ∃ kv nv o os e tail D, m = (fun y => if y = Str.ofString "key" then kv else if y = Str.ofString "number" then nv else (if y = Str.ofString "owners" then some (Value.ref l) else if y = Str.ofString "firsts" then some (Value.ref d) else List.lookup y [(Str.ofString "rows", Value.ref ax)].reverse)) ∧ nw = (l, listOf (List.toArray os) e) :: (d, o) :: tail ∧ FirstsOn PySem.Challenge.rw_sf0018_01.row.prog w tail o D ∧ FirstsAt rs i D ∧ IntsAre os ((ownersF rs).take i) ∧ (∀ q ∈ tail, @LT.lt Nat _ l q.1)) ?_ ?_ ?_)
  · exact ⟨none, none, o, [], 0, [], [], ini2 (by rfl) (by rfl), rfl, .of_dict hi', .zero rs, by simp only [List.take_zero]; exact .nil, by simp⟩
  · intro i tkn m₁ nw I oI h₁ tk₁ hi hJ hoff F2 N2
    refine hideB ?_
    intro Post fin P ret1
    refine exE7 hJ ?_
    clear hJ
    intro kv nv o os e tail D hE
    refine anE6 hE ?_
    clear hE
    intro hq1 hq2 FO FA hI hlt
    subst hq1
    subst hq2
    refine ret1 ?_
    clear ret1 P
    have hi' : i < rs.length := by walk_at "om"
    obtain ⟨a, ha, Ra⟩ := Rg.at i hi'
    have hmemr : rs.getD i [] ∈ rs := by rw [List.getD_eq_getElem?_getD, List.getElem?_eq_getElem hi']; exact List.getElem_mem hi'
    k_steps
    refine C_rowkey w _ _ _ _ _ _ _ (by exact Amb.keeps ⟨Xg, _, _, _, Tg⟩ F2.keep) a (rs.getD i []) (Ra.keeps fun o e => F2.keep _ o e) (hok _ hmemr).1 (Nat.le_trans (hok _ hmemr).2 (by decide)) (by walk_at "c room") (by walk_at "c room") ?_
    intro r h3 tk3 lk hlk hK kk
    have F3 := Fr.keeps F2 kk
    have hI3 : @LT.lt Nat _ I h₁.objs.size := Heap.lt_size (N2 _ (.head _)).1
    have hL3 : @LT.lt Nat _ l h₁.objs.size := Heap.lt_size (N2 _ (.tail _ (.head _))).1
    have hgL : @LT.lt Nat _ L' h₁.objs.size := F2.ns.lt
    have N3 : News g L' h3 ((I, oI) :: (l, listOf os.toArray e) :: (d, o) :: (lk ++ tail)) := news_call (pre := [(I, oI), (l, listOf os.toArray e), (d, o)]) N2 kk hlk F2
    have hlt3 : ∀ q ∈ lk ++ tail, @LT.lt Nat _ l q.1 := fun q hq => by
      rcases List.mem_append.mp hq with hq | hq
      · exact Nat.lt_of_lt_of_le hL3 (hlk q hq).1
      · exact hlt q hq
    have hoff3 : ∀ p ∈ lk ++ tail, p.1 ≠ I := fun p hp => by
      rcases List.mem_append.mp hp with hp | hp
      · exact Nat.ne_of_gt (Nat.lt_of_lt_of_le hI3 (hlk p hp).1)
      · exact hoff p (.tail _ (.tail _ hp))
    have hK' : KeyOn (lk ++ tail) r (rowKey (rs.getD i [])) := hK.mono fun p hp => List.mem_append_left _ hp
    have FO' : FirstsOn PySem.Challenge.rw_sf0018_01.row.prog w (lk ++ tail) o D := FO.mono fun p hp => List.mem_append_right _ hp
    generalize lk ++ tail = tl at *
    have o1 : @Ne Nat l I := hoff _ (.head _)
    have o2 : @Ne Nat d I := hoff _ (.tail _ (.head _))
    clear F2 N2 hoff hlt hlk FO hK
    have hDl := FA.len
    cases hq : lookK D (rowKey (rs.getD i [])) with
    | none =>
      k_steps
      with_reducible rename News _ _ _ _ => N4
      refine notIn_firsts N4 (by k_memK) (fun p hp => .tail _ (.tail _ (.tail _ hp))) FO' hK' (by walk_at "c unit") lo ?_
      rw [hq]
      intro tk4
      simp only [Option.isSome, Bool.not_false]
      k_steps
      with_reducible rename News _ _ _ _ => N5
      with_reducible rename Fr _ _ _ _ => F5
      refine setItem_firsts F5 N5 (by k_updF) (fun p hp => .tail _ (.tail _ (.tail _ hp))) FO' hK' (by walk_at "c unit") hq (by walk_at "om") (by walk_at "om" : 0 + (i : Int) = ((i : Nat) : Int)) ?_
      intro h6 o6 tk6 F6 N6 FO6
      clear F5 N5
      k_steps
      with_reducible rename News _ _ _ _ => N7
      refine getItem_firsts (n := i) N7 (by k_memK) (fun p hp => .tail _ (.tail _ (.tail _ hp))) FO6 hK' (by walk_at "c unit") (by rw [lookK_snoc _ _ _ _ hq, if_pos rfl]) ?_
      intro tk7 t7
      k_steps
      with_reducible rename News _ _ _ _ => N9
      with_reducible rename Fr _ _ _ _ => F9
      simp only [List.push_toArray] at N9
      refine fin _ _ ?_
      refine LpEnd.mk (news' := (l, _) :: (d, o6) :: tl) F9 N9 ?_ (exI7 (some (.ref r)) _ o6 _ _ tl _ ⟨upd2, rfl, FO6, FA.add hi' hq, ?_, hlt3⟩)
      · intro p hp
        rcases List.mem_cons.mp hp with rfl | hp
        · exact o1
        · rcases List.mem_cons.mp hp with rfl | hp
          · exact o2
          · exact hoff3 p hp
      · rw [ownersF_take hi', ← FA.idx hi' hq]
        exact ints_snoc hI _ _
    | some n =>
      k_steps
      with_reducible rename News _ _ _ _ => N4
      refine notIn_firsts N4 (by k_memK) (fun p hp => .tail _ (.tail _ (.tail _ hp))) FO' hK' (by walk_at "c unit") lo ?_
      rw [hq]
      intro tk4
      simp only [Option.isSome, Bool.not_true]
      k_steps
      with_reducible rename News _ _ _ _ => N5
      refine getItem_firsts N5 (by k_memK) (fun p hp => .tail _ (.tail _ (.tail _ hp))) FO' hK' (by walk_at "c unit") hq ?_
      intro tk5 t5
      k_steps
      with_reducible rename News _ _ _ _ => N9
      with_reducible rename Fr _ _ _ _ => F9
      simp only [List.push_toArray] at N9
      refine fin _ _ ?_
      refine LpEnd.mk (news' := (l, _) :: (d, o) :: tl) F9 N9 ?_ (exI7 (some (.ref r)) _ o _ _ tl _ ⟨upd2, rfl, FO', FA.stay hi' hq, ?_, hlt3⟩)
      · intro p hp
        rcases List.mem_cons.mp hp with rfl | hp
        · exact o1
        · rcases List.mem_cons.mp hp with rfl | hp
          · exact o2
          · exact hoff3 p hp
      · rw [ownersF_take hi', ownerF, ← FA.some _ _ hq]
        exact ints_snoc hI _ _
  · intro h' tk m' nw F2 N2 hJ
    refine hide ?_
    intro P ret1
    refine exE7 hJ ?_
    clear hJ
    intro kv nv o os e tail D hE
    refine anE6 hE ?_
    clear hE
    intro hq1 hq2 FO FA hI hlt
    subst hq1
    subst hq2
    refine ret1 ?_
    clear ret1 P
    have hall : (ownersF rs).take ((vs.length : Int) - 0).toNat = ownersF rs := List.take_of_length_le (by rw [ownersF_length]; walk_at "om")
    rw [hall] at hI
    have zl := N2 _ (.head _)
    k_steps
    refine ret l h' tk os e ?_ zl.1 hI (fun b o e => F2.keep b o (kg b o (by simp) e))
    walk_at "om"

end O1
section O2
open PySem PySem.W PyProof.Rows PySem.Calls PySem.Spec PyProof.Rows.LCg
theorem lt_of_arr {α β : Type} {l : List α} {l2 : List β} {i : Nat} (h : i < l.toArray.size) (e : l.length = l2.length) : i < l2.length := by
  rw [← e]; simpa using h
noncomputable def orderF (rs : Rows) : List Int := (sort3 (keyedF rs)).map (·.2)
theorem C_order (w : World) (dp un : Nat) (fr : List Env) (gd : Option (List Code)) (s : Shared) (Q E : Value → Shared → Prop)
    (am : Amb w s.heap) (ax : Addr) (vs : List Value) (rs : Rows) (hl : s.heap.IsList ax vs.toArray) (R : RowsIn PySem.Challenge.rw_sf0018_01.row.prog w s.heap vs rs) (hok : ∀ r ∈ rs, RowOk r) (hmx : rs.length ≤ 900)
    (ox : Addr) (os : List Value) (hlo : s.heap.IsList ox os.toArray) (hO : IntsAre os (ownersF rs)) (h1 : 1 ≤ (keyedF rs).length) (h3 : (keyedF rs).length ≤ 3)
    (hdp : dp < 800) (hun : un < 800)
    (ret : ∀ r h' tk' vs e, s.heap.get? r = none → h'.get? r = some (listOf (List.toArray vs) e) → IntsAre vs (orderF rs) → (∀ b o, s.heap.get? b = some o → h'.get? b = some o) → Q (.ref r) { s with heap := h', toks := tk' }) :
    wpAny (model PySem.Challenge.rw_sf0018_01.row.prog w) (AT dp un fr gd) (call (.ref 141) [.ref ax, .ref ox]) Q E s := by
  obtain ⟨X, mean, mg, mb, T⟩ := am
  revert X; k_fill; intro X
  have st : s.heap.StaysIn s.heap := fun _ _ e => e
  refine wpAny_call ?_
  k_dflt (refine' enterP (binds := [(Str.ofString "rows", .ref ax), (Str.ofString "owners", .ref ox)]) ?k1 ?k2 ?k3 [] no_mods ?k6 ?k7 ?k8 ?k9 ?kB ?_ ?c2 ?c3 ?c4 ?c5; (case k1 => assumption); (case k2 => assumption); (case k3 => assumption); (case k6 => k_is); (case k7 => k_is); (case k8 => ktr_room); (case k9 => exact BindsTo.of_eq rfl); (case c5 => decide); (case kB => exact locs rfl); (case c2 => exact rfl); (case c3 => exact rfl); (case c4 => exact rfl))
  intro g L' h₁ F N Xg Tg stg sgs kg lt lsz
  conv in (fnBody _) => whnf
  conv in (occs := *) (fnScope _) => all_goals whnf
  have hlg : g.IsList ax vs.toArray := hl.at fun o e => kg _ _ (by simp) e
  have hog : g.IsList ox os.toArray := hlo.at fun o e => kg _ _ (by simp) e
  have Rg : RowsIn PySem.Challenge.rw_sf0018_01.row.prog w g vs rs := R.keeps fun b o e => kg _ _ (by simp) e
  have hvl := Rg.length
  have hol : os.length = rs.length := by rw [hO.length, ownersF_length]
  k_steps
  rename_i l _ ll _ _ F0 N0 h2 tk2 t1 u1 v1 hr F1 N1 keepH
  refine Stop.mk (loop_range (by rfl) F1 N1 hr (small_one (by walk_at "om") (by walk_at "om") (by walk_at "om") (by walk_at "om")) (rangeSize_nat _ _)
    (fun i m nw => ∃ nv ks e tail, m = (fun y => if y = Str.ofString "number" then nv else (if y = Str.ofString "keyed" then some (Value.ref l) else List.lookup y [(Str.ofString "rows", Value.ref ax), (Str.ofString "owners", Value.ref ox)].reverse)) ∧ nw = (l, listOf (List.toArray ks) e) :: tail ∧ (∀ h, Holds tail h → PairsAt h ks (keyedTo rs i)) ∧ (∀ q ∈ tail, @LT.lt Nat _ l q.1)) ?_ ?_ ?_)
  · exact ⟨none, [], 0, [], ini1 (by rfl), rfl, fun h _ => .nil, by simp⟩
  · intro i tkn m₁ nw I oI h₁ tk₁ hi hJ1 hoff F2 N2
    refine hideB ?_
    intro Post1 fin1 P ret1
    refine exE4 hJ1 ?_
    clear hJ1
    intro nv ks e tail hE
    refine anE4 hE ?_
    clear hE
    intro hq1 hq2 hK hlt
    subst hq1
    subst hq2
    refine ret1 ?_
    clear ret1 P
    have hi' : i < rs.length := by walk_at "om"
    obtain ⟨a, ha, Ra⟩ := Rg.at i hi'
    have o1 : @Ne Nat l I := hoff _ (.head _)
    have hoff3 : ∀ p ∈ tail, p.1 ≠ I := fun p hp => hoff p (.tail _ hp)
    clear hoff
    have hrl : (rs.getD i []).length ≤ 1000 := (hok _ (by rw [List.getD_eq_getElem?_getD, List.getElem?_eq_getElem hi']; exact List.getElem_mem hi')).2
    obtain ⟨to, hto⟩ : ∃ t, os[i]? = some (.int (ownerF rs i : Int) t) := hO.get i _ (by simp [ownersF, hi'])
    have hkl : ks.length = (keyedTo rs i).length := (hK _ fun p hp => (N2 p (.tail _ (.tail _ hp))).1).length
    have hkb : (keyedTo rs i).length ≤ i := by unfold keyedTo; exact Nat.le_trans (List.length_filterMap_le _ _) (by simp)
    have how := ownersF_getD hi'
    have hzi : (0 + (i : Int)).toNat = i := by walk_at "om"
    k_steps
    · with_reducible rename News _ _ _ _ => N9
      with_reducible rename Fr _ _ _ _ => F9
      have c1 : (ownersF rs).getD (0 + (i : Int)).toNat 0 = 0 + (i : Int) := by assumption
      have c2 : 0 < ((rs.getD i []).length : Int) := by assumption
      rw [hzi, how] at c1
      simp only [List.push_toArray] at N9
      rename_i D2 hh2 l1 hh3
      have NR := news_rot N9
      clear N9
      refine fin1 _ _ ?_
      refine LpEnd.mk F9 NR ?_ (exI4 _ _ _ _ ⟨upd1, rfl, ?_, ?_⟩)
      · intro p hp
        rcases List.mem_cons.mp hp with rfl | hp
        · exact o1
        · rcases List.mem_cons.mp hp with rfl | hp
          · exact Nat.ne_of_gt l1.1
          · exact hoff3 p hp
      · intro h H
        rw [keyedTo_yes (by walk_at "om") (by walk_at "om")]
        have e0 : (0 + (i : Int)) = (i : Int) := by walk_at "om"
        have H1 := H _ (.head _)
        rw [e0] at H1
        exact (hK h fun p hp => H p (.tail _ hp)).snoc H1
      · intro q hq
        rcases List.mem_cons.mp hq with rfl | hq
        · exact l1.2.1
        · exact hlt q hq
    · with_reducible rename News _ _ _ _ => N9
      with_reducible rename Fr _ _ _ _ => F9
      have c1 : (ownersF rs).getD (0 + (i : Int)).toNat 0 = 0 + (i : Int) := by assumption
      have c2 : ¬ 0 < ((rs.getD i []).length : Int) := by assumption
      rw [hzi, how] at c1
      refine fin1 _ _ ?_
      refine LpEnd.mk F9 N9 ?_ (exI4 _ _ _ _ ⟨upd1, rfl, ?_, hlt⟩)
      · intro p hp
        rcases List.mem_cons.mp hp with rfl | hp
        · exact o1
        · exact hoff3 p hp
      · rw [keyedTo_no (by walk_at "om")]
        exact hK
    · with_reducible rename News _ _ _ _ => N9
      with_reducible rename Fr _ _ _ _ => F9
      have c1 : (ownersF rs).getD (0 + (i : Int)).toNat 0 ≠ 0 + (i : Int) := by assumption
      rw [hzi, how] at c1
      refine fin1 _ _ ?_
      refine LpEnd.mk F9 N9 ?_ (exI4 _ _ _ _ ⟨upd1, rfl, ?_, hlt⟩)
      · intro p hp
        rcases List.mem_cons.mp hp with rfl | hp
        · exact o1
        · exact hoff3 p hp
      · rw [keyedTo_no (by walk_at "om")]
        exact hK
  · intro h' tk m' nw F2 N2 hJ1
    refine hide ?_
    intro P ret1
    refine exE4 hJ1 ?_
    clear hJ1
    intro nv ks e tail hE
    refine anE4 hE ?_
    clear hE
    intro hq1 hq2 hK hlt
    subst hq1
    subst hq2
    refine ret1 ?_
    clear ret1 P
    rw [show ((vs.length : Int) - 0).toNat = rs.length by walk_at "om"] at hK
    replace hK : ∀ h, Holds tail h → PairsAt h ks (keyedF rs) := hK
    k_steps
    refine sorted_pairs F2 N2 (fun _ q => q) (News.isList N2 (.head _)) (fun h H => hK h fun p hp => H p (.tail _ hp)) h1 h3 ?_
    intro D e' h3' tk' vs' F3 N3 l3 hP
    have lD : @LT.lt Nat _ l D := l3 _ (.head _)
    have hPl := (hP h3' fun p hp => (N3 p (.tail _ hp)).1).length
    have hsl := sort3_length h3
    refine Stop.mk (CompSrc.ledger rfl F3 N3 (.head _) (by rw [sizeLine_eq, List.size_toArray, hPl]; exact Nat.le_trans hsl (by decide)) ?_)
    intro gg
    refine rest_fix (news := (D, listOf (List.toArray vs') e') :: (l, listOf (List.toArray ks) e) :: tail) (fun i ys => IntsAre ys (((sort3 (keyedF rs)).take i).map (·.2))) ?_ ?_ ?_
    · exact .nil
    · rintro i ys v I oI C oC D2 m₂ h tk2 E' hi hI hv hC hx F9 N9 off ne
      simp only [Off3] at off
      have hi' : i < (sort3 (keyedF rs)).length := lt_of_arr hi hPl
      obtain ⟨a, n, t, u, e1, e2⟩ := (hP h fun p hp => (N9 p (.tail _ (.tail _ (.tail _ (.tail _ hp))))).1).at i hi'
      have hv' : v = .ref a := by
        have hv2 : vs'[i]? = some v := by simpa using hv
        rw [← e1, List.getD_eq_getElem?_getD, hv2]; rfl
      subst hv'
      k_steps
      refine pair_snd e2 ?_
      k_steps
      refine Stop.mk (CompEnd.intro F9 N9 ((D, listOf (List.toArray vs') e') :: (l, listOf (List.toArray ks) e) :: tail) (fun p hp => hp) off (.inr ⟨_, .head _, rfl, _, rfl⟩) ⟨rfl, ?_⟩)
      rw [List.take_add_one, List.getElem?_eq_getElem hi', List.map_append]
      rw [List.getD_eq_getElem?_getD, List.getElem?_eq_getElem hi']
      exact ints_snoc hI _ _
    · rintro ys hI
      intro D3 h tk2 F9 N9 off
      rw [List.take_of_length_le (by rw [List.size_toArray, hPl]; exact Nat.le_refl _)] at hI
      k_steps
      have z := N9 _ (.head _)
      refine ret D3 h tk2 ys _ ?_ z.1 hI (fun b o e => F9.keep b o (kg b o (by simp) e))
      cases e9 : s.heap.get? D3 with
      | none => rfl
      | some o => have := kg D3 o (by simp) e9; rw [z.2.2] at this; cases this

end O2
section O3
open PySem PySem.W PyProof.Rows PySem.Calls PySem.Spec PyProof.Rows.LCg
theorem use_comb (w : World) (dp un : Nat) (fr : List Env) (gd : Option (List Code)) (s : Shared) (Q E : Value → Shared → Prop) {h₀ : Heap} {L : Addr} {m : Str → Option Value} {news : List (Addr × Obj)} {mean : ExcName → Option Value} {mg mb : Str → Option Value}
    (F : Fr h₀ L s.heap m) (N : News h₀ L s.heap news) (X : (KD w.params).In h₀) (T : Top VD (looseW VD []) mean mg mb h₀) (hdp : dp < 900) (hun : un < 900)
    (ret : ∀ x dx t k ta tb h' tk', Fr h₀ L h' m → News h₀ L h' ((k, listOf #[] 0) :: (t, listOf #[] 0) :: (x, instObj 193 dx) :: (dx, combD w ta tb t k) :: news) → (∀ p ∈ news, @LT.lt Nat _ p.1 dx) → @LT.lt Nat _ dx x → @LT.lt Nat _ x t → @LT.lt Nat _ t k → Q (.ref x) { s with heap := h', toks := tk' }) :
    wpAny (model PySem.Challenge.rw_sf0018_01.row.prog w) (AT dp un fr gd) (call (.ref 193) []) Q E s := by
  revert X; k_fill; intro X
  refine call_cls (fI := 155) F X N (by k_is) (by k_is) (by k_is) ?_
  intro x dx h' F1 N1 l1 l2
  have st : h₀.StaysIn h' := F1.keep
  k_dflt (refine' enterP (binds := [(Str.ofString "self", .ref x)]) ?k1 ?k2 ?k3 [(x, instObj 193 dx), (dx, dictOf [] 0)] ?k4 ?k6 ?k7 ?k8 ?k9 ?kB ?_ ?c2 ?c3 ?c4 ?c5; (case k1 => exact X); (case k2 => exact T); (case k3 => exact st); (case k6 => k_is); (case k7 => k_is); (case k8 => ((simp only [depth_under_make]); (show dp + 1 < 1000); walk_at "om")); (case k9 => exact BindsTo.of_eq rfl); (case c5 => decide); (case kB => exact locs rfl); (case c2 => exact rfl); (case c3 => exact rfl); (case c4 => exact rfl))
  · intro q hq
    simp only [List.mem_cons, List.not_mem_nil, or_false] at hq
    rcases hq with rfl | rfl
    · exact ⟨(N1 _ (.head _)).1, (N1 _ (.head _)).2.2⟩
    · exact ⟨(N1 _ (.tail _ (.head _))).1, (N1 _ (.tail _ (.head _))).2.2⟩
  intro g L' h₁ F N Xg Tg stg sgs kg lt lsz
  conv in (fnBody _) => whnf
  conv in (occs := *) (fnScope _) => all_goals whnf
  have l2' : @LT.lt Nat _ dx x := l2
  have ndx : ∀ p ∈ news, p.1 ∉ [(x, instObj 193 dx), (dx, dictOf [] 0)].map (·.1) := fun p hp => by
    have h1 : @LT.lt Nat _ p.1 dx := l1 p hp
    have h2 : p.1 ≠ x := Nat.ne_of_lt (Nat.lt_trans h1 l2')
    have h3 : p.1 ≠ dx := Nat.ne_of_lt h1
    simp [h2, h3]
  clear l2
  k_steps
  with_reducible rename News _ _ _ _ => N9
  with_reducible rename Fr _ _ _ _ => F9
  obtain ⟨F8, N8⟩ := back_frame (mods := [(x, instObj 193 dx), (dx, dictOf [] 0)]) F1 N1 ndx kg F9.keep N9
  refine ⟨rfl, ret x dx _ _ _ _ _ _ F8 N8 l1 l2' ?_ ?_⟩
  · walk_at "om"
  · walk_at "om"

end O3
section O4
open PySem PySem.W PyProof.Rows PySem.Calls PySem.Spec PyProof.Rows.LCg
theorem C_free (w : World) (dp un : Nat) (fr : List Env) (gd : Option (List Code)) (s : Shared) (h₀ : Heap) (Q E : Value → Shared → Prop)
    (am : Amb w h₀) (st : h₀.StaysIn s.heap) (x dx t k : Addr) (ta tb : Tok) (cvs : List Value) (cs : List Int) (e : Nat) (hcs : IntsAre cvs cs) (cell : Int) (tc : Tok)
    (lxd : @LT.lt Nat _ dx x) (lxk : @LT.lt Nat _ x k)
    (hx : s.heap.get? x = some (instObj 193 dx)) (hdx : s.heap.get? dx = some (combD w ta tb t k)) (hk : s.heap.get? k = some (listOf (List.toArray cvs) e))
    (hx0 : h₀.get? x = none) (hdx0 : h₀.get? dx = none) (hk0 : h₀.get? k = none) (hc : 0 ≤ cell) (hc2 : cell ≤ 100000) (hcl : cs.length ≤ 100000)
    (hdp : dp < 900) (hun : un < 900)
    (ret : ∀ h' tk', (∀ b o, s.heap.get? b = some o → h'.get? b = some o) → Q (.bool (freeB cs cell)) { s with heap := h', toks := tk' }) :
    wpAny (model PySem.Challenge.rw_sf0018_01.row.prog w) (AT dp un fr gd) (call (.ref 162) [.ref x, .int cell tc]) Q E s := by
  obtain ⟨X, mean, mg, mb, T⟩ := am
  revert X; k_fill; intro X
  have hmods : ∀ q ∈ [(k, listOf (List.toArray cvs) e), (x, instObj 193 dx), (dx, combD w ta tb t k)], s.heap.get? q.1 = some q.2 ∧ h₀.get? q.1 = none := by
    intro q hq
    simp only [List.mem_cons, List.not_mem_nil, or_false] at hq
    rcases hq with rfl | rfl | rfl
    · exact ⟨hk, hk0⟩
    · exact ⟨hx, hx0⟩
    · exact ⟨hdx, hdx0⟩
  refine wpAny_call ?_
  k_dflt (refine' enterP (binds := [(Str.ofString "self", .ref x), (Str.ofString "cell", .int cell tc)]) ?k1 ?k2 ?k3 _ hmods ?k6 ?k7 ?k8 ?k9 ?kB ?_ ?c2 ?c3 ?c4 ?c5; (case k1 => assumption); (case k2 => assumption); (case k3 => assumption); (case k6 => k_is); (case k7 => k_is); (case k8 => ktr_room); (case k9 => exact BindsTo.of_eq rfl); (case c5 => decide); (case kB => exact locs rfl); (case c2 => exact rfl); (case c3 => exact rfl); (case c4 => exact rfl))
  intro g L' h₁ F N Xg Tg stg sgs kg lt lsz
  conv in (fnBody _) => whnf
  conv in (occs := *) (fnScope _) => all_goals whnf
  have hcvl := hcs.length
  k_steps
  · with_reducible rename News _ _ _ _ => N9
    with_reducible rename Fr _ _ _ _ => F9
    have c1 : (cvs.length : Int) ≤ cell := by assumption
    have ev : freeB cs cell = decide ((cvs.length : Int) ≤ cell) := by
      unfold freeB; rw [← hcvl, decide_eq_true c1]; rfl
    rw [ev] at ret
    exact ret _ _ (kept_all kg F9.keep hmods fun q hq => (N9 q hq).1)
  · with_reducible rename News _ _ _ _ => N9
    with_reducible rename Fr _ _ _ _ => F9
    have c1 : ¬ (cvs.length : Int) ≤ cell := by assumption
    have ev : freeB cs cell = (cs.getD cell.toNat 0 == 0) := by
      unfold freeB; rw [← hcvl, decide_eq_false c1, Bool.false_or]
      exact dec_beq _ _
    rw [ev] at ret
    exact ret _ _ (kept_all kg F9.keep hmods fun q hq => (N9 q hq).1)

end O4
section O5
open PySem PySem.W PyProof.Rows PySem.Calls PySem.Spec PyProof.Rows.LCg
theorem C_fits (w : World) (dp un : Nat) (fr : List Env) (gd : Option (List Code)) (s : Shared) (h₀ : Heap) (Q E : Value → Shared → Prop)
    (am : Amb w h₀) (st : h₀.StaysIn s.heap) (x dx t k : Addr) (ta tb : Tok) (cvs : List Value) (cs : List Int) (e : Nat) (hcs : IntsAre cvs cs) (base : Int) (tc : Tok)
    (lxd : @LT.lt Nat _ dx x) (lxk : @LT.lt Nat _ x k)
    (hx : s.heap.get? x = some (instObj 193 dx)) (hdx : s.heap.get? dx = some (combD w ta tb t k)) (hk : s.heap.get? k = some (listOf (List.toArray cvs) e))
    (hx0 : h₀.get? x = none) (hdx0 : h₀.get? dx = none) (hk0 : h₀.get? k = none)
    (lc : Addr) (cols : List Int) (lvs : List Value) (hlc : s.heap.IsList lc lvs.toArray) (hne : @LT.lt Nat _ lc dx ∨ @LT.lt Nat _ k lc) (hlI : IntsAre lvs cols)
    (hc : ∀ c ∈ cols, 0 ≤ base + c ∧ base + c ≤ 100000) (hcl : cs.length ≤ 100000)
    (hdp : dp < 800) (hun : un < 800)
    (ret : ∀ h' tk', (∀ b o, s.heap.get? b = some o → h'.get? b = some o) → Q (.bool (fitsB cs cols base)) { s with heap := h', toks := tk' }) :
    wpAny (model PySem.Challenge.rw_sf0018_01.row.prog w) (AT dp un fr gd) (call (.ref 169) [.ref x, .int base tc, .ref lc]) Q E s := by
  obtain ⟨X, mean, mg, mb, T⟩ := am
  revert X; k_fill; intro X
  have hmods : ∀ q ∈ [(k, listOf (List.toArray cvs) e), (x, instObj 193 dx), (dx, combD w ta tb t k)], s.heap.get? q.1 = some q.2 ∧ h₀.get? q.1 = none := by
    intro q hq
    simp only [List.mem_cons, List.not_mem_nil, or_false] at hq
    rcases hq with rfl | rfl | rfl
    · exact ⟨hk, hk0⟩
    · exact ⟨hx, hx0⟩
    · exact ⟨hdx, hdx0⟩
  refine wpAny_call ?_
  k_dflt (refine' enterP (binds := [(Str.ofString "self", .ref x), (Str.ofString "base", .int base tc), (Str.ofString "columns", .ref lc)]) ?k1 ?k2 ?k3 _ hmods ?k6 ?k7 ?k8 ?k9 ?kB ?_ ?c2 ?c3 ?c4 ?c5; (case k1 => assumption); (case k2 => assumption); (case k3 => assumption); (case k6 => k_is); (case k7 => k_is); (case k8 => ktr_room); (case k9 => exact BindsTo.of_eq rfl); (case c5 => decide); (case kB => exact locs rfl); (case c2 => exact rfl); (case c3 => exact rfl); (case c4 => exact rfl))
  intro g L' h₁ F N Xg Tg stg sgs kg lt lsz
  conv in (fnBody _) => whnf
  conv in (occs := *) (fnScope _) => all_goals whnf
  have hcvl := hcs.length
  have hnm : lc ∉ [(k, listOf (List.toArray cvs) e), (x, instObj 193 dx), (dx, combD w ta tb t k)].map (·.1) := by
    have h1 : lc ≠ k := by rcases hne with q | q <;> (intro e; subst e; walk_at "om")
    have h2 : lc ≠ x := by rcases hne with q | q <;> (intro e; subst e; walk_at "om")
    have h3 : lc ≠ dx := by rcases hne with q | q <;> (intro e; subst e; walk_at "om")
    simp [h1, h2, h3]
  have hlg : g.IsList lc lvs.toArray := hlc.at fun o e => kg _ _ hnm e
  k_steps
  with_reducible rename News _ _ _ _ => N1
  with_reducible rename Fr _ _ _ _ => F1
  have hlvl := hlI.length
  refine Stop.mk (loop_list (by rfl) F1 N1 hlg
    (fun i m nw => (∃ nv, m = (fun y => if y = Str.ofString "column" then nv else List.lookup y [(Str.ofString "self", Value.ref x), (Str.ofString "base", Value.int base tc), (Str.ofString "columns", Value.ref lc)].reverse)) ∧ nw = [(k, listOf (List.toArray cvs) e), (x, instObj 193 dx), (dx, combD w ta tb t k)] ∧ fitsB cs (cols.take i) base = true) ?_ ?_ ?_)
  · exact ⟨⟨none, ini1 (by rfl)⟩, rfl, rfl⟩
  · intro i v m₁ nw I oI h₁ tk₁ hv hJ1 hoff F2 N2
    refine hideB ?_
    intro Post1 fin1 P ret1
    obtain ⟨⟨nv, rfl⟩, rfl, hf⟩ := hJ1
    refine ret1 ?_
    clear ret1 P
    obtain ⟨z, tz, rfl, hz⟩ := hlI.at i v hv
    have o1 : @Ne Nat k I := hoff _ (.head _)
    have o2 : @Ne Nat x I := hoff _ (.tail _ (.head _))
    have o3 : @Ne Nat dx I := hoff _ (.tail _ (.tail _ (.head _)))
    have hzc := hc z (List.mem_of_getElem? hz)
    have hfs := fits_step hz hf
    k_steps
    refine C_free w _ _ _ _ _ g _ _ ⟨Xg, _, _, _, Tg⟩ (by exact F2.keep) x dx t k ta tb cvs cs e hcs (base + z) _ lxd lxk (N2 _ (.tail _ (.tail _ (.head _)))).1 (N2 _ (.tail _ (.tail _ (.tail _ (.head _))))).1 (N2 _ (.tail _ (.head _))).1 (N2 _ (.tail _ (.tail _ (.head _)))).2.2 (N2 _ (.tail _ (.tail _ (.tail _ (.head _))))).2.2 (N2 _ (.tail _ (.head _))).2.2 hzc.1 hzc.2 hcl (by walk_at "c room") (by walk_at "c room") ?_
    intro h3 tk3 kk
    have F3 := Fr.keeps F2 kk
    have N3 := news_kept N2 kk
    clear F2 N2
    cases hfr : freeB cs (base + z) with
    | true =>
      k_steps
      with_reducible rename News _ _ _ _ => N9
      with_reducible rename Fr _ _ _ _ => F9
      refine fin1 _ _ ?_
      exact Stop.mk ⟨_, _, _, _, rfl, F9, N9, hoff, ⟨_, upd1⟩, rfl, hfs.1 hfr⟩
    | false =>
      k_steps
      with_reducible rename News _ _ _ _ => N9
      with_reducible rename Fr _ _ _ _ => F9
      rw [hfs.2 hfr] at ret
      refine fin1 _ _ ?_
      refine Stop.mk ?_
      dsimp only [LpEnd]
      refine nr_go (by assumption) ?_
      exact ret _ _ (kept_all kg F9.keep hmods fun q hq => (N9 q (.tail _ hq)).1)
  · intro h' tk m' nw F2 N2 hJ1
    refine hide ?_
    intro P ret1
    obtain ⟨⟨nv, rfl⟩, rfl, hf⟩ := hJ1
    refine ret1 ?_
    clear ret1 P
    rw [hlvl, List.take_length] at hf
    k_steps
    rw [hf] at ret
    exact ret _ _ (kept_all kg F2.keep hmods fun q hq => (N2 q hq).1)

end O5
section O6
open PySem PySem.W PyProof.Rows PySem.Calls PySem.Spec PyProof.Rows.LCg
theorem C_ffit (w : World) (dp un : Nat) (fr : List Env) (gd : Option (List Code)) (s : Shared) (h₀ : Heap) (Q E : Value → Shared → Prop)
    (am : Amb w h₀) (st : h₀.StaysIn s.heap) (x dx t k : Addr) (ta tb : Tok) (cvs : List Value) (cs : List Int) (e : Nat) (hcs : IntsAre cvs cs) 
    (lxd : @LT.lt Nat _ dx x) (lxk : @LT.lt Nat _ x k)
    (hx : s.heap.get? x = some (instObj 193 dx)) (hdx : s.heap.get? dx = some (combD w ta tb t k)) (hk : s.heap.get? k = some (listOf (List.toArray cvs) e))
    (hx0 : h₀.get? x = none) (hdx0 : h₀.get? dx = none) (hk0 : h₀.get? k = none)
    (lc : Addr) (cols : List Int) (lvs : List Value) (hlc : s.heap.IsList lc lvs.toArray) (hne : @LT.lt Nat _ lc dx ∨ @LT.lt Nat _ k lc) (hlI : IntsAre lvs cols)
    (hc : ∀ c ∈ cols, cols.getD 0 0 ≤ c ∧ c ≤ 10000) (hc0 : 0 ≤ cols.getD 0 0) (hcn : 0 < cols.length) (hcl : cs.length ≤ 20000)
    (hdp : dp < 700) (hun : un < 700)
    (ret : ∀ h' tk', (∀ b o, s.heap.get? b = some o → h'.get? b = some o) → ∀ tr, Q (.int (firstF cs cols) tr) { s with heap := h', toks := tk' }) :
    wpAny (model PySem.Challenge.rw_sf0018_01.row.prog w) (AT dp un fr gd) (call (.ref 176) [.ref x, .ref lc]) Q E s := by
  obtain ⟨X, mean, mg, mb, T⟩ := am
  revert X; k_fill; intro X
  have hmods : ∀ q ∈ [(k, listOf (List.toArray cvs) e), (x, instObj 193 dx), (dx, combD w ta tb t k)], s.heap.get? q.1 = some q.2 ∧ h₀.get? q.1 = none := by
    intro q hq
    simp only [List.mem_cons, List.not_mem_nil, or_false] at hq
    rcases hq with rfl | rfl | rfl
    · exact ⟨hk, hk0⟩
    · exact ⟨hx, hx0⟩
    · exact ⟨hdx, hdx0⟩
  refine wpAny_call ?_
  k_dflt (refine' enterP (binds := [(Str.ofString "self", .ref x), (Str.ofString "columns", .ref lc)]) ?k1 ?k2 ?k3 _ hmods ?k6 ?k7 ?k8 ?k9 ?kB ?_ ?c2 ?c3 ?c4 ?c5; (case k1 => assumption); (case k2 => assumption); (case k3 => assumption); (case k6 => k_is); (case k7 => k_is); (case k8 => ktr_room); (case k9 => exact BindsTo.of_eq rfl); (case c5 => decide); (case kB => exact locs rfl); (case c2 => exact rfl); (case c3 => exact rfl); (case c4 => exact rfl))
  intro g L' h₁ F N Xg Tg stg sgs kg lt lsz
  conv in (fnBody _) => whnf
  conv in (occs := *) (fnScope _) => all_goals whnf
  have hcvl := hcs.length
  have hnm : lc ∉ [(k, listOf (List.toArray cvs) e), (x, instObj 193 dx), (dx, combD w ta tb t k)].map (·.1) := by
    have h1 : lc ≠ k := by rcases hne with q | q <;> (intro e; subst e; walk_at "om")
    have h2 : lc ≠ x := by rcases hne with q | q <;> (intro e; subst e; walk_at "om")
    have h3 : lc ≠ dx := by rcases hne with q | q <;> (intro e; subst e; walk_at "om")
    simp [h1, h2, h3]
  have hlg : g.IsList lc lvs.toArray := hlc.at fun o e => kg _ _ hnm e
  have hlvl := hlI.length
  k_steps
  with_reducible rename News _ _ _ _ => N1
  with_reducible rename Fr _ _ _ _ => F1
  have hcc : ∀ c ∈ cols, cols.getD 0 0 ≤ c := fun c hc' => (hc c hc').1
  refine Stop.mk (While_inv (n₀ := cs.length) (fun n m nw => ∃ b tb', m = (fun y => if y = Str.ofString "base" then some (Value.int b tb') else List.lookup y [(Str.ofString "self", Value.ref x), (Str.ofString "columns", Value.ref lc)].reverse) ∧ nw = [(k, listOf (List.toArray cvs) e), (x, instObj 193 dx), (dx, combD w ta tb t k)] ∧ b = -(cols.getD 0 0) + ((cs.length : Int) - n) ∧ n ≤ cs.length ∧ fitFrom cs cols (n + 1) b = firstF cs cols) F1 N1 ?_ ?_ passes_false)
  · exact ⟨-(cols.getD 0 0), _, rfl, rfl, by walk_at "om", Nat.le_refl _, rfl⟩
  · intro n m₁ nw h₂ tk₂ F2 N2 hJ1
    refine hide ?_
    intro P ret1
    refine exE2 hJ1 ?_
    clear hJ1
    intro b tb' hE
    refine anE5 hE ?_
    clear hE
    intro hq1 hq2 eb hn hfit
    subst hq1
    subst hq2
    refine ret1 ?_
    clear ret1 P
    k_steps
    refine C_fits w _ _ _ _ _ g _ _ ⟨Xg, _, _, _, Tg⟩ (by exact F2.keep) x dx t k ta tb cvs cs e hcs b _ lxd lxk (N2 _ (.tail _ (.head _))).1 (N2 _ (.tail _ (.tail _ (.head _)))).1 (N2 _ (.head _)).1 (N2 _ (.tail _ (.head _))).2.2 (N2 _ (.tail _ (.tail _ (.head _)))).2.2 (N2 _ (.head _)).2.2
      lc cols lvs (by exact hlg.at fun o e => F2.keep _ o e) hne hlI (fun c hc' => by have := hc c hc'; walk_at "om") (by walk_at "om") (by walk_at "c room") (by walk_at "c room") ?_
    intro h3 tk3 kk
    have F3 := Fr.keeps F2 kk
    have N3 := news_kept N2 kk
    clear F2 N2
    cases hfr : fitsB cs cols b with
    | true =>
      have eb2 : firstF cs cols = b := by rw [← hfit]; unfold fitFrom; rw [if_pos hfr]
      k_steps
      with_reducible rename News _ _ _ _ => N9
      with_reducible rename Fr _ _ _ _ => F9
      rw [eb2] at ret
      exact ret _ _ (kept_all kg F9.keep hmods fun q hq => (N9 q hq).1) _
    | false =>
      have hn1 : 1 ≤ n := by
        rcases Nat.eq_zero_or_pos n with q | q
        · rw [fits_high (cs := cs) (b := b) hcc (by walk_at "om")] at hfr; cases hfr
        · exact q
      k_steps
      with_reducible rename News _ _ _ _ => N9
      with_reducible rename Fr _ _ _ _ => F9

      refine WhileStep.intro (n' := n - 1) F9 N9 (by walk_at "om") (exI2 _ _ ⟨upd1, rfl, by walk_at "om", by walk_at "om", ?_⟩)
      rw [← hfit]
      obtain ⟨n', rfl⟩ : ∃ n', n = n' + 1 := ⟨n - 1, by walk_at "om"⟩
      conv => rhs; unfold fitFrom
      rw [if_neg (by rw [hfr]; decide)]
      rfl

end O6
section O7
open PySem PySem.W PyProof.Rows PySem.Calls PySem.Spec PyProof.Rows.LCg
theorem C_grow (w : World) (dp un : Nat) (fr : List Env) (gd : Option (List Code)) (s : Shared) (h₀ : Heap) (Q E : Value → Shared → Prop)
    (am : Amb w h₀) (st : h₀.StaysIn s.heap) (x dx t k : Addr) (ta tb : Tok) (tvs cvs : List Value) (ts cs : List Int) (e e2 : Nat) (hcs : IntsAre cvs cs) (hts : IntsAre tvs ts) (many : Int) (tc : Tok)
    (lxd : @LT.lt Nat _ dx x) (lxt : @LT.lt Nat _ x t) (ltk : @LT.lt Nat _ t k)
    (hx : s.heap.get? x = some (instObj 193 dx)) (hdx : s.heap.get? dx = some (combD w ta tb t k)) (ht : s.heap.get? t = some (listOf (List.toArray tvs) e2)) (hk : s.heap.get? k = some (listOf (List.toArray cvs) e))
    (hx0 : h₀.get? x = none) (hdx0 : h₀.get? dx = none) (ht0 : h₀.get? t = none) (hk0 : h₀.get? k = none) (hcl : cs.length ≤ 20000) (htl : ts.length ≤ 20000) (hmn : many ≤ 40000)
    (hdp : dp < 800) (hun : un < 800)
    (ret : ∀ h' tk' tvs' cvs' e' e2', IntsAre cvs' (cs ++ List.replicate (many - cs.length).toNat 0) → IntsAre tvs' (ts ++ List.replicate (many - cs.length).toNat 0) → h'.get? t = some (listOf (List.toArray tvs') e2') → h'.get? k = some (listOf (List.toArray cvs') e') →
      (∀ b o, b ≠ t → b ≠ k → s.heap.get? b = some o → h'.get? b = some o) → Q .none { s with heap := h', toks := tk' }) :
    wpAny (model PySem.Challenge.rw_sf0018_01.row.prog w) (AT dp un fr gd) (call (.ref 183) [.ref x, .int many tc]) Q E s := by
  obtain ⟨X, mean, mg, mb, T⟩ := am
  revert X; k_fill; intro X
  have hmods : ∀ q ∈ [(k, listOf (List.toArray cvs) e), (t, listOf (List.toArray tvs) e2), (x, instObj 193 dx), (dx, combD w ta tb t k)], s.heap.get? q.1 = some q.2 ∧ h₀.get? q.1 = none := by
    intro q hq
    simp only [List.mem_cons, List.not_mem_nil, or_false] at hq
    rcases hq with rfl | rfl | rfl | rfl
    · exact ⟨hk, hk0⟩
    · exact ⟨ht, ht0⟩
    · exact ⟨hx, hx0⟩
    · exact ⟨hdx, hdx0⟩
  refine wpAny_call ?_
  k_dflt (refine' enterP (binds := [(Str.ofString "self", .ref x), (Str.ofString "many", .int many tc)]) ?k1 ?k2 ?k3 _ hmods ?k6 ?k7 ?k8 ?k9 ?kB ?_ ?c2 ?c3 ?c4 ?c5; (case k1 => assumption); (case k2 => assumption); (case k3 => assumption); (case k6 => k_is); (case k7 => k_is); (case k8 => ktr_room); (case k9 => exact BindsTo.of_eq rfl); (case c5 => decide); (case kB => exact locs rfl); (case c2 => exact rfl); (case c3 => exact rfl); (case c4 => exact rfl))
  intro g L' h₁ F N Xg Tg stg sgs kg lt lsz
  conv in (fnBody _) => whnf
  conv in (occs := *) (fnScope _) => all_goals whnf
  k_steps
  refine Stop.mk (While_inv (n₀ := (many - cs.length).toNat) (fun n m nw => ∃ tvs' cvs' e' e2' j, m = (fun y => List.lookup y [(Str.ofString "self", Value.ref x), (Str.ofString "many", Value.int many tc)].reverse) ∧ nw = [(k, listOf (List.toArray cvs') e'), (t, listOf (List.toArray tvs') e2'), (x, instObj 193 dx), (dx, combD w ta tb t k)] ∧ IntsAre cvs' (cs ++ List.replicate j 0) ∧ IntsAre tvs' (ts ++ List.replicate j 0) ∧ n + j = (many - cs.length).toNat) F N ?_ ?_ passes_false)
  · exact ⟨tvs, cvs, e, e2, 0, rfl, rfl, by simpa using hcs, by simpa using hts, rfl⟩
  · intro n m₁ nw h₂ tk₂ F2 N2 hJ1
    refine hide ?_
    intro P ret1
    refine exE5 hJ1 ?_
    clear hJ1
    intro tvs' cvs' e' e2' j hE
    refine anE5 hE ?_
    clear hE
    intro hq1 hq2 hc' ht' hn
    subst hq1
    subst hq2
    refine ret1 ?_
    clear ret1 P
    have hcl' := hc'.length
    have htl' := ht'.length
    rw [List.length_append, List.length_replicate] at hcl' htl'
    k_steps
    · with_reducible rename News _ _ _ _ => N9
      with_reducible rename Fr _ _ _ _ => F9
      have c1 : (cvs'.length : Int) < many := by assumption
      simp only [List.push_toArray] at N9
      refine WhileStep.intro (n' := n - 1) F9 N9 (by walk_at "om") (exI5 _ _ _ _ (j + 1) ⟨rfl, rfl, ?_, ?_, by walk_at "om"⟩)
      · rw [rep_snoc]; exact ints_snoc hc' _ _
      · rw [rep_snoc]; exact ints_snoc ht' _ _
    · with_reducible rename News _ _ _ _ => N9
      with_reducible rename Fr _ _ _ _ => F9
      have c1 : ¬ (cvs'.length : Int) < many := by assumption
      have hj : j = (many - cs.length).toNat := by walk_at "om"
      subst hj
      refine ret _ _ _ _ _ _ hc' ht' (N9 _ (.tail _ (.head _))).1 (N9 _ (.head _)).1 (kept_but kg F9.keep hmods fun q hq h1 h2 => ?_)
      simp only [List.mem_cons, List.not_mem_nil, or_false] at hq
      rcases hq with rfl | rfl | rfl | rfl
      · exact absurd rfl h2
      · exact absurd rfl h1
      · exact (N9 _ (.tail _ (.tail _ (.head _)))).1
      · exact (N9 _ (.tail _ (.tail _ (.tail _ (.head _))))).1

end O7
section O8
open PySem PySem.W PyProof.Rows PySem.Calls PySem.Spec PyProof.Rows.LCg
theorem C_put (w : World) (dp un : Nat) (fr : List Env) (gd : Option (List Code)) (s : Shared) (h₀ : Heap) (Q E : Value → Shared → Prop)
    (am : Amb w h₀) (st : h₀.StaysIn s.heap) (x dx t k : Addr) (ta tb : Tok) (tvs cvs : List Value) (ts cs : List Int) (e e2 : Nat) (hcs : IntsAre cvs cs) (hts : IntsAre tvs ts) (owner : Int) (tc : Tok)
    (lxd : @LT.lt Nat _ dx x) (lxt : @LT.lt Nat _ x t) (ltk : @LT.lt Nat _ t k)
    (hx : s.heap.get? x = some (instObj 193 dx)) (hdx : s.heap.get? dx = some (combD w ta tb t k)) (ht : s.heap.get? t = some (listOf (List.toArray tvs) e2)) (hk : s.heap.get? k = some (listOf (List.toArray cvs) e))
    (hx0 : h₀.get? x = none) (hdx0 : h₀.get? dx = none) (ht0 : h₀.get? t = none) (hk0 : h₀.get? k = none) (hcl : cs.length ≤ 9000) (htl : ts.length = cs.length)
    (d : Addr) (row : List (Int × Int)) (R : RowAt PySem.Challenge.rw_sf0018_01.row.prog w h₀ d row) (hok : RowOk row) (hne : row ≠ []) (hkey : ∀ p ∈ row, 0 ≤ p.1 ∧ p.1 ≤ 1000)
    (hdp : dp < 600) (hun : un < 600)
    (ret : ∀ h' tk' tvs' cvs' e' e2' tr, IntsAre cvs' (putC owner row cs) → IntsAre tvs' (putT row ts cs) → h'.get? t = some (listOf (List.toArray tvs') e2') → h'.get? k = some (listOf (List.toArray cvs') e') →
      (∀ b o, b ≠ t → b ≠ k → s.heap.get? b = some o → h'.get? b = some o) → Q (.int (putB row cs) tr) { s with heap := h', toks := tk' }) :
    wpAny (model PySem.Challenge.rw_sf0018_01.row.prog w) (AT dp un fr gd) (call (.ref 190) [.ref x, .int owner tc, .ref d]) Q E s := by
  obtain ⟨X, mean, mg, mb, T⟩ := am
  revert X; k_fill; intro X
  have hmods : ∀ q ∈ [(k, listOf (List.toArray cvs) e), (t, listOf (List.toArray tvs) e2), (x, instObj 193 dx), (dx, combD w ta tb t k)], s.heap.get? q.1 = some q.2 ∧ h₀.get? q.1 = none := by
    intro q hq
    simp only [List.mem_cons, List.not_mem_nil, or_false] at hq
    rcases hq with rfl | rfl | rfl | rfl
    · exact ⟨hk, hk0⟩
    · exact ⟨ht, ht0⟩
    · exact ⟨hx, hx0⟩
    · exact ⟨hdx, hdx0⟩
  refine wpAny_call ?_
  k_dflt (refine' enterP (binds := [(Str.ofString "self", .ref x), (Str.ofString "owner", .int owner tc), (Str.ofString "row", .ref d)]) ?k1 ?k2 ?k3 _ hmods ?k6 ?k7 ?k8 ?k9 ?kB ?_ ?c2 ?c3 ?c4 ?c5; (case k1 => assumption); (case k2 => assumption); (case k3 => assumption); (case k6 => k_is); (case k7 => k_is); (case k8 => ktr_room); (case k9 => exact BindsTo.of_eq rfl); (case c5 => decide); (case kB => exact locs rfl); (case c2 => exact rfl); (case c3 => exact rfl); (case c4 => exact rfl))
  intro g L' h₁ F N Xg Tg stg sgs kg lt lsz
  conv in (fnBody _) => whnf
  conv in (occs := *) (fnScope _) => all_goals whnf
  have Rg : RowAt PySem.Challenge.rw_sf0018_01.row.prog w g d row := R.keeps fun o e => stg _ _ e
  have hrl : row.length ≤ 1000 := hok.2
  have hr0 : 0 < row.length := List.length_pos_iff.mpr hne
  k_steps
  refine sorted_row rfl F N Rg hok.1 (by walk_at "om") ?_
  intro D h2 tk2 lvs ns eD F1 N1 lt1 hI hp hs
  have hlen : lvs.length = row.length := by rw [hI.length, hp.length_eq, List.length_map]
  have hnl : ns.length = row.length := by rw [hp.length_eq, List.length_map]
  have lD : @LT.lt Nat _ k D := lt1 _ (.head _)
  have lD2 : @LT.lt Nat _ t D := lt1 _ (.tail _ (.head _))
  have hnk : ∀ c ∈ ns, 0 ≤ c ∧ c ≤ 1000 := fun c hc => by
    obtain ⟨p, hp', rfl⟩ := List.mem_map.mp (hp.subset hc)
    exact hkey p hp'
  have hlo := sorted_head hs
  have hhi := sorted_last hs
  have hns := sortK_eq hp hs
  have hfb := firstF_bounds (cs := cs) hlo
  have hn0 : 0 ≤ ns.getD 0 0 := by
    rw [List.getD_eq_getElem?_getD, List.getElem?_eq_getElem (by walk_at "om" : 0 < ns.length)]
    exact (hnk _ (List.getElem_mem _)).1
  have hn1 : ns.getD (ns.length - 1) 0 ≤ 1000 ∧ 0 ≤ ns.getD (ns.length - 1) 0 := by
    rw [List.getD_eq_getElem?_getD, List.getElem?_eq_getElem (by walk_at "om" : ns.length - 1 < ns.length)]
    exact ⟨(hnk _ (List.getElem_mem _)).2, (hnk _ (List.getElem_mem _)).1⟩
  clear F N
  k_steps
  with_reducible rename News _ _ _ _ => N2
  with_reducible rename Fr _ _ _ _ => F2
  refine C_ffit w _ _ _ _ _ g _ _ ⟨Xg, _, _, _, Tg⟩ (by exact F2.keep) x dx t k ta tb cvs cs e hcs lxd (by walk_at "om") (N2 _ (.tail _ (.tail _ (.tail _ (.head _))))).1 (N2 _ (.tail _ (.tail _ (.tail _ (.tail _ (.head _)))))).1 (N2 _ (.tail _ (.head _))).1 (N2 _ (.tail _ (.tail _ (.tail _ (.head _))))).2.2 (N2 _ (.tail _ (.tail _ (.tail _ (.tail _ (.head _)))))).2.2 (N2 _ (.tail _ (.head _))).2.2
    D ns lvs (by exact News.isList N2 (.head _)) (.inr lD) hI (fun c hc => ⟨hlo c hc, by have := hnk c hc; walk_at "om"⟩) hn0 (by walk_at "om") (by walk_at "om") (by walk_at "c room") (by walk_at "c room") ?_
  intro h3 tk3 kk tr
  have F3 := Fr.keeps F2 kk
  have N3 := news_kept N2 kk
  clear F2 N2
  k_steps
  with_reducible rename News _ _ _ _ => N4
  with_reducible rename Fr _ _ _ _ => F4
  have hlast : ns.getD (-1 + (ns.length : Int)).toNat 0 = ns.getD (ns.length - 1) 0 := by congr 1; walk_at "om"
  rw [hlast]
  refine C_grow w _ _ _ _ _ g _ _ ⟨Xg, _, _, _, Tg⟩ (by exact F4.keep) x dx t k ta tb tvs cvs ts cs e e2 hcs hts _ _ lxd lxt ltk (N4 _ (.tail _ (.tail _ (.tail _ (.head _))))).1 (N4 _ (.tail _ (.tail _ (.tail _ (.tail _ (.head _)))))).1 (N4 _ (.tail _ (.tail _ (.head _)))).1 (N4 _ (.tail _ (.head _))).1 (N4 _ (.tail _ (.tail _ (.tail _ (.head _))))).2.2 (N4 _ (.tail _ (.tail _ (.tail _ (.tail _ (.head _)))))).2.2 (N4 _ (.tail _ (.tail _ (.head _)))).2.2 (N4 _ (.tail _ (.head _))).2.2
    (by walk_at "om") (by walk_at "om") (by walk_at "om") (by walk_at "c room") (by walk_at "c room") ?_
  intro h5 tk5 tvs5 cvs5 e5 e25 hc5 ht5 gt5 gk5 kk5
  obtain ⟨F5, N5⟩ := back_two (news' := [(D, listOf (List.toArray lvs) eD), (k, listOf (List.toArray cvs5) e5), (t, listOf (List.toArray tvs5) e25), (x, instObj 193 dx), (dx, combD w ta tb t k)]) F4 N4 ⟨_, .tail _ (.tail _ (.head _))⟩ ⟨_, .tail _ (.head _)⟩ kk5 gt5 gk5 (by
    intro p hp
    simp only [List.mem_cons, List.not_mem_nil, or_false] at hp
    rcases hp with rfl | rfl | rfl | rfl | rfl
    · exact .inr (.inr ⟨Nat.ne_of_gt lD2, Nat.ne_of_gt lD, .head _⟩)
    · exact .inr (.inl rfl)
    · exact .inl rfl
    · exact .inr (.inr ⟨Nat.ne_of_lt lxt, Nat.ne_of_lt (Nat.lt_trans lxt ltk), .tail _ (.tail _ (.tail _ (.head _)))⟩)
    · exact .inr (.inr ⟨Nat.ne_of_lt (Nat.lt_trans lxd lxt), Nat.ne_of_lt (Nat.lt_trans lxd (Nat.lt_trans lxt ltk)), .tail _ (.tail _ (.tail _ (.tail _ (.head _))))⟩))
  clear F4 N4 kk5 gt5 gk5
  have eN : (firstF cs ns + ns.getD (ns.length - 1) 0 + 1 - (cs.length : Int)).toNat = putN row cs := by
    unfold putN putB lastF; rw [← hns]
  rw [eN] at hc5 ht5
  have hN : (cs.length : Int) + (putN row cs : Int) ≥ firstF cs ns + ns.getD (ns.length - 1) 0 + 1 := by rw [← eN]; walk_at "om"
  have hcl5 := hc5.length
  have htl5 := ht5.length
  rw [List.length_append, List.length_replicate] at hcl5 htl5
  have eB : putB row cs = firstF cs ns := by unfold putB; rw [← hns]
  have eT : setsF (ts ++ List.replicate (putN row cs) 0) (firstF cs ns) (lookD row) ns = putT row ts cs := by unfold putT putB; rw [← hns]
  have eC : setsF (cs ++ List.replicate (putN row cs) 0) (firstF cs ns) (fun _ => owner + 1) ns = putC owner row cs := by unfold putC putB; rw [← hns]
  generalize hb : firstF cs ns = b at *
  k_steps
  with_reducible rename News _ _ _ _ => N6
  with_reducible rename Fr _ _ _ _ => F6
  refine Stop.mk (loop_led (ax := D) (vs := lvs) (e := eD) (by rfl) F6 N6
    (fun i m nw => ∃ tvs' cvs' e' e2' nv, m = (fun y => if y = Str.ofString "column" then nv else if y = Str.ofString "base" then some (Value.int b tr) else if y = Str.ofString "columns" then some (Value.ref D) else List.lookup y [(Str.ofString "self", Value.ref x), (Str.ofString "owner", Value.int owner tc), (Str.ofString "row", Value.ref d)].reverse) ∧
      nw = [(D, listOf (List.toArray lvs) eD), (k, listOf (List.toArray cvs') e'), (t, listOf (List.toArray tvs') e2'), (x, instObj 193 dx), (dx, combD w ta tb t k)] ∧
      IntsAre cvs' (setsF (cs ++ List.replicate (putN row cs) 0) b (fun _ => owner + 1) (ns.take i)) ∧ IntsAre tvs' (setsF (ts ++ List.replicate (putN row cs) 0) b (lookD row) (ns.take i))) ?_ ?_ ?_ ?_)
  · rintro i m nw ⟨tvs', cvs', e', e2', nv, rfl, rfl, _, _⟩
    exact .head _
  · exact ⟨tvs5, cvs5, e5, e25, none, ini1 (by rfl), rfl, hc5, ht5⟩
  · intro i v m₁ nw I oI h6 tk6 hv hJ1 hoff F7 N7
    refine hideB ?_
    intro Post1 fin1 P ret1
    refine exE5 hJ1 ?_
    clear hJ1
    intro tvs' cvs' e' e2' nv hE
    refine anE4 hE ?_
    clear hE
    intro hq1 hq2 hc' ht'
    subst hq1
    subst hq2
    refine ret1 ?_
    clear ret1 P
    obtain ⟨z, tz, rfl, hz⟩ := hI.at i v hv
    have o0 : @Ne Nat D I := hoff _ (.head _)
    have o1 : @Ne Nat k I := hoff _ (.tail _ (.head _))
    have o2 : @Ne Nat t I := hoff _ (.tail _ (.tail _ (.head _)))
    have o3 : @Ne Nat x I := hoff _ (.tail _ (.tail _ (.tail _ (.head _))))
    have o4 : @Ne Nat dx I := hoff _ (.tail _ (.tail _ (.tail _ (.tail _ (.head _)))))
    have hzm := List.mem_of_getElem? hz
    have hz1 := hlo z hzm
    have hz2 := hhi z hzm
    have hmem : z ∈ row.map (·.1) := hp.subset hzm
    have hcl' := hc'.length
    have htl' := ht'.length
    rw [setsF_length, List.length_append, List.length_replicate] at hcl' htl'
    k_steps
    with_reducible rename News _ _ _ _ => N9
    with_reducible rename Fr _ _ _ _ => F9
    refine fin1 _ _ ?_
    refine LpEnd.mk F9 N9 ?_ (exI5 _ _ _ _ _ ⟨upd1, rfl, ?_, ?_⟩)
    · intro p hp
      simp only [List.mem_cons, List.not_mem_nil, or_false] at hp
      rcases hp with rfl | rfl | rfl | rfl | rfl
      · exact o0
      · exact o1
      · exact o2
      · exact o3
      · exact o4
    · rw [setsF_take hz]; exact ints_set hc' _ _ _
    · rw [setsF_take hz]; exact ints_set ht' _ _ _
  · intro h6 tk6 m' nw F7 N7 hJ1
    refine hide ?_
    intro P ret1
    refine exE5 hJ1 ?_
    clear hJ1
    intro tvs' cvs' e' e2' nv hE
    refine anE4 hE ?_
    clear hE
    intro hq1 hq2 hc' ht'
    subst hq1
    subst hq2
    refine ret1 ?_
    clear ret1 P
    rw [show ns.take lvs.length = ns from by rw [hlen, ← hnl, List.take_length]] at hc' ht'
    k_steps
    rw [eC] at hc'
    rw [eT] at ht'
    rw [eB] at ret
    refine ret h6 _ _ _ _ _ tr hc' ht' (N7 _ (.tail _ (.tail _ (.head _)))).1 (N7 _ (.tail _ (.head _))).1 (kept_but kg F7.keep hmods fun q hq h1 h2 => ?_)
    simp only [List.mem_cons, List.not_mem_nil, or_false] at hq
    rcases hq with rfl | rfl | rfl | rfl
    · exact absurd rfl h2
    · exact absurd rfl h1
    · exact (N7 _ (.tail _ (.tail _ (.tail _ (.head _))))).1
    · exact (N7 _ (.tail _ (.tail _ (.tail _ (.tail _ (.head _)))))).1

end O8
section O9
open PySem PySem.W PyProof.Rows PySem.Calls PySem.Spec PyProof.Rows.LCg
noncomputable def stepF (rs : Rows) (st : List Int × List Int × List Int) (n : Int) : List Int × List Int × List Int :=
  (st.1.set n.toNat (putB (rs.getD n.toNat []) st.2.2), putT (rs.getD n.toNat []) st.2.1 st.2.2, putC n (rs.getD n.toNat []) st.2.2)
noncomputable def packTo (rs : Rows) (i : Nat) : List Int × List Int × List Int := ((orderF rs).take i).foldl (stepF rs) (List.replicate rs.length 0, [], [])
noncomputable def packF (rs : Rows) : List Int × List Int × List Int := (orderF rs).foldl (stepF rs) (List.replicate rs.length 0, [], [])
noncomputable def basesF (rs : Rows) : List Int := (ownersF rs).map fun o => (packF rs).1.getD o.toNat 0
theorem keyedF_mem {rs : Rows} {p : Int × Int} (h : p ∈ keyedF rs) : ∃ i, i < rs.length ∧ p.2 = (i : Int) ∧ ownerF rs i = i ∧ 0 < (rs.getD i []).length := by
  obtain ⟨i, hi, h⟩ := List.mem_filterMap.mp h
  split at h
  · rename_i q
    cases h
    exact ⟨i, by simpa using hi, rfl, q⟩
  · cases h
theorem orderF_mem {rs : Rows} (h3 : (keyedF rs).length ≤ 3) {n : Int} (h : n ∈ orderF rs) : ∃ i, i < rs.length ∧ n = (i : Int) ∧ ownerF rs i = i ∧ 0 < (rs.getD i []).length := by
  obtain ⟨p, hp, rfl⟩ := List.mem_map.mp h
  exact keyedF_mem (sort3_mem h3 p hp)
theorem packTo_succ {rs : Rows} {i : Nat} {n : Int} (h : (orderF rs)[i]? = some n) : packTo rs (i + 1) = stepF rs (packTo rs i) n := by
  unfold packTo
  rw [List.take_add_one, h, List.foldl_append]
  rfl
theorem putT_length (row : List (Int × Int)) (ts cs : List Int) : (putT row ts cs).length = ts.length + putN row cs := by
  unfold putT; rw [setsF_length, List.length_append, List.length_replicate]
theorem putC_length (o : Int) (row : List (Int × Int)) (cs : List Int) : (putC o row cs).length = cs.length + putN row cs := by
  unfold putC; rw [setsF_length, List.length_append, List.length_replicate]
theorem putN_le {row : List (Int × Int)} {cs : List Int} (hk : ∀ p ∈ row, 0 ≤ p.1 ∧ p.1 ≤ 1000) (h0 : 0 < row.length) : putN row cs ≤ 1001 := by
  have hs := sortK_sorted (row.map (·.1))
  have hp := sortK_perm (row.map (·.1))
  have hl : (sortK (row.map (·.1))).length = row.length := by rw [hp.length_eq, List.length_map]
  have hm : ∀ c ∈ sortK (row.map (·.1)), 0 ≤ c ∧ c ≤ 1000 := fun c hc => by
    obtain ⟨p, hp', rfl⟩ := List.mem_map.mp (hp.subset hc)
    exact hk p hp'
  have hb := firstF_bounds (cs := cs) (sorted_head hs)
  have h1 : 0 ≤ (sortK (row.map (·.1))).getD 0 0 := by
    rw [List.getD_eq_getElem?_getD, List.getElem?_eq_getElem (by omega : 0 < (sortK (row.map (·.1))).length)]
    exact (hm _ (List.getElem_mem _)).1
  have h2 : (sortK (row.map (·.1))).getD ((sortK (row.map (·.1))).length - 1) 0 ≤ 1000 := by
    rw [List.getD_eq_getElem?_getD, List.getElem?_eq_getElem (by omega : (sortK (row.map (·.1))).length - 1 < (sortK (row.map (·.1))).length)]
    exact (hm _ (List.getElem_mem _)).2
  unfold putN putB lastF
  omega
theorem packTo_all {rs : Rows} : packTo rs (orderF rs).length = packF rs := by unfold packTo packF; rw [List.take_length]
theorem basesF_length (rs : Rows) : (basesF rs).length = rs.length := by unfold basesF; rw [List.length_map, ownersF_length]
theorem basesF_take {rs : Rows} {i : Nat} {z : Int} (hz : (ownersF rs)[i]? = some z) : (basesF rs).take (i + 1) = (basesF rs).take i ++ [(packF rs).1.getD z.toNat 0] := by
  unfold basesF
  rw [List.take_add_one, List.getElem?_map, hz]
  rfl
theorem ownersF_mem {rs : Rows} {z : Int} (h : z ∈ ownersF rs) : ∃ n : Nat, z = (n : Int) ∧ n < rs.length := by
  obtain ⟨i, hi, rfl⟩ := List.mem_map.mp h
  have hi' : i < rs.length := by simpa using hi
  unfold ownerF
  have h : rowKey (rs.getD i []) ∈ keysF rs := List.mem_of_getElem? (keysF_at hi')
  have := List.idxOf_lt_length_iff.mpr h
  exact ⟨_, rfl, by simpa [keysF] using this⟩
theorem ownerF_lt {rs : Rows} {i : Nat} (hi : i < rs.length) : ownerF rs i < rs.length := by
  unfold ownerF
  have h : rowKey (rs.getD i []) ∈ keysF rs := List.mem_of_getElem? (keysF_at hi)
  have := List.idxOf_lt_length_iff.mpr h
  simpa [keysF] using this
theorem C_pack (w : World) (dp un : Nat) (fr : List Env) (gd : Option (List Code)) (s : Shared) (Q E : Value → Shared → Prop)
    (am : Amb w s.heap) (ax : Addr) (vs : List Value) (rs : Rows) (hl : s.heap.IsList ax vs.toArray) (R : RowsIn PySem.Challenge.rw_sf0018_01.row.prog w s.heap vs rs) (hok : ∀ r ∈ rs, RowOk r) (hmx : rs.length ≤ 900)
    (hkey : ∀ r ∈ rs, ∀ p ∈ r, 0 ≤ p.1 ∧ p.1 ≤ 1000) (h1 : 1 ≤ (keyedF rs).length) (h3 : (keyedF rs).length ≤ 3)
    (hdp : dp < 500) (hun : un < 500)
    (ret : ∀ p b2 t k h' tk' bvs tvs cvs e1 e2 e3, h'.get? p = some { cls := Value.type "tuple", data := Data.seq #[Value.ref b2, Value.ref t, Value.ref k] } → h'.get? b2 = some (listOf (List.toArray bvs) e1) → h'.get? t = some (listOf (List.toArray tvs) e2) → h'.get? k = some (listOf (List.toArray cvs) e3) →
      IntsAre bvs (basesF rs) → IntsAre tvs (packF rs).2.1 → IntsAre cvs (packF rs).2.2 → s.heap.get? p = none → s.heap.get? b2 = none → s.heap.get? t = none → s.heap.get? k = none → @Ne Nat b2 t → @Ne Nat b2 k → @LT.lt Nat _ t k →
      (∀ b o, s.heap.get? b = some o → h'.get? b = some o) → Q (.ref p) { s with heap := h', toks := tk' }) :
    wpAny (model PySem.Challenge.rw_sf0018_01.row.prog w) (AT dp un fr gd) (call (.ref 202) [.ref ax]) Q E s := by
  obtain ⟨X, mean, mg, mb, T⟩ := am
  revert X; k_fill; intro X
  have st : s.heap.StaysIn s.heap := fun _ _ e => e
  refine wpAny_call ?_
  k_dflt (refine' enterC (binds := [(Str.ofString "rows", .ref ax)]) ?k1 ?k2 ?k3 [] no_mods ?k6 ?k7 ?k8 ?k9 ?kB ?kD ?_ ?c2 ?c3 ?c4; (case k1 => assumption); (case k2 => assumption); (case k3 => assumption); (case k6 => k_is); (case k7 => k_is); (case k8 => ktr_room); (case k9 => exact BindsTo.of_eq rfl); (case kB => exact rfl); (case kD => decide +kernel); (case c2 => exact rfl); (case c3 => exact rfl); (case c4 => exact rfl))
  intro g L' h₁ tkk cells F N Y Xg Tg stg sgs kg lt lsz
  conv in (fnBody _) => whnf
  conv in (occs := *) (fnScope _) => all_goals whnf
  have hlg : g.IsList ax vs.toArray := hl.at fun o e => kg _ _ (by simp) e
  have Rg : RowsIn PySem.Challenge.rw_sf0018_01.row.prog w g vs rs := R.keeps fun b o e => kg _ _ (by simp) e
  have hvl := Rg.length
  replace F : Fr g L' h₁ (fun y => if y = Str.ofString "rows" then some (Value.ref ax) else none) := by with_unfolding_all exact F
  obtain ⟨oc, rfl, dc⟩ := CellsAre.one Y
  clear Y
  (try simp only [List.cons_append, List.nil_append] at N)
  k_steps
  with_reducible rename News _ _ _ _ => N1
  with_reducible rename Fr _ _ _ _ => F1
  refine C_owners w _ _ _ _ _ _ _ (by exact Amb.keeps ⟨Xg, _, _, _, Tg⟩ F1.keep) ax vs rs (by exact hlg.at fun o e => F1.keep _ o e) (by exact Rg.keeps F1.keep) hok (by walk_at "om") (by walk_at "c room") (by walk_at "c room") ?_
  intro r h' tk' os e hr hro hO kk
  obtain ⟨F2, N2, l2, lL⟩ := news_add N1 F1 kk hr hro
  have l3 : @LT.lt Nat _ (L' + 1) r := l2 _ (.head _)
  clear N1 F1
  have hol : os.length = rs.length := by rw [hO.length, ownersF_length]
  k_steps
  with_reducible rename News _ _ _ _ => N3
  with_reducible rename Fr _ _ _ _ => F3
  refine use_comb w _ _ _ _ _ _ _ F3 N3 Xg Tg (by walk_at "c room") (by walk_at "c room") ?_
  intro x dx t k ta tb h4 tk4 F4 N4 l4 lxd lxt ltk
  have l5 : @LT.lt Nat _ r dx := l4 _ (.head _)
  clear F3 N3
  k_steps
  with_reducible rename News _ _ _ _ => N5
  with_reducible rename Fr _ _ _ _ => F5
  refine Stop.mk (CompSrc.base (by rfl) F5 N5 hlg (by rw [sizeLine_eq, List.size_toArray]; walk_at "om") ?_)
  intro gg
  refine rest_fix (news := [(k, listOf #[] 0), (t, listOf #[] 0), (x, instObj 193 dx), (dx, combD w ta tb t k), (r, listOf (List.toArray os) e), (L' + 1, oc)]) (fun i ys => IntsAre ys (List.replicate i 0)) ?_ ?_ ?_
  · exact .nil
  · rintro i ys v I oI C oC D2 m₂ h tk2 E' hi hI hv hC hx F9 N9 off ne
    k_steps
    refine Stop.mk (CompEnd.intro F9 N9 _ (fun p hp => hp) off (.inl hlg) ⟨rfl, ?_⟩)
    rw [List.replicate_succ']
    exact ints_snoc hI _ _
  · rintro ys hI
    intro B h6 tk6 F6 N6 off
    have hyl := hI.length
    rw [List.length_replicate] at hyl
    simp only [Off1] at off
    obtain ⟨b1, b2, b3, b4, b5, b6, _⟩ := off
    replace b1 : @Ne Nat k B := b1
    replace b2 : @Ne Nat t B := b2
    replace b3 : @Ne Nat x B := b3
    replace b4 : @Ne Nat dx B := b4
    replace b5 : @Ne Nat r B := b5
    replace b6 : @Ne Nat (L' + 1) B := b6
    k_steps
    with_reducible rename News _ _ _ _ => N7
    with_reducible rename Fr _ _ _ _ => F7
    rename_i oc2 dc2
    refine C_order w _ _ _ _ _ _ _ (by exact Amb.keeps ⟨Xg, _, _, _, Tg⟩ F7.keep) ax vs rs (by exact hlg.at fun o e => F7.keep _ o e) (by exact Rg.keeps F7.keep) hok hmx r os (by exact News.isList N7 (by k_memK)) hO h1 h3 (by walk_at "c room") (by walk_at "c room") ?_
    intro r2 h8 tk8 vs2 e8 hr2 hr2o hI2 kk2
    obtain ⟨F8, N8, n8⟩ := news_new N7 F7 kk2 hr2 hr2o
    clear F7 N7
    have q1 : @Ne Nat B r2 := n8 _ (.head _)
    have q2 : @Ne Nat k r2 := n8 _ (.tail _ (.head _))
    have q3 : @Ne Nat t r2 := n8 _ (.tail _ (.tail _ (.head _)))
    have q4 : @Ne Nat x r2 := n8 _ (.tail _ (.tail _ (.tail _ (.head _))))
    have q5 : @Ne Nat dx r2 := n8 _ (.tail _ (.tail _ (.tail _ (.tail _ (.head _)))))
    have q6 : @Ne Nat r r2 := n8 _ (.tail _ (.tail _ (.tail _ (.tail _ (.tail _ (.head _))))))
    have q7 : @Ne Nat (L' + 1) r2 := n8 _ (.tail _ (.tail _ (.tail _ (.tail _ (.tail _ (.tail _ (.head _)))))))
    have ho3 : (orderF rs).length ≤ 3 := by unfold orderF; rw [List.length_map]; exact sort3_length h3
    k_steps
    with_reducible rename News _ _ _ _ => N9
    with_reducible rename Fr _ _ _ _ => F9
    refine Stop.mk (loop_led (ax := r2) (vs := vs2) (e := e8) (by rfl) F9 N9
      (fun i m nw => ∃ bvs tvs cvs e1 e2 e3 nv, m = (fun y => if y = Str.ofString "number" then nv else if y = Str.ofString "comb" then some (Value.ref x) else if y = Str.ofString "owners" then some (Value.ref r) else if y = Str.ofString "rows" then some (Value.ref ax) else none) ∧
        nw = [(r2, listOf (List.toArray vs2) e8), (B, listOf (List.toArray bvs) e1), (k, listOf (List.toArray cvs) e3), (t, listOf (List.toArray tvs) e2), (x, instObj 193 dx), (dx, combD w ta tb t k), (r, listOf (List.toArray os) e), (L' + 1, oc2)] ∧
        IntsAre bvs (packTo rs i).1 ∧ IntsAre tvs (packTo rs i).2.1 ∧ IntsAre cvs (packTo rs i).2.2 ∧ bvs.length = rs.length ∧ (packTo rs i).2.1.length = (packTo rs i).2.2.length ∧ (packTo rs i).2.2.length ≤ 1001 * i) ?_ ?_ ?_ ?_)
    · rintro i m nw ⟨bvs, tvs, cvs, e1, e2, e3, nv, rfl, rfl, _⟩
      exact .head _
    · exact ⟨ys, [], [], _, 0, 0, none, ini1 (by rfl), rfl, by have hI' := hI; rw [List.size_toArray, hvl] at hI'; exact hI', .nil, .nil, by rw [hyl]; simpa using hvl, rfl, Nat.zero_le _⟩
    · intro i v m₁ nw I oI h10 tk10 hv hJ1 hoff F10 N10
      refine hideB ?_
      intro Post1 fin1 P ret1
      refine exE7 hJ1 ?_
      clear hJ1
      intro bvs tvs cvs e1 e2 e3 nv hE
      refine anE7 hE ?_
      clear hE
      intro hq1 hq2 hb' ht' hc' hbl hE
      refine anE2 hE ?_
      clear hE
      intro htc hcb
      subst hq1
      subst hq2
      refine ret1 ?_
      clear ret1 P
      obtain ⟨z, tz, rfl, hz⟩ := hI2.at i v hv
      obtain ⟨n, hn, rfl, hn1, hn2⟩ := orderF_mem h3 (List.mem_of_getElem? hz)
      have hn6 : n ≤ 1000000 := Nat.le_of_lt (Nat.lt_of_lt_of_le hn (Nat.le_trans hmx (by decide)))
      have hn8 : 0 ≤ (n : Int) := Int.natCast_nonneg n
      obtain ⟨a, ha, Ra⟩ := Rg.at n hn
      have o0 : @Ne Nat r2 I := hoff _ (.head _)
      have o1 : @Ne Nat B I := hoff _ (.tail _ (.head _))
      have o2 : @Ne Nat k I := hoff _ (.tail _ (.tail _ (.head _)))
      have o3 : @Ne Nat t I := hoff _ (.tail _ (.tail _ (.tail _ (.head _))))
      have o4 : @Ne Nat x I := hoff _ (.tail _ (.tail _ (.tail _ (.tail _ (.head _)))))
      have o5 : @Ne Nat dx I := hoff _ (.tail _ (.tail _ (.tail _ (.tail _ (.tail _ (.head _))))))
      have o6 : @Ne Nat r I := hoff _ (.tail _ (.tail _ (.tail _ (.tail _ (.tail _ (.tail _ (.head _)))))))
      have o7 : @Ne Nat (L' + 1) I := hoff _ (.tail _ (.tail _ (.tail _ (.tail _ (.tail _ (.tail _ (.tail _ (.head _))))))))
      have hi3 : i < 3 := by have := (List.getElem?_eq_some_iff.mp hz).1; walk_at "om"
      have hmr : rs.getD n [] ∈ rs := by rw [List.getD_eq_getElem?_getD, List.getElem?_eq_getElem hn]; exact List.getElem_mem hn
      have hput := putN_le (cs := (packTo rs i).2.2) (hkey _ hmr) hn2
      have hpk := packTo_succ hz
      have hnn : ((n : Int)).toNat = n := Int.toNat_natCast n
      k_steps
      refine C_put w _ _ _ _ _ g _ _ ⟨Xg, _, _, _, Tg⟩ (by exact F10.keep) x dx t k ta tb tvs cvs (packTo rs i).2.1 (packTo rs i).2.2 e3 e2 hc' ht' (n : Int) tz lxd lxt ltk
        (N10 (x, instObj 193 dx) (by k_memK)).1 (N10 (dx, combD w ta tb t k) (by k_memK)).1 (N10 (t, listOf (List.toArray tvs) e2) (by k_memK)).1 (N10 (k, listOf (List.toArray cvs) e3) (by k_memK)).1
        (N10 (x, instObj 193 dx) (by k_memK)).2.2 (N10 (dx, combD w ta tb t k) (by k_memK)).2.2 (N10 (t, listOf (List.toArray tvs) e2) (by k_memK)).2.2 (N10 (k, listOf (List.toArray cvs) e3) (by k_memK)).2.2
        (by walk_at "om") htc a (rs.getD n []) Ra (hok _ hmr) (List.length_pos_iff.mp hn2) (hkey _ hmr) (by walk_at "c room") (by walk_at "c room") ?_
      intro h11 tk11 tvs' cvs' e3' e2' tr hc2 ht2 gt gk kk3
      obtain ⟨F11, N11⟩ := back_two (news' := [(I, oI), (r2, listOf (List.toArray vs2) e8), (B, listOf (List.toArray bvs) e1), (k, listOf (List.toArray cvs') e3'), (t, listOf (List.toArray tvs') e2'), (x, instObj 193 dx), (dx, combD w ta tb t k), (r, listOf (List.toArray os) e), (L' + 1, oc2)]) F10 N10 ⟨_, .tail _ (.tail _ (.tail _ (.tail _ (.head _))))⟩ ⟨_, .tail _ (.tail _ (.tail _ (.head _)))⟩ kk3 gt gk (by
        intro p hp
        simp only [List.mem_cons, List.not_mem_nil, or_false] at hp
        rcases hp with rfl | rfl | rfl | rfl | rfl | rfl | rfl | rfl | rfl
        · exact .inr (.inr ⟨Ne.symm o3, Ne.symm o2, by k_memK⟩)
        · exact .inr (.inr ⟨Ne.symm q3, Ne.symm q2, by k_memK⟩)
        · exact .inr (.inr ⟨Ne.symm b2, Ne.symm b1, by k_memK⟩)
        · exact .inr (.inl rfl)
        · exact .inl rfl
        · exact .inr (.inr ⟨neN (by dsimp only; walk_at "om"), neN (by dsimp only; walk_at "om"), by k_memK⟩)
        · exact .inr (.inr ⟨neN (by dsimp only; walk_at "om"), neN (by dsimp only; walk_at "om"), by k_memK⟩)
        · exact .inr (.inr ⟨neN (by dsimp only; walk_at "om"), neN (by dsimp only; walk_at "om"), by k_memK⟩)
        · exact .inr (.inr ⟨neN (by dsimp only; walk_at "om"), neN (by dsimp only; walk_at "om"), by k_memK⟩))
      clear F10 N10 kk3 gt gk
      k_steps
      with_reducible rename News _ _ _ _ => N12
      with_reducible rename Fr _ _ _ _ => F12
      refine fin1 _ _ ?_
      refine LpEnd.mk F12 N12 ?_ (exI7 _ _ _ _ _ _ _ ⟨upd1, rfl, ?_, ?_, ?_, ?_, ?_, ?_⟩)
      · intro p hp
        simp only [List.mem_cons, List.not_mem_nil, or_false] at hp
        rcases hp with rfl | rfl | rfl | rfl | rfl | rfl | rfl | rfl
        · exact o0
        · exact o1
        · exact o2
        · exact o3
        · exact o4
        · exact o5
        · exact o6
        · exact o7
      · rw [hpk]; unfold stepF; rw [hnn]; exact ints_set hb' _ _ _
      · rw [hpk]; unfold stepF; rw [hnn]; exact ht2
      · rw [hpk]; unfold stepF; rw [hnn]; exact hc2
      · rw [List.length_set]; exact hbl
      · rw [hpk]; unfold stepF; rw [hnn, putT_length, putC_length, htc]
      · rw [hpk]; unfold stepF; rw [hnn, putC_length]; walk_at "om"
    · intro h10 tk10 m' nw F10 N10 hJ1
      refine hide ?_
      intro P ret1
      refine exE7 hJ1 ?_
      clear hJ1
      intro bvs tvs cvs e1 e2 e3 nv hE
      refine anE7 hE ?_
      clear hE
      intro hq1 hq2 hb' ht' hc' hbl hE
      refine anE2 hE ?_
      clear hE
      intro htc hcb
      subst hq1
      subst hq2
      refine ret1 ?_
      clear ret1 P
      have hv2l : vs2.length = (orderF rs).length := hI2.length
      rw [hv2l, packTo_all] at hb' ht' hc' htc hcb
      have hb2 := hb'.length
      k_steps
      refine Stop.mk (CompSrc.ledger (by rfl) F10 N10 (ax := r) (its := os.toArray) (k := e) (by k_memK) (by rw [sizeLine_eq, List.size_toArray]; walk_at "om") ?_)
      intro gg2
      refine rest_fix (news := [(r2, listOf (List.toArray vs2) e8), (B, listOf (List.toArray bvs) e1), (k, listOf (List.toArray cvs) e3), (t, listOf (List.toArray tvs) e2), (x, instObj 193 dx), (dx, combD w ta tb t k), (r, listOf (List.toArray os) e), (L' + 1, oc2)]) (fun i ys => IntsAre ys ((basesF rs).take i)) ?_ ?_ ?_
      · exact .nil
      · rintro i ys v I oI C oC D2 m₂ h tk2 E' hi hI hv hC hx F9 N9 off ne
        obtain ⟨z, tz, rfl, hz⟩ := hO.at i v (by simpa using hv)
        obtain ⟨n, rfl, hn⟩ := ownersF_mem (List.mem_of_getElem? hz)
        have hn6 : n ≤ 1000000 := Nat.le_of_lt (Nat.lt_of_lt_of_le hn (Nat.le_trans hmx (by decide)))
        have hn8 : 0 ≤ (n : Int) := Int.natCast_nonneg n
        k_steps
        refine Stop.mk (CompEnd.intro F9 N9 _ (fun p hp => hp) off (.inr ⟨_, by k_memK, rfl, _, rfl⟩) ⟨rfl, ?_⟩)
        rw [basesF_take hz]
        exact ints_snoc hI _ _
      · rintro ys hI
        intro B2 h12 tk12 F12 N12 off
        simp only [Off1] at off
        obtain ⟨c1, c2, c3, c4, c5, c6, c7, c8, _⟩ := off
        rw [List.take_of_length_le (by rw [basesF_length, List.size_toArray]; walk_at "om")] at hI
        k_steps
        with_reducible rename News _ _ _ _ => N13
        with_reducible rename Fr _ _ _ _ => F13
        have fresh : ∀ {a : Addr}, g.get? a = none → s.heap.get? a = none := fun {a} q => by
          cases e9 : s.heap.get? a with
          | none => rfl
          | some o => have := kg a o (by simp) e9; rw [q] at this; cases this
        exact ret _ B2 t k _ _ _ _ _ _ _ _ (N13 _ (.head _)).1 (N13 (B2, lst ys) (by k_memK)).1 (N13 (t, listOf (List.toArray tvs) e2) (by k_memK)).1 (N13 (k, listOf (List.toArray cvs) e3) (by k_memK)).1
          hI ht' hc' (fresh (N13 _ (.head _)).2.2) (fresh (N13 (B2, lst ys) (by k_memK)).2.2) (fresh (N13 (t, listOf (List.toArray tvs) e2) (by k_memK)).2.2) (fresh (N13 (k, listOf (List.toArray cvs) e3) (by k_memK)).2.2) (Ne.symm c4) (Ne.symm c3) ltk
          (fun b o e => F13.keep b o (kg b o (by simp) e))

end O9
section OA
open PySem PySem.W PyProof.Rows PySem.Calls PySem.Spec PyProof.Rows.LCg
theorem use_prnew (w : World) (dp un : Nat) (fr : List Env) (gd : Option (List Code)) (s : Shared) (Q E : Value → Shared → Prop) {h₀ : Heap} {L : Addr} {m : Str → Option Value} {news : List (Addr × Obj)} {mean : ExcName → Option Value} {mg mb : Str → Option Value}
    (F : Fr h₀ L s.heap m) (N : News h₀ L s.heap news) (X : (KD w.params).In h₀) (T : Top VD (looseW VD []) mean mg mb h₀) (hdp : dp < 900) (hun : un < 900) (b t k o : Addr)
    (ret : ∀ x dx t1 t2 t3 t4 h' tk', Fr h₀ L h' m → News h₀ L h' ((x, instObj 275 dx) :: (dx, packD w t1 t2 t3 t4 b t k o) :: news) → (∀ p ∈ news, @LT.lt Nat _ p.1 dx) → @LT.lt Nat _ dx x → Q (.ref x) { s with heap := h', toks := tk' }) :
    wpAny (model PySem.Challenge.rw_sf0018_01.row.prog w) (AT dp un fr gd) (call (.ref 275) [.ref b, .ref t, .ref k, .ref o]) Q E s := by
  revert X; k_fill; intro X
  refine call_cls (fI := 223) F X N (by k_is) (by k_is) (by k_is) ?_
  intro x dx h' F1 N1 l1 l2
  have st : h₀.StaysIn h' := F1.keep
  k_dflt (refine' enterP (binds := [(Str.ofString "self", .ref x), (Str.ofString "bases", .ref b), (Str.ofString "table", .ref t), (Str.ofString "check", .ref k), (Str.ofString "owners", .ref o)]) ?k1 ?k2 ?k3 [(x, instObj 275 dx), (dx, dictOf [] 0)] ?k4 ?k6 ?k7 ?k8 ?k9 ?kB ?_ ?c2 ?c3 ?c4 ?c5; (case k1 => exact X); (case k2 => exact T); (case k3 => exact st); (case k6 => k_is); (case k7 => k_is); (case k8 => ((simp only [depth_under_make]); (show dp + 1 < 1000); walk_at "om")); (case k9 => exact BindsTo.of_eq rfl); (case c5 => decide); (case kB => exact locs rfl); (case c2 => exact rfl); (case c3 => exact rfl); (case c4 => exact rfl))
  · intro q hq
    simp only [List.mem_cons, List.not_mem_nil, or_false] at hq
    rcases hq with rfl | rfl
    · exact ⟨(N1 _ (.head _)).1, (N1 _ (.head _)).2.2⟩
    · exact ⟨(N1 _ (.tail _ (.head _))).1, (N1 _ (.tail _ (.head _))).2.2⟩
  intro g L' h₁ F N Xg Tg stg sgs kg lt lsz
  conv in (fnBody _) => whnf
  conv in (occs := *) (fnScope _) => all_goals whnf
  have l2' : @LT.lt Nat _ dx x := l2
  have ndx : ∀ p ∈ news, p.1 ∉ [(x, instObj 275 dx), (dx, dictOf [] 0)].map (·.1) := fun p hp => by
    have h1 : @LT.lt Nat _ p.1 dx := l1 p hp
    have h2 : p.1 ≠ x := Nat.ne_of_lt (Nat.lt_trans h1 l2')
    have h3 : p.1 ≠ dx := Nat.ne_of_lt h1
    simp [h2, h3]
  clear l2
  k_steps
  with_reducible rename News _ _ _ _ => N9
  with_reducible rename Fr _ _ _ _ => F9
  obtain ⟨F8, N8⟩ := back_frame (mods := [(x, instObj 275 dx), (dx, dictOf [] 0)]) F1 N1 ndx kg F9.keep N9
  exact ⟨rfl, ret x dx _ _ _ _ _ _ F8 N8 l1 l2'⟩

structure PackAt (w : World) (h : Heap) (x dx b t k o : Addr) (rs : Rows) : Prop where
  ox : h.get? x = some (instObj 275 dx)
  od : ∃ t1 t2 t3 t4, h.get? dx = some (packD w t1 t2 t3 t4 b t k o)
  ob : ∃ vs e, h.get? b = some (listOf (List.toArray vs) e) ∧ IntsAre vs (basesF rs)
  ot : ∃ vs e, h.get? t = some (listOf (List.toArray vs) e) ∧ IntsAre vs (packF rs).2.1
  ok : ∃ vs e, h.get? k = some (listOf (List.toArray vs) e) ∧ IntsAre vs (packF rs).2.2
  oo : ∃ vs e, h.get? o = some (listOf (List.toArray vs) e) ∧ IntsAre vs (ownersF rs)
  lt : @LT.lt Nat _ dx x

theorem C_packed (w : World) (dp un : Nat) (fr : List Env) (gd : Option (List Code)) (s : Shared) (Q E : Value → Shared → Prop)
    (am : Amb w s.heap) (ax : Addr) (vs : List Value) (rs : Rows) (hl : s.heap.IsList ax vs.toArray) (R : RowsIn PySem.Challenge.rw_sf0018_01.row.prog w s.heap vs rs) (hok : ∀ r ∈ rs, RowOk r) (hmx : rs.length ≤ 900)
    (hkey : ∀ r ∈ rs, ∀ p ∈ r, 0 ≤ p.1 ∧ p.1 ≤ 1000) (h1 : 1 ≤ (keyedF rs).length) (h3 : (keyedF rs).length ≤ 3)
    (hdp : dp < 400) (hun : un < 400)
    (ret : ∀ x dx b t k o h' tk', PackAt w h' x dx b t k o rs → (∀ a ∈ [x, dx, b, t, k, o], s.heap.get? a = none) → (∀ b o, s.heap.get? b = some o → h'.get? b = some o) → Q (.ref x) { s with heap := h', toks := tk' }) :
    wpAny (model PySem.Challenge.rw_sf0018_01.row.prog w) (AT dp un fr gd) (call (.ref 286) [.ref ax]) Q E s := by
  obtain ⟨X, mean, mg, mb, T⟩ := am
  revert X; k_fill; intro X
  have st : s.heap.StaysIn s.heap := fun _ _ e => e
  refine wpAny_call ?_
  k_dflt (refine' enterP (binds := [(Str.ofString "rows", .ref ax)]) ?k1 ?k2 ?k3 [] no_mods ?k6 ?k7 ?k8 ?k9 ?kB ?_ ?c2 ?c3 ?c4 ?c5; (case k1 => assumption); (case k2 => assumption); (case k3 => assumption); (case k6 => k_is); (case k7 => k_is); (case k8 => ktr_room); (case k9 => exact BindsTo.of_eq rfl); (case c5 => decide); (case kB => exact locs rfl); (case c2 => exact rfl); (case c3 => exact rfl); (case c4 => exact rfl))
  intro g L' h₁ F N Xg Tg stg sgs kg lt lsz
  conv in (fnBody _) => whnf
  conv in (occs := *) (fnScope _) => all_goals whnf
  have hlg : g.IsList ax vs.toArray := hl.at fun o e => kg _ _ (by simp) e
  have Rg : RowsIn PySem.Challenge.rw_sf0018_01.row.prog w g vs rs := R.keeps fun b o e => kg _ _ (by simp) e
  k_steps
  refine C_pack w _ _ _ _ _ _ _ (by exact Amb.keeps ⟨Xg, _, _, _, Tg⟩ F.keep) ax vs rs (by exact hlg.at fun o e => F.keep _ o e) (by exact Rg.keeps F.keep) hok hmx hkey h1 h3 (by walk_at "c room") (by walk_at "c room") ?_
  intro p b t k h2 tk2 bvs tvs cvs e1 e2 e3 gp gb gt gk hb ht hc fp fb ft fk nbt nbk ltk kk
  obtain ⟨F2, N2⟩ := news_fresh (l := [(p, { cls := Value.type "tuple", data := Data.seq #[Value.ref b, Value.ref t, Value.ref k] }), (b, listOf (List.toArray bvs) e1), (t, listOf (List.toArray tvs) e2), (k, listOf (List.toArray cvs) e3)]) N F kk (by
    intro q hq
    simp only [List.mem_cons, List.not_mem_nil, or_false] at hq
    rcases hq with rfl | rfl | rfl | rfl
    · exact ⟨fp, gp⟩
    · exact ⟨fb, gb⟩
    · exact ⟨ft, gt⟩
    · exact ⟨fk, gk⟩)
  simp only [List.cons_append, List.nil_append] at N2
  clear F N
  k_steps
  with_reducible rename News _ _ _ _ => N3
  with_reducible rename Fr _ _ _ _ => F3
  refine C_owners w _ _ _ _ _ _ _ (by exact Amb.keeps ⟨Xg, _, _, _, Tg⟩ F3.keep) ax vs rs (by exact hlg.at fun o e => F3.keep _ o e) (by exact Rg.keeps F3.keep) hok (by walk_at "om") (by walk_at "c room") (by walk_at "c room") ?_
  intro r h4 tk4 os e4 hr hro hO kk4
  obtain ⟨F4, N4, l4, lL⟩ := news_add N3 F3 kk4 hr hro
  clear F3 N3
  k_steps
  with_reducible rename News _ _ _ _ => N5
  with_reducible rename Fr _ _ _ _ => F5
  refine use_prnew w _ _ _ _ _ _ _ F5 N5 Xg Tg (by walk_at "c room") (by walk_at "c room") b t k r ?_
  intro x dx t1 t2 t3 t4 h6 tk6 F6 N6 l6 lxd
  clear F5 N5
  k_steps
  have fresh : ∀ {a : Addr}, g.get? a = none → s.heap.get? a = none := fun {a} q => by
    cases e9 : s.heap.get? a with
    | none => rfl
    | some o => have := kg a o (by simp) e9; rw [q] at this; cases this
  refine ret x dx b t k r _ _ ⟨(N6 _ (.head _)).1, ⟨_, _, _, _, (N6 _ (.tail _ (.head _))).1⟩, ⟨_, _, (N6 (b, listOf (List.toArray bvs) e1) (by k_memK)).1, hb⟩, ⟨_, _, (N6 (t, listOf (List.toArray tvs) e2) (by k_memK)).1, ht⟩, ⟨_, _, (N6 (k, listOf (List.toArray cvs) e3) (by k_memK)).1, hc⟩, ⟨_, _, (N6 (r, listOf (List.toArray os) e4) (by k_memK)).1, hO⟩, lxd⟩ ?_ (fun b o e => F6.keep b o (kg b o (by simp) e))
  intro a ha
  simp only [List.mem_cons, List.not_mem_nil, or_false] at ha
  rcases ha with rfl | rfl | rfl | rfl | rfl | rfl
  · exact fresh (N6 _ (.head _)).2.2
  · exact fresh (N6 _ (.tail _ (.head _))).2.2
  · exact fresh (N6 (a, listOf (List.toArray bvs) e1) (by k_memK)).2.2
  · exact fresh (N6 (a, listOf (List.toArray tvs) e2) (by k_memK)).2.2
  · exact fresh (N6 (a, listOf (List.toArray cvs) e3) (by k_memK)).2.2
  · exact fresh (N6 (a, listOf (List.toArray os) e4) (by k_memK)).2.2

end OA
section OB
open PySem PySem.W PyProof.Rows PySem.Calls PySem.Spec PyProof.Rows.LCg
theorem C_tinit (w : World) (dp un : Nat) (fr : List Env) (gd : Option (List Code)) (s : Shared) (h₀ : Heap) (Q E : Value → Shared → Prop)
    (am : Amb w h₀) (st : h₀.StaysIn s.heap) (x dx : Addr) (lxd : @LT.lt Nat _ dx x)
    (hx : s.heap.get? x = some (instObj 331 dx)) (hdx : s.heap.get? dx = some (dictOf [] 0)) (hx0 : h₀.get? x = none) (hdx0 : h₀.get? dx = none)
    (nm lf ln bf : Addr) (nvs : List Value) (hnm : h₀.IsList nm nvs.toArray) (hst : ∀ v ∈ nvs, ∃ z t, v = Value.str z t) (tc : Nat) (ttc : Tok) (htc : tc ≤ nvs.length) (hmx : nvs.length ≤ 1000)
    (hdp : dp < 800) (hun : un < 800)
    (ret : ∀ h' tk' t1 t2 t3 t4 t5 t6 t7 l d, h'.get? x = some (instObj 331 dx) → h'.get? dx = some (tab7 w t1 t2 t3 t4 t5 t6 t7 nm (tc : Int) ttc lf ln bf l d) → (∀ b o, b ≠ dx → s.heap.get? b = some o → h'.get? b = some o) → Q .none { s with heap := h', toks := tk' }) :
    wpAny (model PySem.Challenge.rw_sf0018_01.row.prog w) (AT dp un fr gd) (call (.ref 35) [.ref x, .ref nm, .int (tc : Int) ttc, .ref lf, .ref ln, .ref bf]) Q E s := by
  obtain ⟨X, mean, mg, mb, T⟩ := am
  revert X; k_fill; intro X
  have hmods : ∀ q ∈ [(x, instObj 331 dx), (dx, dictOf [] 0)], s.heap.get? q.1 = some q.2 ∧ h₀.get? q.1 = none := by
    intro q hq
    simp only [List.mem_cons, List.not_mem_nil, or_false] at hq
    rcases hq with rfl | rfl
    · exact ⟨hx, hx0⟩
    · exact ⟨hdx, hdx0⟩
  refine wpAny_call ?_
  k_dflt (refine' enterP (binds := [(Str.ofString "self", .ref x), (Str.ofString "names", .ref nm), (Str.ofString "terminal_count", .int (tc : Int) ttc), (Str.ofString "lefts", .ref lf), (Str.ofString "lengths", .ref ln), (Str.ofString "befores", .ref bf)]) ?k1 ?k2 ?k3 _ hmods ?k6 ?k7 ?k8 ?k9 ?kB ?_ ?c2 ?c3 ?c4 ?c5; (case k1 => assumption); (case k2 => assumption); (case k3 => assumption); (case k6 => k_is); (case k7 => k_is); (case k8 => ktr_room); (case k9 => exact BindsTo.of_eq rfl); (case c5 => decide); (case kB => exact locs rfl); (case c2 => exact rfl); (case c3 => exact rfl); (case c4 => exact rfl))
  intro g L' h₁ F N Xg Tg stg sgs kg lt lsz
  conv in (fnBody _) => whnf
  conv in (occs := *) (fnScope _) => all_goals whnf
  have hng : g.IsList nm nvs.toArray := hnm.at fun o e => stg _ _ e
  k_steps
  with_reducible rename News _ _ _ _ => N1
  with_reducible rename Fr _ _ _ _ => F1
  rename_i l _ lL lx _ d _ o lo hi lL2 ld _ F0 N0 h2 tk2 t1 u1 v1 hr keepH
  clear F0 N0
  obtain ⟨s1, s2, s3, s4, s5, s6, s7, N2⟩ : ∃ t1 t2 t3 t4 t5 t6 t7, News g L' h2 [(d, o), (l, listOf #[] 0), (x, instObj 331 dx), (dx, tab7 w t1 t2 t3 t4 t5 t6 t7 nm (tc : Int) ttc lf ln bf l d)] := ⟨_, _, _, _, _, _, _, N1⟩
  clear N1
  refine Stop.mk (loop_range (by rfl) F1 N2 hr (small_one (by walk_at "om") (by walk_at "om") (by walk_at "om") (by walk_at "om")) (rangeSize_nat _ _)
    (fun i m nw => ∃ nv o kvs, m = (fun y => if y = Str.ofString "number" then nv else List.lookup y [(Str.ofString "self", Value.ref x), (Str.ofString "names", Value.ref nm), (Str.ofString "terminal_count", Value.int (tc : Int) ttc), (Str.ofString "lefts", Value.ref lf), (Str.ofString "lengths", Value.ref ln), (Str.ofString "befores", Value.ref bf)].reverse) ∧
      nw = [(d, o), (l, listOf #[] 0), (x, instObj 331 dx), (dx, tab7 w s1 s2 s3 s4 s5 s6 s7 nm (tc : Int) ttc lf ln bf l d)] ∧ o.IsDictOf (PySem.strKind PySem.Challenge.rw_sf0018_01.row.prog w) kvs ∧ kvs.length ≤ i) ?_ ?_ ?_)
  · exact ⟨none, o, [], ini1 (by rfl), rfl, dict_nil_str hi, Nat.le_refl _⟩
  · intro i tkn m₁ nw I oI h₃ tk₃ hi' hJ1 hoff F2 N3
    refine hideB ?_
    intro Post1 fin1 P ret1
    refine exE3 hJ1 ?_
    clear hJ1
    intro nv o kvs hE
    refine anE4 hE ?_
    clear hE
    intro hq1 hq2 hD hk
    subst hq1
    subst hq2
    refine ret1 ?_
    clear ret1 P
    have hin : i < nvs.length := by walk_at "om"
    have o1 : @Ne Nat d I := hoff _ (.head _)
    have o2 : @Ne Nat l I := hoff _ (.tail _ (.head _))
    have o3 : @Ne Nat x I := hoff _ (.tail _ (.tail _ (.head _)))
    have o4 : @Ne Nat dx I := hoff _ (.tail _ (.tail _ (.tail _ (.head _))))
    obtain ⟨z, tz, hz⟩ := hst nvs[i] (List.getElem_mem hin)
    have hz2 : nvs[i]? = some (.str z tz) := by rw [List.getElem?_eq_getElem hin, hz]
    k_steps
    with_reducible rename News _ _ _ _ => N4
    with_reducible rename Fr _ _ _ _ => F4
    refine setItem_strD F4 N4 (by k_updF) hD (by walk_at "om") ?_
    intro h5 o5 tk5 F5 N5 hD5
    clear F4 N4
    k_steps
    with_reducible rename News _ _ _ _ => N6
    with_reducible rename Fr _ _ _ _ => F6
    refine fin1 _ _ ?_
    refine LpEnd.mk F6 N6 ?_ (exI3 _ _ _ ⟨upd1, rfl, hD5, by have := stored_len kvs z (Value.int (0 + (i : Int)) tkn); walk_at "om"⟩)
    intro p hp
    simp only [List.mem_cons, List.not_mem_nil, or_false] at hp
    rcases hp with rfl | rfl | rfl | rfl
    · exact o1
    · exact o2
    · exact o3
    · exact o4
  · intro h' tk m' nw F2 N3 hJ1
    refine hide ?_
    intro P ret1
    refine exE3 hJ1 ?_
    clear hJ1
    intro nv o kvs hE
    refine anE4 hE ?_
    clear hE
    intro hq1 hq2 hD hk
    subst hq1
    subst hq2
    refine ret1 ?_
    clear ret1 P
    k_steps
    exact ret _ _ s1 s2 s3 s4 s5 s6 s7 l d (N3 (x, instObj 331 dx) (by k_memK)).1 (N3 _ (.tail _ (.tail _ (.tail _ (.head _))))).1 (fun b o h1 e => by
      by_cases hx' : b = x
      · subst hx'; rw [hx] at e; rw [← e]; exact (N3 (b, instObj 331 dx) (by k_memK)).1
      · exact F2.keep b o (kg b o (by simp [h1, hx']) e))

end OB
section OC
open PySem PySem.W PyProof.Rows PySem.Calls PySem.Spec PyProof.Rows.LCg
theorem use_ptables (w : World) (dp un : Nat) (fr : List Env) (gd : Option (List Code)) (s : Shared) (Q E : Value → Shared → Prop) {h₀ : Heap} {L : Addr} {m : Str → Option Value} {news : List (Addr × Obj)} {mean : ExcName → Option Value} {mg mb : Str → Option Value}
    (F : Fr h₀ L s.heap m) (N : News h₀ L s.heap news) (X : (KD w.params).In h₀) (T : Top VD (looseW VD []) mean mg mb h₀) (hdp : dp < 700) (hun : un < 700)
    (fa ch a1 a2 gds gm d1 d2 b1 k1 c1 o1 b2 k2 c2 o2 nm lf ln bf : Addr) (p1 p2 p3 p4 q1 q2 q3 q4 ttc : Tok) (nvs : List Value) (tc : Nat)
    (hne : @LT.lt Nat _ d1 a1 ∧ @LT.lt Nat _ d2 a2 ∧ @Ne Nat a1 a2 ∧ @Ne Nat d1 a2 ∧ @Ne Nat a1 d2 ∧ @Ne Nat d1 d2 ∧ @Ne Nat nm fa ∧ @Ne Nat nm a1 ∧ @Ne Nat nm d1 ∧ @Ne Nat nm a2 ∧ @Ne Nat nm d2)
    (mf : (fa, ({ cls := Value.type "tuple", data := Data.seq #[Value.ref nm, Value.int (tc : Int) ttc, Value.ref lf, Value.ref ln, Value.ref bf] } : Obj)) ∈ news)
    (m1 : (a1, instObj 275 d1) ∈ news) (m2 : (d1, packD w p1 p2 p3 p4 b1 k1 c1 o1) ∈ news) (m3 : (a2, instObj 275 d2) ∈ news) (m4 : (d2, packD w q1 q2 q3 q4 b2 k2 c2 o2) ∈ news)
    (en : Nat) (mn : (nm, listOf (List.toArray nvs) en) ∈ news) (hst : ∀ v ∈ nvs, ∃ z t, v = Value.str z t) (htc : tc ≤ nvs.length) (hmx : nvs.length ≤ 1000)
    (ret : ∀ x dx t1 t2 t3 t4 t5 t6 t7 t8 t9 t10 t11 t12 t13 t14 t15 t16 t17 t18 t19 d n h' tk', Fr h₀ L h' m → News h₀ L h' ((x, instObj 331 dx) :: (dx, tab19 w t1 t2 t3 t4 t5 t6 t7 t8 t9 t10 t11 t12 t13 t14 t15 t16 t17 t18 t19 nm (tc : Int) ttc lf ln bf ch d a1 b1 k1 c1 o1 a2 b2 k2 c2 o2 gds gm n) :: news) → (∀ p ∈ news, @LT.lt Nat _ p.1 dx) → @LT.lt Nat _ dx x → Q (.ref x) { s with heap := h', toks := tk' }) :
    wpAny (model PySem.Challenge.rw_sf0018_01.row.prog w) (AT dp un fr gd) (call (.ref 331) [.ref fa, .ref ch, .ref a1, .ref a2, .ref gds, .ref gm]) Q E s := by
  revert X; k_fill; intro X
  refine call_cls (fI := 300) F X N (by k_is) (by k_is) (by k_is) ?_
  intro x dx h' F1 N1 l1 l2
  have st : h₀.StaysIn h' := F1.keep
  have hmods : ∀ q ∈ [(x, instObj 331 dx), (dx, dictOf [] 0), (fa, ({ cls := Value.type "tuple", data := Data.seq #[Value.ref nm, Value.int (tc : Int) ttc, Value.ref lf, Value.ref ln, Value.ref bf] } : Obj)), (a1, instObj 275 d1), (d1, packD w p1 p2 p3 p4 b1 k1 c1 o1), (a2, instObj 275 d2), (d2, packD w q1 q2 q3 q4 b2 k2 c2 o2)], h'.get? q.1 = some q.2 ∧ h₀.get? q.1 = none := by
    intro q hq
    simp only [List.mem_cons, List.not_mem_nil, or_false] at hq
    have sub : q ∈ (x, instObj 331 dx) :: (dx, dictOf [] 0) :: news := by
      rcases hq with rfl | rfl | rfl | rfl | rfl | rfl | rfl
      · exact .head _
      · exact .tail _ (.head _)
      · exact .tail _ (.tail _ mf)
      · exact .tail _ (.tail _ m1)
      · exact .tail _ (.tail _ m2)
      · exact .tail _ (.tail _ m3)
      · exact .tail _ (.tail _ m4)
    exact ⟨(N1 q sub).1, (N1 q sub).2.2⟩
  k_dflt (refine' enterP (binds := [(Str.ofString "self", .ref x), (Str.ofString "frame", .ref fa), (Str.ofString "defaults", .ref ch), (Str.ofString "actions", .ref a1), (Str.ofString "gotos", .ref a2), (Str.ofString "goto_defaults", .ref gds), (Str.ofString "goto_masks", .ref gm)]) ?k1 ?k2 ?k3 _ hmods ?k6 ?k7 ?k8 ?k9 ?kB ?_ ?c2 ?c3 ?c4 ?c5; (case k1 => exact X); (case k2 => exact T); (case k3 => exact st); (case k6 => k_is); (case k7 => k_is); (case k8 => ((simp only [depth_under_make]); (show dp + 1 < 1000); walk_at "om")); (case k9 => exact BindsTo.of_eq rfl); (case c5 => decide); (case kB => exact locs rfl); (case c2 => exact rfl); (case c3 => exact rfl); (case c4 => exact rfl))
  intro g L' h₁ F N Xg Tg stg sgs kg lt lsz
  conv in (fnBody _) => whnf
  conv in (occs := *) (fnScope _) => all_goals whnf
  have l2' : @LT.lt Nat _ dx x := l2
  have lf' : @LT.lt Nat _ fa dx := l1 _ mf
  have la1 : @LT.lt Nat _ a1 dx := l1 _ m1
  have ld1 : @LT.lt Nat _ d1 dx := l1 _ m2
  have la2 : @LT.lt Nat _ a2 dx := l1 _ m3
  have ld2 : @LT.lt Nat _ d2 dx := l1 _ m4
  have lnm : @LT.lt Nat _ nm dx := l1 _ mn
  have hng : g.IsList nm nvs.toArray := by
    obtain ⟨e1, e2, e3, e4, e5, e6, e7, e8, e9, e10, e11⟩ := hne
    have n1 : nm ≠ fa := e7
    have n2 : nm ≠ a1 := e8
    have n3 : nm ≠ d1 := e9
    have n4 : nm ≠ a2 := e10
    have n5 : nm ≠ d2 := e11
    have n6 : nm ≠ dx := Nat.ne_of_lt lnm
    have n7 : nm ≠ x := Nat.ne_of_lt (Nat.lt_trans lnm l2')
    exact ⟨_, kg nm _ (by simp [n1, n2, n3, n4, n5, n6, n7]) (N1 _ (.tail _ (.tail _ mn))).1, rfl, _, rfl⟩
  obtain ⟨e1, e2, e3, e4, e5, e6, e7, e8, e9, e10, e11⟩ := hne
  clear l2
  k_steps
  with_reducible rename News _ _ _ _ => N2
  with_reducible rename Fr _ _ _ _ => F2
  refine C_tinit w _ _ _ _ _ g _ _ ⟨Xg, _, _, _, Tg⟩ (by exact F2.keep) x dx l2' (N2 _ (.head _)).1 (N2 _ (.tail _ (.head _))).1 (N2 _ (.head _)).2.2 (N2 _ (.tail _ (.head _))).2.2 nm lf ln bf nvs hng hst tc ttc htc hmx ?_ ?_ ?_
  · (simp only [depth_under_make])
    show dp + 1 + 1 < 800
    walk_at "om"
  · have hU : ((AT dp un fr gd).under (Code.builtin "type.__call__" { pos := [Value.ref 331, Value.ref fa, Value.ref ch, Value.ref a1, Value.ref a2, Value.ref gds, Value.ref gm] })).units ≤ un + 10 := by
      simp [Around.under, Code.cUnits, Code.frames, Code.isFrame]
      try walk_at "om"
    walk_at "om"
  intro h3 tk3 t1 t2 t3 t4 t5 t6 t7 l d gx gdx kk
  obtain ⟨F3, N3⟩ := back_two (t := dx) (k := dx) (news' := [(x, instObj 331 dx), (dx, tab7 w t1 t2 t3 t4 t5 t6 t7 nm (tc : Int) ttc lf ln bf l d), (fa, ({ cls := Value.type "tuple", data := Data.seq #[Value.ref nm, Value.int (tc : Int) ttc, Value.ref lf, Value.ref ln, Value.ref bf] } : Obj)), (a1, instObj 275 d1), (d1, packD w p1 p2 p3 p4 b1 k1 c1 o1), (a2, instObj 275 d2), (d2, packD w q1 q2 q3 q4 b2 k2 c2 o2)]) F2 N2 ⟨_, .tail _ (.head _)⟩ ⟨_, .tail _ (.head _)⟩ (fun b o h1 _ e => kk b o h1 e) gdx gdx (by
    intro p hp
    simp only [List.mem_cons, List.not_mem_nil, or_false] at hp
    rcases hp with rfl | rfl | rfl | rfl | rfl | rfl | rfl
    · exact .inr (.inr ⟨neN (by dsimp only; walk_at "om"), neN (by dsimp only; walk_at "om"), by k_memK⟩)
    · exact .inl rfl
    · exact .inr (.inr ⟨neN (by dsimp only; walk_at "om"), neN (by dsimp only; walk_at "om"), by k_memK⟩)
    · exact .inr (.inr ⟨neN (by dsimp only; walk_at "om"), neN (by dsimp only; walk_at "om"), by k_memK⟩)
    · exact .inr (.inr ⟨neN (by dsimp only; walk_at "om"), neN (by dsimp only; walk_at "om"), by k_memK⟩)
    · exact .inr (.inr ⟨neN (by dsimp only; walk_at "om"), neN (by dsimp only; walk_at "om"), by k_memK⟩)
    · exact .inr (.inr ⟨neN (by dsimp only; walk_at "om"), neN (by dsimp only; walk_at "om"), by k_memK⟩))
  clear F2 N2 kk gx gdx
  k_steps
  with_reducible rename News _ _ _ _ => N9
  with_reducible rename Fr _ _ _ _ => F9
  refine ⟨rfl, ?_⟩
  have kept := kept_but (t := x) (k := dx) kg F9.keep hmods (fun q hq h1 h2 => by
    simp only [List.mem_cons, List.not_mem_nil, or_false] at hq
    rcases hq with rfl | rfl | rfl | rfl | rfl | rfl | rfl
    · exact absurd rfl h1
    · exact absurd rfl h2
    · exact (N9 (fa, _) (by k_memK)).1
    · exact (N9 (a1, _) (by k_memK)).1
    · exact (N9 (d1, _) (by k_memK)).1
    · exact (N9 (a2, _) (by k_memK)).1
    · exact (N9 (d2, _) (by k_memK)).1)
  obtain ⟨F8, N8⟩ := back_two (t := x) (k := dx) (news' := (x, instObj 331 dx) :: (dx, _) :: news) F1 N1 ⟨_, .head _⟩ ⟨_, .tail _ (.head _)⟩ kept (N9 _ (.head _)).1 (N9 _ (.tail _ (.head _))).1 (fun p hp => by
    rcases List.mem_cons.mp hp with rfl | hp
    · exact .inl rfl
    · rcases List.mem_cons.mp hp with rfl | hp
      · exact .inr (.inl rfl)
      · have q1 : @LT.lt Nat _ p.1 dx := l1 p hp
        exact .inr (.inr ⟨Nat.ne_of_lt (Nat.lt_trans q1 l2'), Nat.ne_of_lt q1, .tail _ (.tail _ hp)⟩))
  exact ret x dx _ _ _ _ _ _ _ _ _ _ _ _ _ _ _ _ _ _ _ _ _ _ _ F8 N8 l1 l2'

end OC
section OD
open PySem PySem.W PyProof.Rows PySem.Calls PySem.Spec PyProof.Rows.LCg
theorem lines_OD : True := by
  k_with_none
  k_with "om" => first | ((repeat ((with_reducible rename (@LT.lt Nat _ _ _ ∧ _) => hq9); clear hq9)); (repeat ((with_reducible rename (@Ne Nat _ _) => hq9); clear hq9)); omega) | omega
  k_with "c room" => (dsimp only [AT, Around.deeper, Around.in1]; first | ((repeat refine room_up ?_); exact Nat.lt_of_lt_of_le (by assumption) (by decide)) | walk_at "om")
  k_with "setItem ref int" => (k_here; k_dflt (refine' setAt_any (by k_asm) (by k_asm) (by k_upd) (by decide) (by decide) (by decide) ?_; k_whole); intro _ _ _; (try k_sweep))
  k_with "eval ListComp" => (k_here; k_dflt (refine comp_stop (F₀ := by k_asm) (by with_unfolding_all rfl) (by decide) (by rfl) (by decide) (by rfl) ?_))
  k_with "k_all" => (refine tail_off (by assumption) ?_; (try dsimp only); first | assumption | walk_at "om")
  k_with "subscriptTail" => (k_here; (with_reducible show wpAny _ _ (subscriptTail _ _ (Value.ref _) (Value.int _ _)) _ _ _); k_dflt (refine' row_item (by k_asm) (by with_reducible assumption) (by assumption) ?_ (by with_unfolding_all rfl); k_whole); intro _)
  k_with "exec For Name Call cons nil" => (k_here; k_dflt (refine for_stop (by k_asm) (by with_unfolding_all rfl) (by with_unfolding_all rfl) ?_))
  k_with "call builtin:len" => (k_here; (with_reducible show wpAny _ _ (call (Value.builtin "len") [Value.ref _]) _ _ _); k_dflt (refine' len_base (by k_asm) (by assumption) (by first | assumption | walk_at "om") ?_; k_whole))
  k_with "call builtin:len" => (k_here; (with_reducible show wpAny _ _ (call (Value.builtin "len") [Value.ref _]) _ _ _); k_dflt (refine' len_led (by k_asm) (by k_memK) (by first | assumption | walk_at "om") ?_; k_whole))
  k_with "subscriptTail" => (k_here; (with_reducible show wpAny _ _ (subscriptTail _ _ (Value.ref _) (Value.int _ _)) _ _ _); k_dflt (refine' item_base (by k_asm) (by assumption) (by assumption) (by first | assumption | walk_at "om") (by first | assumption | walk_at "om") ?_; k_whole))
  k_with "c unit" => (dsimp only [AT, Around.deeper, Around.in1]; unfold cLine; first | exact Nat.lt_of_lt_of_le (by assumption) (by decide) | exact Nat.lt_of_lt_of_le (Nat.add_lt_add_right (by assumption) _) (by decide) | walk_at "om")
  k_with "eval Dict nil nil" => (k_here; k_dflt (refine' newDict_L (by k_asm) (by k_asm) (TopRead.nolimit (by k_asm)) ?_; k_whole); intro _ _ _ _ _ l1 _ _ _; (replace l1 := allLt_of l1; dsimp only [AllLt] at l1); (revert l1; intro _); (try k_sweep))
  k_with "newList" => (k_here; k_dflt (refine' newList_L (by k_asm) (by k_asm) ?_; k_whole); intro _ _ _ _ l1 _; (replace l1 := allLt_of l1; dsimp only [AllLt] at l1); (revert l1; intro _); (try k_sweep))
  k_with "call builtin:len" => (k_here; (with_reducible show wpAny _ _ (call (Value.builtin "len") [Value.ref _]) _ _ _); k_dflt (refine' len_row (by k_asm) (by assumption) (by first | assumption | walk_at "om") ?_; k_whole); intro _ _)
  k_with "exec For Name Name cons cons" => (k_here; k_dflt (refine for_stop (by k_asm) (by with_unfolding_all rfl) (by with_unfolding_all rfl) ?_))
  k_with "exec For Name Name cons nil" => (k_here; k_dflt (refine for_stop (by k_asm) (by with_unfolding_all rfl) (by with_unfolding_all rfl) ?_))
  k_with "exec For Name Name" => (k_here; k_dflt (refine for_stop (by k_asm) (by with_unfolding_all rfl) (by with_unfolding_all rfl) ?_))
  k_with "exec While" => (refine stop_at ?_)
  k_with "exec While Compare" => (refine stop_at ?_)
  k_with "exec While UnaryOp" => (refine stop_at ?_)
  k_with "setItem ref int" => (k_here; k_dflt (refine' setAt_any (by k_asm) (by k_asm) (by k_upd) (by walk_at "om") (by walk_at "om") (by walk_at "om") ?_; k_whole); intro _ _ _; (try k_sweep))
  k_with "c cj" => (first | assumption | exact And.left (by assumption) | exact And.right (by assumption) | exact And.left (And.right (by assumption)) | exact And.right (And.right (by assumption)) | exact And.left (And.right (And.right (by assumption))) | exact And.right (And.right (And.right (by assumption))) | exact And.left (And.right (And.right (And.right (by assumption)))) | exact And.right (And.right (And.right (And.right (by assumption)))) | exact And.left (And.right (And.right (And.right (And.right (by assumption))))) | exact And.right (And.right (And.right (And.right (And.right (by assumption))))) | exact And.left (And.right (And.right (And.right (And.right (And.right (by assumption)))))) | exact And.right (And.right (And.right (And.right (And.right (And.right (by assumption)))))) | exact And.left (And.right (And.right (And.right (And.right (And.right (And.right (by assumption))))))) | exact And.right (And.right (And.right (And.right (And.right (And.right (And.right (by assumption))))))) | exact And.left (And.right (And.right (And.right (And.right (And.right (And.right (And.right (by assumption)))))))) | exact And.right (And.right (And.right (And.right (And.right (And.right (And.right (And.right (by assumption)))))))) | exact And.left (And.right (And.right (And.right (And.right (And.right (And.right (And.right (And.right (by assumption))))))))) | exact And.right (And.right (And.right (And.right (And.right (And.right (And.right (And.right (And.right (by assumption))))))))) | exact And.left (And.right (And.right (And.right (And.right (And.right (And.right (And.right (And.right (And.right (by assumption)))))))))) | exact And.right (And.right (And.right (And.right (And.right (And.right (And.right (And.right (And.right (And.right (by assumption)))))))))))
  k_with "k_ne" => (refine neN ?_; (try dsimp only); first | assumption | exact Ne.symm (by assumption) | exact Nat.ne_of_lt (by walk_at "c cj") | exact Nat.ne_of_gt (by walk_at "c cj") | walk_at "c cj" | exact Ne.symm (by walk_at "c cj") | walk_at "om")
  k_with "execs cons" => ((try dsimp only at *); refine execs_hid ?_; intro Pst hNx)
  k_with "close" => (refine nx_go (by assumption) ?_; clear hNx; (try clear Pst))
  k_with "close" => (refine nr_go (by assumption) ?_; (try dsimp only))
  k_with "isTrue BoolOp" => ((with_reducible show wpAny _ _ _ (fun b s₂ => if b = true then _ else _) _ _); refine stop_at ?_)
  trivial
section
theorem C_kind (w : World) (dp un : Nat) (fr : List Env) (gd : Option (List Code)) (s : Shared) (Q E : Value → Shared → Prop)
    (am : Amb w s.heap) (ax : Addr) (vs : List Value) (ns : List Int) (hl : s.heap.IsList ax vs.toArray) (hI : IntsAre vs ns) (hmx : ns.length ≤ 20000)
    (hdp : dp < 800) (hun : un < 800)
    (ret : ∀ p h' tk' nm t1 t2, h'.get? p = some { cls := Value.type "tuple", data := Data.seq #[Value.str nm t1, Value.int (sizeF ns) t2] } → s.heap.get? p = none → (∀ b o, s.heap.get? b = some o → h'.get? b = some o) → Q (.ref p) { s with heap := h', toks := tk' }) :
    wpAny (model PySem.Challenge.rw_sf0018_01.row.prog w) (AT dp un fr gd) (call (.ref 340) [.ref ax]) Q E s := by
  obtain ⟨X, mean, mg, mb, T⟩ := am
  revert X; k_fill; intro X
  have st : s.heap.StaysIn s.heap := fun _ _ e => e
  refine wpAny_call ?_
  k_dflt (refine' enterP (binds := [(Str.ofString "numbers", .ref ax)]) ?k1 ?k2 ?k3 [] no_mods ?k6 ?k7 ?k8 ?k9 ?kB ?_ ?c2 ?c3 ?c4 ?c5; (case k1 => assumption); (case k2 => assumption); (case k3 => assumption); (case k6 => k_is); (case k7 => k_is); (case k8 => ktr_room); (case k9 => exact BindsTo.of_eq rfl); (case c5 => decide); (case kB => exact locs rfl); (case c2 => exact rfl); (case c3 => exact rfl); (case c4 => exact rfl))
  intro g L' h₁ F N Xg Tg stg sgs kg lt lsz
  conv in (fnBody _) => whnf
  conv in (occs := *) (fnScope _) => all_goals whnf
  obtain ⟨hp0, gn0, dr0, tk0, os0⟩ := s
  dsimp only at *
  have hlg : g.IsList ax vs.toArray := hl.at fun o e => kg _ _ (by simp) e
  have hvl := hI.length
  have fresh : ∀ {a : Addr}, g.get? a = none → hp0.get? a = none := fun {a} q => by
    cases e9 : hp0.get? a with
    | none => rfl
    | some o => have := kg a o (by simp) e9; rw [q] at this; cases this
  k_steps
  rename (∀ (a : Int), a ∈ ns ++ [0] → _ ≤ a) => hlo
  rename (∀ (a : Int), a ∈ ns ++ [0] → a ≤ _) => hhi
  have e1 := low_eq (by assumption) hlo
  have e2 := high_eq (by assumption) hhi
  subst e1 e2
  clear hlo hhi
  refine Stop.mk (join_test (decide ((-127) ≤ lowF ns) && decide (highF ns ≤ 127)) ?_ ?_)
  · refine hideQ ?_
    intro Post1 fin1
    k_steps
    all_goals (refine fin1 _ _ ?_; exact Stop.mk ⟨by simp [*], _, rfl⟩)
  intro tkx
  cases hc1 : (decide ((-127) ≤ lowF ns) && decide (highF ns ≤ 127)) with
  | true =>
    k_steps
    with_reducible rename News _ _ _ _ => N9
    with_reducible rename Fr _ _ _ _ => F9
    exact ret _ _ _ _ _ _ ((N9 _ (.head _)).1.trans (by rw [show sizeF ns = 1 from by unfold sizeF kindF; rw [if_pos hc1]])) (fresh (N9 _ (.head _)).2.2) (fun b o e => F9.keep b o (kg b o (by simp) e))
  | false =>
    k_steps
    refine Stop.mk (join_test (decide (0 ≤ lowF ns) && decide (highF ns ≤ 255)) ?_ ?_)
    · refine hideQ ?_
      intro Post1 fin1
      k_steps
      all_goals (refine fin1 _ _ ?_; exact Stop.mk ⟨by simp [*], _, rfl⟩)
    intro tkx
    cases hc2 : (decide (0 ≤ lowF ns) && decide (highF ns ≤ 255)) with
    | true =>
      k_steps
      with_reducible rename News _ _ _ _ => N9
      with_reducible rename Fr _ _ _ _ => F9
      exact ret _ _ _ _ _ _ ((N9 _ (.head _)).1.trans (by rw [show sizeF ns = 1 from by unfold sizeF kindF; rw [if_neg (by rw [hc1]; exact fun e => nomatch e), if_pos hc2]])) (fresh (N9 _ (.head _)).2.2) (fun b o e => F9.keep b o (kg b o (by simp) e))
    | false =>
      k_steps
      refine Stop.mk (join_test (decide ((-32767) ≤ lowF ns) && decide (highF ns ≤ 32767)) ?_ ?_)
      · refine hideQ ?_
        intro Post1 fin1
        k_steps
        all_goals (refine fin1 _ _ ?_; exact Stop.mk ⟨by simp [*], _, rfl⟩)
      intro tkx
      cases hc3 : (decide ((-32767) ≤ lowF ns) && decide (highF ns ≤ 32767)) with
      | true =>
        k_steps
        with_reducible rename News _ _ _ _ => N9
        with_reducible rename Fr _ _ _ _ => F9
        exact ret _ _ _ _ _ _ ((N9 _ (.head _)).1.trans (by rw [show sizeF ns = 2 from by unfold sizeF kindF; rw [if_neg (by rw [hc1]; exact fun e => nomatch e), if_neg (by rw [hc2]; exact fun e => nomatch e), if_pos hc3]])) (fresh (N9 _ (.head _)).2.2) (fun b o e => F9.keep b o (kg b o (by simp) e))
      | false =>
        k_steps
        refine Stop.mk (join_test (decide (0 ≤ lowF ns) && decide (highF ns ≤ 65535)) ?_ ?_)
        · refine hideQ ?_
          intro Post1 fin1
          k_steps
          all_goals (refine fin1 _ _ ?_; exact Stop.mk ⟨by simp [*], _, rfl⟩)
        intro tkx
        cases hc4 : (decide (0 ≤ lowF ns) && decide (highF ns ≤ 65535)) with
        | true =>
          k_steps
          with_reducible rename News _ _ _ _ => N9
          with_reducible rename Fr _ _ _ _ => F9
          exact ret _ _ _ _ _ _ ((N9 _ (.head _)).1.trans (by rw [show sizeF ns = 2 from by unfold sizeF kindF; rw [if_neg (by rw [hc1]; exact fun e => nomatch e), if_neg (by rw [hc2]; exact fun e => nomatch e), if_neg (by rw [hc3]; exact fun e => nomatch e), if_pos hc4]])) (fresh (N9 _ (.head _)).2.2) (fun b o e => F9.keep b o (kg b o (by simp) e))
        | false =>
          k_steps
          with_reducible rename News _ _ _ _ => N9
          with_reducible rename Fr _ _ _ _ => F9
          exact ret _ _ _ _ _ _ ((N9 _ (.head _)).1.trans (by rw [show sizeF ns = 4 from by unfold sizeF kindF; rw [if_neg (by rw [hc1]; exact fun e => nomatch e), if_neg (by rw [hc2]; exact fun e => nomatch e), if_neg (by rw [hc3]; exact fun e => nomatch e), if_neg (by rw [hc4]; exact fun e => nomatch e)]])) (fresh (N9 _ (.head _)).2.2) (fun b o e => F9.keep b o (kg b o (by simp) e))

end

end OD
section OE
open PySem PySem.W PyProof.Rows PySem.Calls PySem.Spec PyProof.Rows.LCg
theorem lines_OE : True := by
  k_with_none
  k_with "om" => first | ((repeat ((with_reducible rename (@LT.lt Nat _ _ _ ∧ _) => hq9); clear hq9)); (repeat ((with_reducible rename (@Ne Nat _ _) => hq9); clear hq9)); omega) | omega
  k_with "c room" => (dsimp only [AT, Around.deeper, Around.in1]; first | ((repeat refine room_up ?_); exact Nat.lt_of_lt_of_le (by assumption) (by decide)) | walk_at "om")
  k_with "setItem ref int" => (k_here; k_dflt (refine' setAt_any (by k_asm) (by k_asm) (by k_upd) (by decide) (by decide) (by decide) ?_; k_whole); intro _ _ _; (try k_sweep))
  k_with "eval ListComp" => (k_here; k_dflt (refine comp_stop (F₀ := by k_asm) (by with_unfolding_all rfl) (by decide) (by rfl) (by decide) (by rfl) ?_))
  k_with "k_all" => (refine tail_off (by assumption) ?_; (try dsimp only); first | assumption | walk_at "om")
  k_with "subscriptTail" => (k_here; (with_reducible show wpAny _ _ (subscriptTail _ _ (Value.ref _) (Value.int _ _)) _ _ _); k_dflt (refine' row_item (by k_asm) (by with_reducible assumption) (by assumption) ?_ (by with_unfolding_all rfl); k_whole); intro _)
  k_with "exec For Name Call cons nil" => (k_here; k_dflt (refine for_stop (by k_asm) (by with_unfolding_all rfl) (by with_unfolding_all rfl) ?_))
  k_with "call builtin:len" => (k_here; (with_reducible show wpAny _ _ (call (Value.builtin "len") [Value.ref _]) _ _ _); k_dflt (refine' len_base (by k_asm) (by assumption) (by first | assumption | walk_at "om") ?_; k_whole))
  k_with "call builtin:len" => (k_here; (with_reducible show wpAny _ _ (call (Value.builtin "len") [Value.ref _]) _ _ _); k_dflt (refine' len_led (by k_asm) (by k_memK) (by first | assumption | walk_at "om") ?_; k_whole))
  k_with "subscriptTail" => (k_here; (with_reducible show wpAny _ _ (subscriptTail _ _ (Value.ref _) (Value.int _ _)) _ _ _); k_dflt (refine' item_base (by k_asm) (by assumption) (by assumption) (by first | assumption | walk_at "om") (by first | assumption | walk_at "om") ?_; k_whole))
  k_with "c unit" => (dsimp only [AT, Around.deeper, Around.in1]; unfold cLine; first | exact Nat.lt_of_lt_of_le (by assumption) (by decide) | exact Nat.lt_of_lt_of_le (Nat.add_lt_add_right (by assumption) _) (by decide) | walk_at "om")
  k_with "eval Dict nil nil" => (k_here; k_dflt (refine' newDict_L (by k_asm) (by k_asm) (TopRead.nolimit (by k_asm)) ?_; k_whole); intro _ _ _ _ _ l1 _ _ _; (replace l1 := allLt_of l1; dsimp only [AllLt] at l1); (revert l1; intro _); (try k_sweep))
  k_with "newList" => (k_here; k_dflt (refine' newList_L (by k_asm) (by k_asm) ?_; k_whole); intro _ _ _ _ l1 _; (replace l1 := allLt_of l1; dsimp only [AllLt] at l1); (revert l1; intro _); (try k_sweep))
  k_with "call builtin:len" => (k_here; (with_reducible show wpAny _ _ (call (Value.builtin "len") [Value.ref _]) _ _ _); k_dflt (refine' len_row (by k_asm) (by assumption) (by first | assumption | walk_at "om") ?_; k_whole); intro _ _)
  k_with "exec For Name Name cons cons" => (k_here; k_dflt (refine for_stop (by k_asm) (by with_unfolding_all rfl) (by with_unfolding_all rfl) ?_))
  k_with "exec For Name Name cons nil" => (k_here; k_dflt (refine for_stop (by k_asm) (by with_unfolding_all rfl) (by with_unfolding_all rfl) ?_))
  k_with "exec For Name Name" => (k_here; k_dflt (refine for_stop (by k_asm) (by with_unfolding_all rfl) (by with_unfolding_all rfl) ?_))
  k_with "exec While" => (refine stop_at ?_)
  k_with "exec While Compare" => (refine stop_at ?_)
  k_with "exec While UnaryOp" => (refine stop_at ?_)
  k_with "setItem ref int" => (k_here; k_dflt (refine' setAt_any (by k_asm) (by k_asm) (by k_upd) (by walk_at "om") (by walk_at "om") (by walk_at "om") ?_; k_whole); intro _ _ _; (try k_sweep))
  k_with "c cj" => (first | assumption | exact And.left (by assumption) | exact And.right (by assumption) | exact And.left (And.right (by assumption)) | exact And.right (And.right (by assumption)) | exact And.left (And.right (And.right (by assumption))) | exact And.right (And.right (And.right (by assumption))) | exact And.left (And.right (And.right (And.right (by assumption)))) | exact And.right (And.right (And.right (And.right (by assumption)))) | exact And.left (And.right (And.right (And.right (And.right (by assumption))))) | exact And.right (And.right (And.right (And.right (And.right (by assumption))))) | exact And.left (And.right (And.right (And.right (And.right (And.right (by assumption)))))) | exact And.right (And.right (And.right (And.right (And.right (And.right (by assumption)))))) | exact And.left (And.right (And.right (And.right (And.right (And.right (And.right (by assumption))))))) | exact And.right (And.right (And.right (And.right (And.right (And.right (And.right (by assumption))))))) | exact And.left (And.right (And.right (And.right (And.right (And.right (And.right (And.right (by assumption)))))))) | exact And.right (And.right (And.right (And.right (And.right (And.right (And.right (And.right (by assumption)))))))) | exact And.left (And.right (And.right (And.right (And.right (And.right (And.right (And.right (And.right (by assumption))))))))) | exact And.right (And.right (And.right (And.right (And.right (And.right (And.right (And.right (And.right (by assumption))))))))) | exact And.left (And.right (And.right (And.right (And.right (And.right (And.right (And.right (And.right (And.right (by assumption)))))))))) | exact And.right (And.right (And.right (And.right (And.right (And.right (And.right (And.right (And.right (And.right (by assumption)))))))))))
  k_with "k_ne" => (refine neN ?_; (try dsimp only); first | assumption | exact Ne.symm (by assumption) | exact Nat.ne_of_lt (by walk_at "c cj") | exact Nat.ne_of_gt (by walk_at "c cj") | walk_at "c cj" | exact Ne.symm (by walk_at "c cj") | walk_at "om")
  k_with "execs cons" => ((try dsimp only at *); refine execs_hid ?_; intro Pst hNx)
  k_with "close" => (refine nx_go (by assumption) ?_; clear hNx; (try clear Pst))
  k_with "close" => (refine nr_go (by assumption) ?_; (try dsimp only))
  k_with "call ref" => (k_here; k_dflt (refine' use_kind (by k_asm) (by k_asm) (by k_asm) (by k_asm) (by assumption) (by assumption) (by assumption) (by walk_at "c room") (by walk_at "c room") ?_; k_whole); intro _ _ _ _ _ _ _ _ _ _ _ _; (try k_sweep))
  k_with "binaryOp Mult int int" => (k_here; (refine PyProof.Rows.mul_int ?_ (IntMulOk.of_left (intBits_le_64 (by walk_at "om") (by walk_at "om")))))
  k_with "exec For Name Tuple" => (k_here; k_dflt (refine for_stop (by k_asm) (by with_unfolding_all rfl) (by with_unfolding_all rfl) ?_))
  k_with "exec For Name Tuple cons nil" => (k_here; k_dflt (refine for_stop (by k_asm) (by with_unfolding_all rfl) (by with_unfolding_all rfl) ?_))
  k_with "exec For Name Tuple cons cons" => (k_here; k_dflt (refine for_stop (by k_asm) (by with_unfolding_all rfl) (by with_unfolding_all rfl) ?_))
  trivial
theorem kindF_le (lo hi : Int) : 1 ≤ kindF lo hi ∧ kindF lo hi ≤ 4 := by
  unfold kindF
  repeat' split
  all_goals omega
theorem use_kind {w : World} {dp un : Nat} {fr : List Env} {gd : Option (List Code)} {s : Shared} {h₀ : Heap} {L : Addr} {m : Str → Option Value} {news : List (Addr × Obj)} {Q E : Value → Shared → Prop} {mean : ExcName → Option Value} {mg mb : Str → Option Value} {ax : Addr} {vs : List Value} {ns : List Int}
    (F : Fr h₀ L s.heap m) (N : News h₀ L s.heap news) (X : (KD w.params).In h₀) (T : Top VD (looseW VD []) mean mg mb h₀) (hl : h₀.IsList ax vs.toArray) (hI : IntsAre vs ns) (hmx : ns.length ≤ 20000) (hdp : dp < 800) (hun : un < 800)
    (ret : ∀ p h' tk' nm t1 t2 z, Fr h₀ L h' m → News h₀ L h' ((p, { cls := Value.type "tuple", data := Data.seq #[Value.str nm t1, Value.int z t2] }) :: news) → z = sizeF ns → 1 ≤ z → z ≤ 4 → Q (.ref p) { s with heap := h', toks := tk' }) :
    wpAny (model PySem.Challenge.rw_sf0018_01.row.prog w) (AT dp un fr gd) (call (.ref 340) [.ref ax]) Q E s := by
  refine C_kind w dp un fr gd s Q E (Amb.keeps ⟨X, _, _, _, T⟩ F.keep) ax vs ns (hl.at fun o e => F.keep _ o e) hI hmx hdp hun ?_
  intro p h' tk' nm t1 t2 hp hf kk
  obtain ⟨F', N', _⟩ := news_new N F kk hf hp
  exact ret p h' tk' nm t1 t2 _ F' N' rfl (kindF_le _ _).1 (kindF_le _ _).2
section
theorem C_octets (w : World) (dp un : Nat) (fr : List Env) (gd : Option (List Code)) (s : Shared) (Q E : Value → Shared → Prop) {h₀ : Heap}
    (am : Amb w h₀) (st : h₀.StaysIn s.heap) (x dx a1 d1 a2 d2 b1 k1 c1 o1 b2 k2 c2 o2 nm lf ln bf ch d gds gm : Addr) (p1 p2 p3 p4 q1 q2 q3 q4 ttc t1 t2 t3 t4 t5 t6 t7 t8 t9 t10 t11 t12 t13 t14 t15 t16 t17 t18 t19 : Tok) (tc : Int) (n : Nat)
    (hmods : ∀ q ∈ [(x, instObj 331 dx), (dx, tab19 w t1 t2 t3 t4 t5 t6 t7 t8 t9 t10 t11 t12 t13 t14 t15 t16 t17 t18 t19 nm tc ttc lf ln bf ch d a1 b1 k1 c1 o1 a2 b2 k2 c2 o2 gds gm n), (a1, instObj 275 d1), (d1, packD w p1 p2 p3 p4 b1 k1 c1 o1), (a2, instObj 275 d2), (d2, packD w q1 q2 q3 q4 b2 k2 c2 o2)], s.heap.get? q.1 = some q.2 ∧ h₀.get? q.1 = none)
    (nb1 : List Int) (lb1 : LstAt s.heap b1 nb1) (nk1 : List Int) (lk1 : LstAt s.heap k1 nk1) (nc1 : List Int) (lc1 : LstAt s.heap c1 nc1) (no1 : List Int) (lo1 : LstAt s.heap o1 no1) (nb2 : List Int) (lb2 : LstAt s.heap b2 nb2) (nk2 : List Int) (lk2 : LstAt s.heap k2 nk2) (nc2 : List Int) (lc2 : LstAt s.heap c2 nc2) (no2 : List Int) (lo2 : LstAt s.heap o2 no2) (nch : List Int) (lch : LstAt s.heap ch nch) (ngds : List Int) (lgds : LstAt s.heap gds ngds)
    (hdp : dp < 600) (hun : un < 600)
    (ret : ∀ h' tk' t, (∀ b o, s.heap.get? b = some o → h'.get? b = some o) → Q (.int (totF 0 [nb1, nk1, nc1, no1, nb2, nk2, nc2, no2, nch, ngds]) t) { s with heap := h', toks := tk' }) :
    wpAny (model PySem.Challenge.rw_sf0018_01.row.prog w) (AT dp un fr gd) (call (.ref 347) [.ref x]) Q E s := by
  obtain ⟨X, mean, mg, mb, T⟩ := am
  revert X; k_fill; intro X
  refine wpAny_call ?_
  k_dflt (refine' enterP (binds := [(Str.ofString "packed", .ref x)]) ?k1 ?k2 ?k3 _ hmods ?k6 ?k7 ?k8 ?k9 ?kB ?_ ?c2 ?c3 ?c4 ?c5; (case k1 => assumption); (case k2 => assumption); (case k3 => assumption); (case k6 => k_is); (case k7 => k_is); (case k8 => ktr_room); (case k9 => exact BindsTo.of_eq rfl); (case c5 => decide); (case kB => exact locs rfl); (case c2 => exact rfl); (case c3 => exact rfl); (case c4 => exact rfl))
  intro g L' h₁ F N Xg Tg stg sgs kg lt lsz
  conv in (fnBody _) => whnf
  conv in (occs := *) (fnScope _) => all_goals whnf
  have nl : ∀ q ∈ [(x, instObj 331 dx), (dx, tab19 w t1 t2 t3 t4 t5 t6 t7 t8 t9 t10 t11 t12 t13 t14 t15 t16 t17 t18 t19 nm tc ttc lf ln bf ch d a1 b1 k1 c1 o1 a2 b2 k2 c2 o2 gds gm n), (a1, instObj 275 d1), (d1, packD w p1 p2 p3 p4 b1 k1 c1 o1), (a2, instObj 275 d2), (d2, packD w q1 q2 q3 q4 b2 k2 c2 o2)], q.2.cls ≠ .type "list" := by
    intro q hq
    simp only [List.mem_cons, List.not_mem_nil, or_false] at hq
    rcases hq with rfl | rfl | rfl | rfl | rfl | rfl <;> (intro e; exact absurd e (by simp [instObj, dictOf]))
  replace lb1 := lb1.back kg hmods nl
  replace lk1 := lk1.back kg hmods nl
  replace lc1 := lc1.back kg hmods nl
  replace lo1 := lo1.back kg hmods nl
  replace lb2 := lb2.back kg hmods nl
  replace lk2 := lk2.back kg hmods nl
  replace lc2 := lc2.back kg hmods nl
  replace lo2 := lo2.back kg hmods nl
  replace lch := lch.back kg hmods nl
  replace lgds := lgds.back kg hmods nl
  replace F : Fr g L' h₁ (fun y => if y = Str.ofString "packed" then some (Value.ref x) else none) := look1 _ _ ▸ F
  k_steps
  with_reducible rename News _ _ _ _ => N1
  with_reducible rename Fr _ _ _ _ => F1
  rename_i D hh2 lD
  refine Stop.mk (loop_tup (vs := [.ref a1, .ref a2]) (e := 0) (by rfl) F1 N1 (fun i m nw => ∃ tt nv rv, nw = (D, { cls := Value.type "tuple", data := Data.seq #[.ref a1, .ref a2] }) :: [(x, instObj 331 dx), (dx, tab19 w t1 t2 t3 t4 t5 t6 t7 t8 t9 t10 t11 t12 t13 t14 t15 t16 t17 t18 t19 nm tc ttc lf ln bf ch d a1 b1 k1 c1 o1 a2 b2 k2 c2 o2 gds gm n), (a1, instObj 275 d1), (d1, packD w p1 p2 p3 p4 b1 k1 c1 o1), (a2, instObj 275 d2), (d2, packD w q1 q2 q3 q4 b2 k2 c2 o2)] ∧
      m = (fun y => if y = Str.ofString "total" then some (.int (totF 0 ([nb1, nk1, nc1, no1, nb2, nk2, nc2, no2].take (4 * i))) tt) else if y = Str.ofString "numbers" then nv else if y = Str.ofString "rows" then rv else if y = Str.ofString "packed" then some (Value.ref x) else none)) ?_ ?_ ?_ ?_)
  · rintro i m nw ⟨tt, nv, rv, rfl, rfl⟩
    exact .head _
  · exact ⟨_, none, none, rfl, oct_ini⟩
  · intro i v m₁ nw I oI h10 tk10 hv hJ1 hoff F10 N10
    refine hideB ?_
    intro Post1 fin1 P ret1
    refine exE3 hJ1 ?_
    clear hJ1
    intro tt nv rv hE
    refine anE2 hE ?_
    clear hE
    intro hq1 hq2
    subst hq1
    subst hq2
    have e1 : (a1, instObj 275 d1) ∈ [(x, instObj 331 dx), (dx, tab19 w t1 t2 t3 t4 t5 t6 t7 t8 t9 t10 t11 t12 t13 t14 t15 t16 t17 t18 t19 nm tc ttc lf ln bf ch d a1 b1 k1 c1 o1 a2 b2 k2 c2 o2 gds gm n), (a1, instObj 275 d1), (d1, packD w p1 p2 p3 p4 b1 k1 c1 o1), (a2, instObj 275 d2), (d2, packD w q1 q2 q3 q4 b2 k2 c2 o2)] := by k_memK
    have e2 : (d1, packD w p1 p2 p3 p4 b1 k1 c1 o1) ∈ [(x, instObj 331 dx), (dx, tab19 w t1 t2 t3 t4 t5 t6 t7 t8 t9 t10 t11 t12 t13 t14 t15 t16 t17 t18 t19 nm tc ttc lf ln bf ch d a1 b1 k1 c1 o1 a2 b2 k2 c2 o2 gds gm n), (a1, instObj 275 d1), (d1, packD w p1 p2 p3 p4 b1 k1 c1 o1), (a2, instObj 275 d2), (d2, packD w q1 q2 q3 q4 b2 k2 c2 o2)] := by k_memK
    have e3 : (a2, instObj 275 d2) ∈ [(x, instObj 331 dx), (dx, tab19 w t1 t2 t3 t4 t5 t6 t7 t8 t9 t10 t11 t12 t13 t14 t15 t16 t17 t18 t19 nm tc ttc lf ln bf ch d a1 b1 k1 c1 o1 a2 b2 k2 c2 o2 gds gm n), (a1, instObj 275 d1), (d1, packD w p1 p2 p3 p4 b1 k1 c1 o1), (a2, instObj 275 d2), (d2, packD w q1 q2 q3 q4 b2 k2 c2 o2)] := by k_memK
    have e4 : (d2, packD w q1 q2 q3 q4 b2 k2 c2 o2) ∈ [(x, instObj 331 dx), (dx, tab19 w t1 t2 t3 t4 t5 t6 t7 t8 t9 t10 t11 t12 t13 t14 t15 t16 t17 t18 t19 nm tc ttc lf ln bf ch d a1 b1 k1 c1 o1 a2 b2 k2 c2 o2 gds gm n), (a1, instObj 275 d1), (d1, packD w p1 p2 p3 p4 b1 k1 c1 o1), (a2, instObj 275 d2), (d2, packD w q1 q2 q3 q4 b2 k2 c2 o2)] := by k_memK
    clear N1 F1
    generalize hrest : [(x, instObj 331 dx), (dx, tab19 w t1 t2 t3 t4 t5 t6 t7 t8 t9 t10 t11 t12 t13 t14 t15 t16 t17 t18 t19 nm tc ttc lf ln bf ch d a1 b1 k1 c1 o1 a2 b2 k2 c2 o2 gds gm n), (a1, instObj 275 d1), (d1, packD w p1 p2 p3 p4 b1 k1 c1 o1), (a2, instObj 275 d2), (d2, packD w q1 q2 q3 q4 b2 k2 c2 o2)] = rest at *
    clear hrest
    have hJ5 : ∃ a da b k c o r1 r2 r3 r4 nb nk nc no, v = .ref a ∧ LstAt g b nb ∧ LstAt g k nk ∧ LstAt g c nc ∧ LstAt g o no ∧
        totF 0 ([nb1, nk1, nc1, no1, nb2, nk2, nc2, no2].take (4 * (i + 1))) = totF (totF 0 ([nb1, nk1, nc1, no1, nb2, nk2, nc2, no2].take (4 * i))) [nb, nk, nc, no] ∧ (a, instObj 275 da) ∈ rest ∧ (da, packD w r1 r2 r3 r4 b k c o) ∈ rest := by
      rcases i with _ | _ | i
      · cases hv; exact exI7 a1 d1 b1 k1 c1 o1 p1 (exI7 p2 p3 p4 nb1 nk1 nc1 no1 ⟨rfl, lb1, lk1, lc1, lo1, rfl, e1, e2⟩)
      · cases hv; exact exI7 a2 d2 b2 k2 c2 o2 q1 (exI7 q2 q3 q4 nb2 nk2 nc2 no2 ⟨rfl, lb2, lk2, lc2, lo2, rfl, e3, e4⟩)
      · simp at hv
    refine exE7 hJ5 ?_
    clear hJ5
    intro a da b k c o r1 hE
    refine exE7 hE ?_
    clear hE
    intro r2 r3 r4 nb nk nc no hE
    refine anE7 hE ?_
    clear hE
    intro hq1 lb lk lc lo tot hE
    refine anE2 hE ?_
    clear hE
    intro m1 m2
    subst hq1
    refine ret1 ?_
    clear ret1 P
    have N11 : News g (envOf (Str.ofString "octets") _ L' 347 _).locals h10 ((I, oI) :: (D, { cls := Value.type "tuple", data := Data.seq #[.ref a1, .ref a2] }) :: (a, instObj 275 da) :: (da, packD w r1 r2 r3 r4 b k c o) :: rest) := fun p hp => by
      rcases List.mem_cons.mp hp with rfl | hp
      · exact N10 _ (.head _)
      rcases List.mem_cons.mp hp with rfl | hp
      · exact N10 _ (.tail _ (.head _))
      rcases List.mem_cons.mp hp with rfl | hp
      · exact N10 _ (.tail _ (.tail _ m1))
      rcases List.mem_cons.mp hp with rfl | hp
      · exact N10 _ (.tail _ (.tail _ m2))
      · exact N10 _ (.tail _ (.tail _ hp))
    clear N10 m1 m2 e1 e2 e3 e4
    rw [tot] at fin1
    k_steps
    with_reducible rename News _ _ _ _ => N12
    with_reducible rename Fr _ _ _ _ => F12
    refine Stop.mk (oct_loop (vs := [.ref b, .ref k, .ref c, .ref o]) (e := 0) [nb, nk, nc, no] ?_ (by rfl) F12 N12 (by k_memK) (four lb lk lc lo) rfl rfl ?_)
    · skip
      intro S base nw a ns t tt la F N
      refine hideB ?_
      intro Post2 fin2 P ret1
      obtain ⟨vs, hl, hi, hz⟩ := la
      refine ret1 ?_
      clear ret1 P
      have hvl := hi.length
      k_steps
      with_reducible rename News _ _ _ _ => N9
      with_reducible rename Fr _ _ _ _ => F9
      subst_vars
      rw [hvl, oct_upd] at F9
      refine fin2 _ _ ?_
      exact Stop.mk ⟨rfl, _, _, _, rfl, F9, fun p hp => N9 p (.tail _ hp)⟩
    · intro h13 tk13 tt13 nv13 F13 N13
      clear F12 N12
      k_steps
      refine fin1 _ _ ?_
      exact LpEnd.mk F13 (fun p hp => by
        rcases List.mem_cons.mp hp with rfl | hp
        · exact N13 _ (.tail _ (.head _))
        rcases List.mem_cons.mp hp with rfl | hp
        · exact N13 _ (.tail _ (.tail _ (.head _)))
        · exact N13 _ (.tail _ (.tail _ (.tail _ (.tail _ (.tail _ hp)))))) hoff (exI3 tt13 nv13 (some (.ref a)) ⟨rfl, oct_map⟩)
  · intro h10 tk10 m' nw F10 N10 hJ1
    refine hide ?_
    intro P ret1
    refine exE3 hJ1 ?_
    clear hJ1
    intro tt nv rv hE
    refine anE2 hE ?_
    clear hE
    intro hq1 hq2
    subst hq1
    subst hq2
    refine ret1 ?_
    clear ret1 P
    clear N1 F1
    k_steps
    with_reducible rename News _ _ _ _ => N11
    with_reducible rename Fr _ _ _ _ => F11
    refine Stop.mk (oct_loop (vs := [.ref ch, .ref gds]) (e := 0) [nch, ngds] ?_ (by rfl) F11 N11 (by k_memK) (two2 lch lgds) rfl rfl ?_)
    · clear F11 N11
      intro S base nw a ns t tt la F N
      refine hideB ?_
      intro Post2 fin2 P ret1
      obtain ⟨vs, hl, hi, hz⟩ := la
      refine ret1 ?_
      clear ret1 P
      have hvl := hi.length
      k_steps
      with_reducible rename News _ _ _ _ => N9
      with_reducible rename Fr _ _ _ _ => F9
      subst_vars
      rw [hvl, oct_upd] at F9
      refine fin2 _ _ ?_
      exact Stop.mk ⟨rfl, _, _, _, rfl, F9, fun p hp => N9 p (.tail _ hp)⟩
    · intro h12 tk12 tt12 nv12 F12 N12
      clear F11 N11
      k_steps
      with_reducible rename News _ _ _ _ => N9
      with_reducible rename Fr _ _ _ _ => F9
      have keep := kept_all kg F9.keep hmods (fun q hq => (N9 q (.tail _ (.tail _ hq))).1)
      exact ret _ _ _ keep
end

end OE
section OF
open PySem PySem.W PyProof.Rows PySem.Calls PySem.Spec PyProof.Rows.LCg
theorem lines_OF : True := by
  k_with_none
  k_with "om" => first | ((repeat ((with_reducible rename (@LT.lt Nat _ _ _ ∧ _) => hq9); clear hq9)); (repeat ((with_reducible rename (@Ne Nat _ _) => hq9); clear hq9)); omega) | omega
  k_with "c room" => (dsimp only [AT, Around.deeper, Around.in1]; first | ((repeat refine room_up ?_); exact Nat.lt_of_lt_of_le (by assumption) (by decide)) | walk_at "om")
  k_with "setItem ref int" => (k_here; k_dflt (refine' setAt_any (by k_asm) (by k_asm) (by k_upd) (by decide) (by decide) (by decide) ?_; k_whole); intro _ _ _; (try k_sweep))
  k_with "eval ListComp" => (k_here; k_dflt (refine comp_stop (F₀ := by k_asm) (by with_unfolding_all rfl) (by decide) (by rfl) (by decide) (by rfl) ?_))
  k_with "k_all" => (refine tail_off (by assumption) ?_; (try dsimp only); first | assumption | walk_at "om")
  k_with "subscriptTail" => (k_here; (with_reducible show wpAny _ _ (subscriptTail _ _ (Value.ref _) (Value.int _ _)) _ _ _); k_dflt (refine' row_item (by k_asm) (by with_reducible assumption) (by assumption) ?_ (by with_unfolding_all rfl); k_whole); intro _)
  k_with "exec For Name Call cons nil" => (k_here; k_dflt (refine for_stop (by k_asm) (by with_unfolding_all rfl) (by with_unfolding_all rfl) ?_))
  k_with "call builtin:len" => (k_here; (with_reducible show wpAny _ _ (call (Value.builtin "len") [Value.ref _]) _ _ _); k_dflt (refine' len_base (by k_asm) (by assumption) (by first | assumption | walk_at "om") ?_; k_whole))
  k_with "call builtin:len" => (k_here; (with_reducible show wpAny _ _ (call (Value.builtin "len") [Value.ref _]) _ _ _); k_dflt (refine' len_led (by k_asm) (by k_memK) (by first | assumption | walk_at "om") ?_; k_whole))
  k_with "subscriptTail" => (k_here; (with_reducible show wpAny _ _ (subscriptTail _ _ (Value.ref _) (Value.int _ _)) _ _ _); k_dflt (refine' item_base (by k_asm) (by assumption) (by assumption) (by first | assumption | walk_at "om") (by first | assumption | walk_at "om") ?_; k_whole))
  k_with "c unit" => (dsimp only [AT, Around.deeper, Around.in1]; unfold cLine; first | exact Nat.lt_of_lt_of_le (by assumption) (by decide) | exact Nat.lt_of_lt_of_le (Nat.add_lt_add_right (by assumption) _) (by decide) | walk_at "om")
  k_with "eval Dict nil nil" => (k_here; k_dflt (refine' newDict_L (by k_asm) (by k_asm) (TopRead.nolimit (by k_asm)) ?_; k_whole); intro _ _ _ _ _ l1 _ _ _; (replace l1 := allLt_of l1; dsimp only [AllLt] at l1); (revert l1; intro _); (try k_sweep))
  k_with "newList" => (k_here; k_dflt (refine' newList_L (by k_asm) (by k_asm) ?_; k_whole); intro _ _ _ _ l1 _; (replace l1 := allLt_of l1; dsimp only [AllLt] at l1); (revert l1; intro _); (try k_sweep))
  k_with "call builtin:len" => (k_here; (with_reducible show wpAny _ _ (call (Value.builtin "len") [Value.ref _]) _ _ _); k_dflt (refine' len_row (by k_asm) (by assumption) (by first | assumption | walk_at "om") ?_; k_whole); intro _ _)
  k_with "exec For Name Name cons cons" => (k_here; k_dflt (refine for_stop (by k_asm) (by with_unfolding_all rfl) (by with_unfolding_all rfl) ?_))
  k_with "exec For Name Name cons nil" => (k_here; k_dflt (refine for_stop (by k_asm) (by with_unfolding_all rfl) (by with_unfolding_all rfl) ?_))
  k_with "exec For Name Name" => (k_here; k_dflt (refine for_stop (by k_asm) (by with_unfolding_all rfl) (by with_unfolding_all rfl) ?_))
  k_with "exec While" => (refine stop_at ?_)
  k_with "exec While Compare" => (refine stop_at ?_)
  k_with "exec While UnaryOp" => (refine stop_at ?_)
  k_with "setItem ref int" => (k_here; k_dflt (refine' setAt_any (by k_asm) (by k_asm) (by k_upd) (by walk_at "om") (by walk_at "om") (by walk_at "om") ?_; k_whole); intro _ _ _; (try k_sweep))
  k_with "c cj" => (first | assumption | exact And.left (by assumption) | exact And.right (by assumption) | exact And.left (And.right (by assumption)) | exact And.right (And.right (by assumption)) | exact And.left (And.right (And.right (by assumption))) | exact And.right (And.right (And.right (by assumption))) | exact And.left (And.right (And.right (And.right (by assumption)))) | exact And.right (And.right (And.right (And.right (by assumption)))) | exact And.left (And.right (And.right (And.right (And.right (by assumption))))) | exact And.right (And.right (And.right (And.right (And.right (by assumption))))) | exact And.left (And.right (And.right (And.right (And.right (And.right (by assumption)))))) | exact And.right (And.right (And.right (And.right (And.right (And.right (by assumption)))))) | exact And.left (And.right (And.right (And.right (And.right (And.right (And.right (by assumption))))))) | exact And.right (And.right (And.right (And.right (And.right (And.right (And.right (by assumption))))))) | exact And.left (And.right (And.right (And.right (And.right (And.right (And.right (And.right (by assumption)))))))) | exact And.right (And.right (And.right (And.right (And.right (And.right (And.right (And.right (by assumption)))))))) | exact And.left (And.right (And.right (And.right (And.right (And.right (And.right (And.right (And.right (by assumption))))))))) | exact And.right (And.right (And.right (And.right (And.right (And.right (And.right (And.right (And.right (by assumption))))))))) | exact And.left (And.right (And.right (And.right (And.right (And.right (And.right (And.right (And.right (And.right (by assumption)))))))))) | exact And.right (And.right (And.right (And.right (And.right (And.right (And.right (And.right (And.right (And.right (by assumption)))))))))))
  k_with "k_ne" => (refine neN ?_; (try dsimp only); first | assumption | exact Ne.symm (by assumption) | exact Nat.ne_of_lt (by walk_at "c cj") | exact Nat.ne_of_gt (by walk_at "c cj") | walk_at "c cj" | exact Ne.symm (by walk_at "c cj") | walk_at "om")
  k_with "execs cons" => ((try dsimp only at *); refine execs_hid ?_; intro Pst hNx)
  k_with "close" => (refine nx_go (by assumption) ?_; clear hNx; (try clear Pst))
  k_with "close" => (refine nr_go (by assumption) ?_; (try dsimp only))
  k_with "isTrue BoolOp" => ((with_reducible show wpAny _ _ (PySem.isTrue (PySem.Expr.BoolOp PySem.BoolOp.Or _ _) _ _) (fun b s₂ => if b = true then _ else _) _ _); refine stop_at ?_)
  k_with "binaryOp Mult int int" => (k_here; (refine PyProof.Rows.mul_int ?_ (IntMulOk.of_left (intBits_le_64 (by walk_at "om") (by walk_at "om")))))
  k_with "binaryOp Pow int int" => (k_here; first | refine pow_is 128 (by decide) (by decide) (by decide) (by decide) ?_ | refine pow_is 256 (by decide) (by decide) (by decide) (by decide) ?_ | refine pow_is 32768 (by decide) (by decide) (by decide) (by decide) ?_ | refine pow_is 65536 (by decide) (by decide) (by decide) (by decide) ?_)
  trivial
section
theorem C_loct (w : World) (dp un : Nat) (fr : List Env) (gd : Option (List Code)) (s : Shared) (Q E : Value → Shared → Prop)
    (am : Amb w s.heap) (ax : Addr) (vs : List Value) (ns : List Int) (hl : s.heap.IsList ax vs.toArray) (hI : IntsAre vs ns) (hmx : ns.length ≤ 20000)
    (hdp : dp < 800) (hun : un < 800)
    (ret : ∀ h' tk' t, (∀ b o, s.heap.get? b = some o → h'.get? b = some o) → Q (.int ((ns.length : Int) * sizeF ns) t) { s with heap := h', toks := tk' }) :
    wpAny (model PySem.Challenge.rw_sf0018_01.row.prog w) (AT dp un fr gd) (call (.ref 385) [.ref ax]) Q E s := by
  obtain ⟨X, mean, mg, mb, T⟩ := am
  revert X; k_fill; intro X
  have st : s.heap.StaysIn s.heap := fun _ _ e => e
  refine wpAny_call ?_
  k_dflt (refine' enterP (binds := [(Str.ofString "numbers", .ref ax)]) ?k1 ?k2 ?k3 [] no_mods ?k6 ?k7 ?k8 ?k9 ?kB ?_ ?c2 ?c3 ?c4 ?c5; (case k1 => assumption); (case k2 => assumption); (case k3 => assumption); (case k6 => k_is); (case k7 => k_is); (case k8 => ktr_room); (case k9 => exact BindsTo.of_eq rfl); (case c5 => decide); (case kB => exact locs rfl); (case c2 => exact rfl); (case c3 => exact rfl); (case c4 => exact rfl))
  intro g L' h₁ F N Xg Tg stg sgs kg lt lsz
  conv in (fnBody _) => whnf
  conv in (occs := *) (fnScope _) => all_goals whnf
  have hlg : g.IsList ax vs.toArray := hl.at fun o e => kg _ _ (by simp) e
  have hvl := hI.length
  k_steps
  rename (∀ (a : Int), a ∈ ns ++ [0] → _ ≤ a) => hlo
  rename (∀ (a : Int), a ∈ ns ++ [0] → a ≤ _) => hhi
  have e1 := low_eq (by assumption) hlo
  have e2 := high_eq (by assumption) hhi
  subst e1 e2
  clear hlo hhi
  have hl0 := lowF_le ns
  have key : sizeF ns = _ := (kind_law (hi := highF ns) hl0).symm
  refine Stop.mk (join_test2 (decide (-127 ≤ lowF ns) && decide (highF ns ≤ 127) || (lowF ns == 0 && decide (highF ns ≤ 255))) ?_ ?_ ?_)
  · refine hideQ ?_
    intro Post1 fin1
    k_steps
    all_goals (refine fin1 _ _ ?_; first | exact Stop.mk ⟨kt (by walk_at "om"), _, rfl⟩ | exact Stop.mk ⟨kf (by walk_at "om"), _, rfl⟩)
  · intro hc tkx
    rw [if_pos hc] at key
    k_steps
    with_reducible rename Fr _ _ _ _ => F9
    rw [key, ← hvl] at ret
    exact ret _ _ _ (fun b o e => F9.keep b o (kg b o (by simp) e))
  · intro hc tkx
    rw [if_neg (by rw [hc]; exact fun e => nomatch e)] at key
    clear hc
    k_steps
    refine Stop.mk (join_test2 (decide (-32767 ≤ lowF ns) && decide (highF ns ≤ 32767) || (lowF ns == 0 && decide (highF ns ≤ 65535))) ?_ ?_ ?_)
    · refine hideQ ?_
      intro Post1 fin1
      k_steps
      all_goals (refine fin1 _ _ ?_; first | exact Stop.mk ⟨kt (by walk_at "om"), _, rfl⟩ | exact Stop.mk ⟨kf (by walk_at "om"), _, rfl⟩)
    · intro hc tkx
      rw [if_pos hc] at key
      k_steps
      with_reducible rename Fr _ _ _ _ => F9
      rw [key, ← hvl] at ret
      exact ret _ _ _ (fun b o e => F9.keep b o (kg b o (by simp) e))
    · intro hc tkx
      rw [if_neg (by rw [hc]; exact fun e => nomatch e)] at key
      k_steps
      with_reducible rename Fr _ _ _ _ => F9
      rw [key, ← hvl] at ret
      exact ret _ _ _ (fun b o e => F9.keep b o (kg b o (by simp) e))
end

end OF
section OG
open PySem PySem.W PyProof.Rows PySem.Calls PySem.Spec PyProof.Rows.LCg
theorem lines_OG : True := by
  k_with_none
  k_with "om" => first | ((repeat ((with_reducible rename (@LT.lt Nat _ _ _ ∧ _) => hq9); clear hq9)); (repeat ((with_reducible rename (@Ne Nat _ _) => hq9); clear hq9)); omega) | omega
  k_with "c room" => (dsimp only [AT, Around.deeper, Around.in1]; first | ((repeat refine room_up ?_); exact Nat.lt_of_lt_of_le (by assumption) (by decide)) | walk_at "om")
  k_with "setItem ref int" => (k_here; k_dflt (refine' setAt_any (by k_asm) (by k_asm) (by k_upd) (by decide) (by decide) (by decide) ?_; k_whole); intro _ _ _; (try k_sweep))
  k_with "eval ListComp" => (k_here; k_dflt (refine comp_stop (F₀ := by k_asm) (by with_unfolding_all rfl) (by decide) (by rfl) (by decide) (by rfl) ?_))
  k_with "k_all" => (refine tail_off (by assumption) ?_; (try dsimp only); first | assumption | walk_at "om")
  k_with "subscriptTail" => (k_here; (with_reducible show wpAny _ _ (subscriptTail _ _ (Value.ref _) (Value.int _ _)) _ _ _); k_dflt (refine' row_item (by k_asm) (by with_reducible assumption) (by assumption) ?_ (by with_unfolding_all rfl); k_whole); intro _)
  k_with "exec For Name Call cons nil" => (k_here; k_dflt (refine for_stop (by k_asm) (by with_unfolding_all rfl) (by with_unfolding_all rfl) ?_))
  k_with "call builtin:len" => (k_here; (with_reducible show wpAny _ _ (call (Value.builtin "len") [Value.ref _]) _ _ _); k_dflt (refine' len_base (by k_asm) (by assumption) (by first | assumption | walk_at "om") ?_; k_whole))
  k_with "call builtin:len" => (k_here; (with_reducible show wpAny _ _ (call (Value.builtin "len") [Value.ref _]) _ _ _); k_dflt (refine' len_led (by k_asm) (by k_memK) (by first | assumption | walk_at "om") ?_; k_whole))
  k_with "subscriptTail" => (k_here; (with_reducible show wpAny _ _ (subscriptTail _ _ (Value.ref _) (Value.int _ _)) _ _ _); k_dflt (refine' item_base (by k_asm) (by assumption) (by assumption) (by first | assumption | walk_at "om") (by first | assumption | walk_at "om") ?_; k_whole))
  k_with "c unit" => (dsimp only [AT, Around.deeper, Around.in1]; unfold cLine; first | exact Nat.lt_of_lt_of_le (by assumption) (by decide) | exact Nat.lt_of_lt_of_le (Nat.add_lt_add_right (by assumption) _) (by decide) | walk_at "om")
  k_with "eval Dict nil nil" => (k_here; k_dflt (refine' newDict_L (by k_asm) (by k_asm) (TopRead.nolimit (by k_asm)) ?_; k_whole); intro _ _ _ _ _ l1 _ _ _; (replace l1 := allLt_of l1; dsimp only [AllLt] at l1); (revert l1; intro _); (try k_sweep))
  k_with "newList" => (k_here; k_dflt (refine' newList_L (by k_asm) (by k_asm) ?_; k_whole); intro _ _ _ _ l1 _; (replace l1 := allLt_of l1; dsimp only [AllLt] at l1); (revert l1; intro _); (try k_sweep))
  k_with "call builtin:len" => (k_here; (with_reducible show wpAny _ _ (call (Value.builtin "len") [Value.ref _]) _ _ _); k_dflt (refine' len_row (by k_asm) (by assumption) (by first | assumption | walk_at "om") ?_; k_whole); intro _ _)
  k_with "exec For Name Name cons cons" => (k_here; k_dflt (refine for_stop (by k_asm) (by with_unfolding_all rfl) (by with_unfolding_all rfl) ?_))
  k_with "exec For Name Name cons nil" => (k_here; k_dflt (refine for_stop (by k_asm) (by with_unfolding_all rfl) (by with_unfolding_all rfl) ?_))
  k_with "exec For Name Name" => (k_here; k_dflt (refine for_stop (by k_asm) (by with_unfolding_all rfl) (by with_unfolding_all rfl) ?_))
  k_with "exec While" => (refine stop_at ?_)
  k_with "exec While Compare" => (refine stop_at ?_)
  k_with "exec While UnaryOp" => (refine stop_at ?_)
  k_with "setItem ref int" => (k_here; k_dflt (refine' setAt_any (by k_asm) (by k_asm) (by k_upd) (by walk_at "om") (by walk_at "om") (by walk_at "om") ?_; k_whole); intro _ _ _; (try k_sweep))
  k_with "c cj" => (first | assumption | exact And.left (by assumption) | exact And.right (by assumption) | exact And.left (And.right (by assumption)) | exact And.right (And.right (by assumption)) | exact And.left (And.right (And.right (by assumption))) | exact And.right (And.right (And.right (by assumption))) | exact And.left (And.right (And.right (And.right (by assumption)))) | exact And.right (And.right (And.right (And.right (by assumption)))) | exact And.left (And.right (And.right (And.right (And.right (by assumption))))) | exact And.right (And.right (And.right (And.right (And.right (by assumption))))) | exact And.left (And.right (And.right (And.right (And.right (And.right (by assumption)))))) | exact And.right (And.right (And.right (And.right (And.right (And.right (by assumption)))))) | exact And.left (And.right (And.right (And.right (And.right (And.right (And.right (by assumption))))))) | exact And.right (And.right (And.right (And.right (And.right (And.right (And.right (by assumption))))))) | exact And.left (And.right (And.right (And.right (And.right (And.right (And.right (And.right (by assumption)))))))) | exact And.right (And.right (And.right (And.right (And.right (And.right (And.right (And.right (by assumption)))))))) | exact And.left (And.right (And.right (And.right (And.right (And.right (And.right (And.right (And.right (by assumption))))))))) | exact And.right (And.right (And.right (And.right (And.right (And.right (And.right (And.right (And.right (by assumption))))))))) | exact And.left (And.right (And.right (And.right (And.right (And.right (And.right (And.right (And.right (And.right (by assumption)))))))))) | exact And.right (And.right (And.right (And.right (And.right (And.right (And.right (And.right (And.right (And.right (by assumption)))))))))))
  k_with "k_ne" => (refine neN ?_; (try dsimp only); first | assumption | exact Ne.symm (by assumption) | exact Nat.ne_of_lt (by walk_at "c cj") | exact Nat.ne_of_gt (by walk_at "c cj") | walk_at "c cj" | exact Ne.symm (by walk_at "c cj") | walk_at "om")
  k_with "execs cons" => ((try dsimp only at *); refine execs_hid ?_; intro Pst hNx)
  k_with "close" => (refine nx_go (by assumption) ?_; clear hNx; (try clear Pst))
  k_with "close" => (refine nr_go (by assumption) ?_; (try dsimp only))
  trivial
section
theorem C_trug (w : World) (dp un : Nat) (fr : List Env) (gd : Option (List Code)) (s : Shared) (Q E : Value → Shared → Prop)
    (am : Amb w s.heap) (ax : Addr) (vs : List Value) (ns : List Int) (hl : s.heap.IsList ax vs.toArray) (hI : IntsAre vs ns) (hmx : ns.length ≤ 63)
    (hdp : dp < 800) (hun : un < 800)
    (ret : ∀ t c h' tk' o1 o2, Trug c o1 o2 0 → h'.get? t = some o1 → h'.get? c = some o2 → s.heap.get? t = none → s.heap.get? c = none → @LT.lt Nat _ c t → (∀ b o, s.heap.get? b = some o → h'.get? b = some o) → Q (.ref t) { s with heap := h', toks := tk' }) :
    wpAny (model PySem.Challenge.rw_sf0018_01.row.prog w) (AT dp un fr gd) (call (.ref 354) [.ref ax]) Q E s := by
  obtain ⟨X, mean, mg, mb, T⟩ := am
  revert X; k_fill; intro X
  have st : s.heap.StaysIn s.heap := fun _ _ e => e
  refine wpAny_call ?_
  k_dflt (refine' enterP (binds := [(Str.ofString "script", .ref ax)]) ?k1 ?k2 ?k3 [] no_mods ?k6 ?k7 ?k8 ?k9 ?kB ?_ ?c2 ?c3 ?c4 ?c5; (case k1 => assumption); (case k2 => assumption); (case k3 => assumption); (case k6 => k_is); (case k7 => k_is); (case k8 => ktr_room); (case k9 => exact BindsTo.of_eq rfl); (case c5 => decide); (case kB => exact locs rfl); (case c2 => exact rfl); (case c3 => exact rfl); (case c4 => exact rfl))
  intro g L' h₁ F N Xg Tg stg sgs kg lt lsz
  conv in (fnBody _) => whnf
  conv in (occs := *) (fnScope _) => all_goals whnf
  have hlg : g.IsList ax vs.toArray := hl.at fun o e => kg _ _ (by simp) e
  have hvl := hI.length
  k_steps
  with_reducible rename News _ _ _ _ => N1
  with_reducible rename Fr _ _ _ _ => F1
  rename_i D ws h1 hI1 hC1 hL1 l1
  have hwl := hI1.length
  refine Stop.mk (CompSrc.ledger (by rfl) F1 N1 (ax := D) (its := ws.toArray) (k := 0) (by k_memK) (by rw [sizeLine_eq, List.size_toArray]; walk_at "om") ?_)
  intro gg
  refine rest_fix (news := [(D, listOf ws.toArray 0)]) (fun i ys => ∃ zs, IntsAre ys zs ∧ zs.length = i ∧ ∀ x ∈ zs, 0 ≤ x) ?_ ?_ ?_
  · exact ⟨[], .nil, rfl, by simp⟩
  · intro i ys v I oI C oC D2 m₂ h tk2 E' hi hJ1 hv hC hx F9 N9 off ne
    refine hideB ?_
    intro Post1 fin1 P ret1
    obtain ⟨zs, hz, hzl, hz0⟩ := hJ1
    refine ret1 ?_
    clear ret1 P
    obtain ⟨z, tz, rfl, hzz⟩ := hI1.at i v (by simpa using hv)
    k_steps
    refine fin1 _ _ ?_
    refine Stop.mk (CompEnd.intro F9 N9 _ (fun p hp => hp) off (.inr ⟨_, by k_memK, rfl, _, rfl⟩) ⟨rfl, _, ints_snoc hz _ _, by simp [hzl], ?_⟩)
    intro x hx
    rcases List.mem_append.mp hx with hx | hx
    · exact hz0 x hx
    · rw [List.mem_singleton.mp hx]; exact Int.fmod_nonneg_of_pos _ (Int.pow_pos (by decide))
  · intro ys hJ1
    refine hide ?_
    intro P ret1
    obtain ⟨zs, hz, hzl, hz0⟩ := hJ1
    refine ret1 ?_
    clear ret1 P
    intro B2 h12 tk12 F12 N12 off
    k_steps
    with_reducible rename News _ _ _ _ => N9
    with_reducible rename Fr _ _ _ _ => F9
    rename_i l2 h2 ll l3
    have fresh : ∀ {a : Addr}, g.get? a = none → s.heap.get? a = none := fun {a} q => by
      cases e9 : s.heap.get? a with
      | none => rfl
      | some o => have := kg a o (by simp) e9; rw [q] at this; cases this
    have hsz : zs.length = (List.take 30 ns).length := by rw [hzl, List.size_toArray, hwl]
    exact ret l2 B2 _ _ _ _ ⟨ys, zs, 0, _, _, _, rfl, rfl, hz, hz0, by walk_at "om", by walk_at "om", by walk_at "om"⟩ (N9 _ (.head _)).1 (N9 _ (.tail _ (.head _))).1 (fresh (N9 _ (.head _)).2.2) (fresh (N9 _ (.tail _ (.head _))).2.2) l3.1 (fun b o e => F9.keep b o (kg b o (by simp) e))
end

end OG
section OH
open PySem PySem.W PyProof.Rows PySem.Calls PySem.Spec PyProof.Rows.LCg
theorem lines_OH : True := by
  k_with_none
  k_with "om" => first | ((repeat ((with_reducible rename (@LT.lt Nat _ _ _ ∧ _) => hq9); clear hq9)); (repeat ((with_reducible rename (@Ne Nat _ _) => hq9); clear hq9)); omega) | omega
  k_with "c room" => (dsimp only [AT, Around.deeper, Around.in1]; first | ((repeat refine room_up ?_); exact Nat.lt_of_lt_of_le (by assumption) (by decide)) | walk_at "om")
  k_with "setItem ref int" => (k_here; k_dflt (refine' setAt_any (by k_asm) (by k_asm) (by k_upd) (by decide) (by decide) (by decide) ?_; k_whole); intro _ _ _; (try k_sweep))
  k_with "eval ListComp" => (k_here; k_dflt (refine comp_stop (F₀ := by k_asm) (by with_unfolding_all rfl) (by decide) (by rfl) (by decide) (by rfl) ?_))
  k_with "k_all" => (refine tail_off (by assumption) ?_; (try dsimp only); first | assumption | walk_at "om")
  k_with "subscriptTail" => (k_here; (with_reducible show wpAny _ _ (subscriptTail _ _ (Value.ref _) (Value.int _ _)) _ _ _); k_dflt (refine' row_item (by k_asm) (by with_reducible assumption) (by assumption) ?_ (by with_unfolding_all rfl); k_whole); intro _)
  k_with "exec For Name Call cons nil" => (k_here; k_dflt (refine for_stop (by k_asm) (by with_unfolding_all rfl) (by with_unfolding_all rfl) ?_))
  k_with "call builtin:len" => (k_here; (with_reducible show wpAny _ _ (call (Value.builtin "len") [Value.ref _]) _ _ _); k_dflt (refine' len_base (by k_asm) (by assumption) (by first | assumption | walk_at "om") ?_; k_whole))
  k_with "call builtin:len" => (k_here; (with_reducible show wpAny _ _ (call (Value.builtin "len") [Value.ref _]) _ _ _); k_dflt (refine' len_led (by k_asm) (by k_memK) (by first | assumption | walk_at "om") ?_; k_whole))
  k_with "subscriptTail" => (k_here; (with_reducible show wpAny _ _ (subscriptTail _ _ (Value.ref _) (Value.int _ _)) _ _ _); k_dflt (refine' item_base (by k_asm) (by assumption) (by assumption) (by first | assumption | walk_at "om") (by first | assumption | walk_at "om") ?_; k_whole))
  k_with "c unit" => (dsimp only [AT, Around.deeper, Around.in1]; unfold cLine; first | exact Nat.lt_of_lt_of_le (by assumption) (by decide) | exact Nat.lt_of_lt_of_le (Nat.add_lt_add_right (by assumption) _) (by decide) | walk_at "om")
  k_with "eval Dict nil nil" => (k_here; k_dflt (refine' newDict_L (by k_asm) (by k_asm) (TopRead.nolimit (by k_asm)) ?_; k_whole); intro _ _ _ _ _ l1 _ _ _; (replace l1 := allLt_of l1; dsimp only [AllLt] at l1); (revert l1; intro _); (try k_sweep))
  k_with "newList" => (k_here; k_dflt (refine' newList_L (by k_asm) (by k_asm) ?_; k_whole); intro _ _ _ _ l1 _; (replace l1 := allLt_of l1; dsimp only [AllLt] at l1); (revert l1; intro _); (try k_sweep))
  k_with "call builtin:len" => (k_here; (with_reducible show wpAny _ _ (call (Value.builtin "len") [Value.ref _]) _ _ _); k_dflt (refine' len_row (by k_asm) (by assumption) (by first | assumption | walk_at "om") ?_; k_whole); intro _ _)
  k_with "exec For Name Name cons cons" => (k_here; k_dflt (refine for_stop (by k_asm) (by with_unfolding_all rfl) (by with_unfolding_all rfl) ?_))
  k_with "exec For Name Name cons nil" => (k_here; k_dflt (refine for_stop (by k_asm) (by with_unfolding_all rfl) (by with_unfolding_all rfl) ?_))
  k_with "exec For Name Name" => (k_here; k_dflt (refine for_stop (by k_asm) (by with_unfolding_all rfl) (by with_unfolding_all rfl) ?_))
  k_with "exec While" => (refine stop_at ?_)
  k_with "exec While Compare" => (refine stop_at ?_)
  k_with "exec While UnaryOp" => (refine stop_at ?_)
  k_with "setItem ref int" => (k_here; k_dflt (refine' setAt_any (by k_asm) (by k_asm) (by k_upd) (by walk_at "om") (by walk_at "om") (by walk_at "om") ?_; k_whole); intro _ _ _; (try k_sweep))
  k_with "c cj" => (first | assumption | exact And.left (by assumption) | exact And.right (by assumption) | exact And.left (And.right (by assumption)) | exact And.right (And.right (by assumption)) | exact And.left (And.right (And.right (by assumption))) | exact And.right (And.right (And.right (by assumption))) | exact And.left (And.right (And.right (And.right (by assumption)))) | exact And.right (And.right (And.right (And.right (by assumption)))) | exact And.left (And.right (And.right (And.right (And.right (by assumption))))) | exact And.right (And.right (And.right (And.right (And.right (by assumption))))) | exact And.left (And.right (And.right (And.right (And.right (And.right (by assumption)))))) | exact And.right (And.right (And.right (And.right (And.right (And.right (by assumption)))))) | exact And.left (And.right (And.right (And.right (And.right (And.right (And.right (by assumption))))))) | exact And.right (And.right (And.right (And.right (And.right (And.right (And.right (by assumption))))))) | exact And.left (And.right (And.right (And.right (And.right (And.right (And.right (And.right (by assumption)))))))) | exact And.right (And.right (And.right (And.right (And.right (And.right (And.right (And.right (by assumption)))))))) | exact And.left (And.right (And.right (And.right (And.right (And.right (And.right (And.right (And.right (by assumption))))))))) | exact And.right (And.right (And.right (And.right (And.right (And.right (And.right (And.right (And.right (by assumption))))))))) | exact And.left (And.right (And.right (And.right (And.right (And.right (And.right (And.right (And.right (And.right (by assumption)))))))))) | exact And.right (And.right (And.right (And.right (And.right (And.right (And.right (And.right (And.right (And.right (by assumption)))))))))))
  k_with "k_ne" => (refine neN ?_; (try dsimp only); first | assumption | exact Ne.symm (by assumption) | exact Nat.ne_of_lt (by walk_at "c cj") | exact Nat.ne_of_gt (by walk_at "c cj") | walk_at "c cj" | exact Ne.symm (by walk_at "c cj") | walk_at "om")
  k_with "execs cons" => ((try dsimp only at *); refine execs_hid ?_; intro Pst hNx)
  k_with "close" => (refine nx_go (by assumption) ?_; clear hNx; (try clear Pst))
  k_with "close" => (refine nr_go (by assumption) ?_; (try dsimp only))
  k_with "getMethod ref" => (k_here; (with_reducible show wpAny _ _ (getMethod (Value.ref _) (PySem.Str.ofString "index") _) _ _ _); k_dflt (refine' index_method (by k_asm) (by assumption) ?_; k_whole))
  k_with "call builtin:list.index" => (k_here; k_dflt (refine' index_rows (by k_asm) (by assumption) (by assumption) (by assumption) (by first | assumption | walk_at "om") (by walk_at "c unit") ?_; k_whole); intro _ _)
  k_with "eval ListComp" => (k_here; (with_reducible show wpAny _ _ (eval (Expr.ListComp _ [⟨Expr.Tuple _ _ _, _, _, _⟩] _ _) _) _ _ _); k_dflt (refine enum_comp (by k_asm) (by with_unfolding_all rfl) (by decide) (by rfl) (by decide) (by rfl) (by rfl) (by decide +kernel) ?_))
  k_with "call type:enumerate" => (refine stop_at ?_)
  k_with "exec For Tuple Call cons nil" => (k_here; k_dflt (refine for_stopT (by k_asm) ?_))
  k_with "compareOp NotEq ref ref" => (k_here; k_dflt (first
      | (refine' ne_empty_t (by k_asm) (by assumption) (by exact new_row (by k_asm) (by k_memK) (by assumption) (by assumption)) (by walk_at "c unit") (by assumption) ?_; k_whole)
      | (refine' ne_empty_f (by k_asm) (by assumption) (by exact new_row (by k_asm) (by k_memK) (by assumption) (by assumption)) (by walk_at "c unit") (by assumption) ?_; k_whole)))
  k_with "subscriptTail" => (k_here; (with_reducible show wpAny _ _ (subscriptTail _ _ (Value.ref _) (Value.int _ _)) _ _ _); k_dflt (refine' item_led (by k_asm) (by k_memK) (by with_reducible assumption) (by first | rfl | walk_at "om") (by first | assumption | walk_at "om") (by first | assumption | walk_at "om") ?_ (by with_unfolding_all rfl); k_whole); intro _)
  k_with "call builtin:sorted" => (refine stop_at ?_)
  k_with "call builtin:min" => (k_here; (with_reducible show wpAny _ _ (call (Value.builtin _) [Value.ref _]) _ _ _); k_dflt (refine' min_row (by rfl) (by k_asm) (by k_asm) (by assumption) (by assumption) ?_; k_whole); intro _ _ _ _ _)
  k_with "eval ListComp" => (k_here; (with_reducible show wpAny _ _ (eval (Expr.ListComp _ [⟨Expr.Name _ _, _, [_], _⟩] _ _) _) _ _ _); k_dflt (refine dict_comp (by k_asm) (by with_unfolding_all rfl) (by decide) (by rfl) (by decide) (by rfl) ?_))
  k_with "compareOp In int ref" => (k_here; k_dflt (refine' in_held (by k_asm) (by k_memK) (by assumption) (by assumption) ?_; k_whole); intro _)
  k_with "exec For Name Subscript cons nil" => (k_here; k_dflt (refine for_stop (by k_asm) (by with_unfolding_all rfl) (by with_unfolding_all rfl) ?_))
  k_with "setItem ref int" => (k_here; k_dflt (refine' set_held (by k_asm) (by k_asm) (by k_updF) (by assumption) (by first | assumption | walk_at "om") ?_; k_whole); intro _ _ _ _ _ _; (try k_sweep))
  k_with "eval IfExp" => ((with_reducible show wpAny _ _ (eval (Expr.IfExp _ _ _ _) (envOfC _ _ _ _ _)) (fun _ _ => wpAny _ _ (storeName _ _ _) _ _ _) _ _); refine stop_at ?_)
  k_with "compareOp NotEq ref ref" => (k_here; k_dflt (first
      | (refine' held_ne_t (by k_asm) (by k_memK) (by assumption) (by assumption) (by exact new_row (by k_asm) (by k_memK) (by assumption) (by assumption)) (by walk_at "c unit") (by assumption) ?_; k_whole)
      | (refine' held_ne_f (by k_asm) (by k_memK) (by assumption) (by assumption) (by exact new_row (by k_asm) (by k_memK) (by assumption) (by assumption)) (by walk_at "c unit") (by assumption) ?_; k_whole)))
  k_with "call builtin:max" => (k_here; (with_reducible show wpAny _ _ (call (Value.builtin _) [Value.ref _]) _ _ _); k_dflt (refine' max_held (by rfl) (by k_asm) (by k_asm) (by k_memK) (by assumption) (by assumption) (by assumption) (by assumption) (by assumption) ?_; k_whole); intro _ _ _ _ _)
  k_with "compareOp In int ref" => (k_here; k_dflt (first
      | (refine' in_held_t (by k_asm) (by k_memK) (by assumption) (by assumption) (by assumption) ?_; k_whole)
      | (refine' in_held_f (by k_asm) (by k_memK) (by assumption) (by assumption) (by assumption) ?_; k_whole)); intro _)
  k_with "subscriptTail" => (k_here; (with_reducible show wpAny _ _ (subscriptTail _ _ (Value.ref _) (Value.int _ _)) _ _ _); k_dflt (refine' get_held (by k_asm) (by k_memK) (by assumption) (by assumption) ?_ (by with_unfolding_all rfl); k_whole); intro _)
  k_with "exec Assign cons ListComp" => (k_here; k_dflt (refine comp_stopA (F₀ := by k_asm) (by rfl) (by with_unfolding_all rfl) (by with_unfolding_all rfl) (by decide) (by rfl) (by decide) (by rfl) (by rfl) (by rfl) ?_))
  trivial
structure LaidAt (h : Heap) (r b t k o : Addr) (rs : Rows) : Prop where
  hr : ∃ e, h.get? r = some (listOf #[.ref b, .ref t, .ref k, .ref o] e)
  hb : ∃ vs e, h.get? b = some (listOf (List.toArray vs) e) ∧ IntsAre vs (basesF rs)
  ht : ∃ vs e, h.get? t = some (listOf (List.toArray vs) e) ∧ IntsAre vs (packF rs).2.1
  hk : ∃ vs e, h.get? k = some (listOf (List.toArray vs) e) ∧ IntsAre vs (packF rs).2.2
  ho : ∃ vs e, h.get? o = some (listOf (List.toArray vs) e) ∧ IntsAre vs (ownersF rs)
section
theorem C_laid (w : World) (dp un : Nat) (fr : List Env) (gd : Option (List Code)) (s : Shared) (Q E : Value → Shared → Prop)
    (am : Amb w s.heap) (ax : Addr) (el : Nat) (vs : List Value) (rs : Rows) (hl : s.heap.get? ax = some (listOf (List.toArray vs) el)) (R : RowsIn PySem.Challenge.rw_sf0018_01.row.prog w s.heap vs rs) (hok : ∀ r ∈ rs, RowOk r) (hmx : rs.length ≤ 900)
    (hkey : ∀ r ∈ rs, ∀ p ∈ r, 0 ≤ p.1 ∧ p.1 ≤ 1000) (h1 : 1 ≤ (keyedF rs).length) (h3 : (keyedF rs).length ≤ 3)
    (hdp : dp < 500) (hun : un < 500)
    (ret : ∀ r b t k o h' tk', LaidAt h' r b t k o rs → (∀ a ∈ [r, b, t, k, o], s.heap.get? a = none) → (∀ b o, s.heap.get? b = some o → h'.get? b = some o) → Q (.ref r) { s with heap := h', toks := tk' }) :
    wpAny (model PySem.Challenge.rw_sf0018_01.row.prog w) (AT dp un fr gd) (call (.ref 378) [.ref ax]) Q E s := by
  obtain ⟨X, mean, mg, mb, T⟩ := am
  revert X; k_fill; intro X
  have st : s.heap.StaysIn s.heap := fun _ _ e => e
  refine wpAny_call ?_
  k_dflt (refine' enterC (binds := [(Str.ofString "rows", .ref ax)]) ?k1 ?k2 ?k3 [] no_mods ?k6 ?k7 ?k8 ?k9 ?kB ?kD ?_ ?c2 ?c3 ?c4; (case k1 => assumption); (case k2 => assumption); (case k3 => assumption); (case k6 => k_is); (case k7 => k_is); (case k8 => ktr_room); (case k9 => exact BindsTo.of_eq rfl); (case kB => exact rfl); (case kD => decide +kernel); (case c2 => exact rfl); (case c3 => exact rfl); (case c4 => exact rfl))
  intro g L' h₁ tkk cells F N Y Xg Tg stg sgs kg lt lsz
  conv in (fnBody _) => whnf
  conv in (occs := *) (fnScope _) => all_goals whnf
  have hgl : g.get? ax = some (listOf (List.toArray vs) el) := kg _ _ (by simp) hl
  have hlg : g.IsList ax vs.toArray := ⟨_, hgl, rfl, _, rfl⟩
  have Rg : RowsIn PySem.Challenge.rw_sf0018_01.row.prog w g vs rs := R.keeps fun b o e => kg _ _ (by simp) e
  have hvl := Rg.length
  replace F : Fr g L' h₁ (fun y => none) := by with_unfolding_all exact F
  obtain ⟨o1, o2, o3, o4, o5, rfl, d1, d2, d3, d4, d5⟩ := kc_five Y
  clear Y
  (try simp only [List.cons_append, List.nil_append] at N)
  k_steps
  with_reducible rename News _ _ _ _ => N1
  with_reducible rename Fr _ _ _ _ => F1
  refine Stop.mk (CompSrc.base (by rfl) F1 N1 hlg (by rw [sizeLine_eq, List.size_toArray]; walk_at "om") ?_)
  intro gg
  refine rest_fix (news := [(L' + 1 + 1 + 1 + 1 + 1, o1), (L' + 1 + 1 + 1 + 1, o2), (L' + 1 + 1 + 1, o3), (L' + 1 + 1, o4), (L' + 1, o5)]) (fun i ys => IntsAre ys ((ownersF rs).take i)) ?_ ?_ ?_
  · exact .nil
  · rintro i ys v I oI C oC D2 m₂ h tk2 E' hi hI hv hC hx F9 N9 off ne
    obtain ⟨a, ha, Ra⟩ := Rg.at i (by simpa [hvl] using hi)
    have ea : v = .ref a := by
      rw [List.getElem?_toArray, ha] at hv
      exact (Option.some.inj hv).symm
    subst ea
    k_steps
    refine Stop.mk (CompEnd.intro F9 N9 _ (fun p hp => hp) off (.inl hlg) ⟨rfl, ?_⟩)
    rw [ownersF_take (by simpa [hvl] using hi)]
    exact ints_snoc hI _ _
  · rintro ys hI
    intro B h6 tk6 F6 N6 off
    rw [List.size_toArray, hvl, List.take_of_length_le (Nat.le_of_eq (ownersF_length rs))] at hI
    simp only [Off1] at off
    have hyl := hI.length
    rw [ownersF_length] at hyl
    k_steps
    rename_i H hq1 oH lowH hiH llH lH1 l0 hq2 ll0 l01 Z hq3 i1 n1 s1 e1 e2 e3 lZ T hq4 lT hq5 hq6 oOw dOw hq7 oHc dHc hq8 oSp F9 N9 dSp
    have ez : (List.replicate ((vs.length : Nat) : Int).toNat [(0 : Int)]).flatten = List.replicate rs.length 0 := by rw [Int.toNat_natCast, hvl]; simp
    rw [ez] at i1
    clear e1 e2 e3 s1
    generalize (List.replicate ((vs.length : Nat) : Int).toNat [Value.int 0 tk6]).flatten = sv at N9 i1
    replace N9 : News g L' _ [(Z, listOf sv.toArray 0), (H, oH), (B, listOf (List.toArray ys) ys.length), (L' + 1 + 1 + 1 + 1 + 1, o1), (L' + 1 + 1 + 1 + 1, oSp), (L' + 1 + 1 + 1, oHc), (L' + 1 + 1, oOw), (L' + 1, o5)] := fun p hp => by
      rcases List.mem_cons.mp hp with rfl | hp
      · exact N9 _ (.tail _ (.head _))
      rcases List.mem_cons.mp hp with rfl | hp
      · exact N9 _ (.tail _ (.tail _ (.tail _ (.head _))))
      rcases List.mem_cons.mp hp with rfl | hp
      · exact N9 _ (.tail _ (.tail _ (.tail _ (.tail _ (.head _)))))
      · exact N9 _ (.tail _ (.tail _ (.tail _ (.tail _ (.tail _ hp)))))
    have lHB : @LT.lt Nat _ B H := lH1.1
    have lHL : @LT.lt Nat _ (L' + 1 + 1 + 1 + 1 + 1) H := lH1.2.1
    have lZH : @LT.lt Nat _ H Z := lZ.2.1
    clear lH1 l01 lZ lT ll0 llH T l0
    have nB1 : @Ne Nat (L' + 1 + 1 + 1 + 1 + 1) B := off.1
    have nB2 : @Ne Nat (L' + 1 + 1 + 1 + 1) B := off.2.1
    have nB3 : @Ne Nat (L' + 1 + 1 + 1) B := off.2.2.1
    have nB4 : @Ne Nat (L' + 1 + 1) B := off.2.2.2.1
    have nB5 : @Ne Nat (L' + 1) B := off.2.2.2.2.1
    clear off
    refine Stop.mk (enum_call (by rfl) F9 N9 hlg (by rw [sizeLine_eq]; walk_at "om") ⟨fun i zs nw => ∃ tail, nw = [(Z, listOf sv.toArray 0), (H, oH), (B, listOf (List.toArray ys) ys.length), (L' + 1 + 1 + 1 + 1 + 1, o1), (L' + 1 + 1 + 1 + 1, oSp), (L' + 1 + 1 + 1, oHc), (L' + 1 + 1, oOw), (L' + 1, o5)] ++ tail ∧
      (∀ h, Holds tail h → PairsAt h zs (keyedTo rs i)) ∧ (∀ q ∈ tail, @LT.lt Nat _ Z q.1), ⟨[], rfl, fun _ _ => .nil, by simp⟩, ?_, ?_⟩)
    · intro i x t zs nw e oe I oI C oC D m₂ h tk E' hi hJ1 hC ha hb F N offs
      refine hide ?_
      intro P ret1
      obtain ⟨tail, rfl, hPa, hlt⟩ := hJ1
      refine ret1 ?_
      clear ret1 P
      have hin : i < rs.length := by rw [← hvl]; exact (List.getElem?_eq_some_iff.mp hi).1
      obtain ⟨a, ha', Ra⟩ := Rg.at i hin
      obtain rfl : x = .ref a := by rw [ha'] at hi; exact (Option.some.inj hi).symm
      clear F9 N9
      have offs0 := offs
      simp only [List.cons_append, List.nil_append] at N offs
      have hol : (ownersF rs).length = rs.length := ownersF_length rs
      have hrl : (rs.getD i []).length ≤ 1000 := (hok _ (by rw [List.getD_eq_getElem?_getD, List.getElem?_eq_getElem hin]; exact List.getElem_mem hin)).2
      have ow : (ownersF rs).getD i 0 = (ownerF rs i : Int) := ownersF_getD hin
      rcases Decidable.em (rs.getD i [] = []) with he | he
      · have kn : keyedTo rs (i + 1) = keyedTo rs i := keyedTo_no (fun q => by have := q.2; rw [he] at this; exact absurd this (by simp))
        rw [← kn] at hPa
        k_steps
        · with_reducible rename News _ _ _ _ => N5
          with_reducible rename Fr _ _ _ _ => F5
          exact Stop.mk ⟨_, _, _, rfl, F5, fun p hp => N5 p (.tail _ hp), offs0, tail, rfl, hPa, hlt⟩
        · exact Stop.mk ⟨_, _, _, rfl, F, N, offs0, tail, rfl, hPa, hlt⟩
      · have hlen : 0 < (rs.getD i []).length := List.length_pos_iff.mpr he
        k_steps
        · with_reducible rename News _ _ _ _ => N5
          with_reducible rename Fr _ _ _ _ => F5
          rename List.getD (ownersF rs) _ _ = _ => heq
          rename_i D2 hD2 lD2
          have kn : keyedTo rs (i + 1) = keyedTo rs i ++ [(-((rs.getD i []).length : Int), (i : Int))] := keyedTo_yes (by rw [Int.toNat_natCast, ow] at heq; walk_at "om") hlen
          rw [Int.zero_sub] at N5
          refine Stop.mk ⟨_, _, [(Z, listOf sv.toArray 0), (H, oH), (B, listOf (List.toArray ys) ys.length), (L' + 1 + 1 + 1 + 1 + 1, o1), (L' + 1 + 1 + 1 + 1, oSp), (L' + 1 + 1 + 1, oHc), (L' + 1 + 1, oOw), (L' + 1, o5)] ++ (D2, _) :: tail, rfl, F5, fun p hp => N5 p (mem_mid hp), off_mid offs0 ?_, (D2, _) :: tail, rfl, fun h Hh => ?_, ?_⟩
          · intro q hq
            simp only [List.mem_cons, List.not_mem_nil, or_false] at hq
            rcases hq with rfl | rfl | rfl | rfl
            · exact Nat.ne_of_gt lD2.2.1
            · exact Nat.ne_of_gt lD2.2.2.1
            · exact Nat.ne_of_gt lD2.2.2.2.1
            · exact Nat.ne_of_gt lD2.2.2.2.2.1
          · rw [kn]; exact PairsAt.snoc (hPa h fun p hp => Hh p (.tail _ hp)) (Hh _ (.head _))
          · intro q hq
            rcases List.mem_cons.mp hq with rfl | hq
            · exact lD2.2.2.2.2.2.1
            · exact hlt q hq
        · rename_i hne
          have kn : keyedTo rs (i + 1) = keyedTo rs i := keyedTo_no (fun q => hne (by rw [Int.toNat_natCast, ow, q.1]))
          rw [← kn] at hPa
          exact Stop.mk ⟨_, _, _, rfl, F, N, offs0, tail, rfl, hPa, hlt⟩
    · intro zs nw D h tk
      intro hJ1 F N offs
      refine hide ?_
      intro P ret1
      obtain ⟨tail, rfl, hPa, hlt⟩ := hJ1
      refine ret1 ?_
      clear ret1 P
      clear F9 N9
      simp only [List.cons_append, List.nil_append] at N offs
      have hPk : ∀ h, Holds tail h → PairsAt h zs (keyedF rs) := by rw [hvl] at hPa; exact hPa
      clear hPa
      k_steps
      with_reducible rename News _ _ _ _ => N5
      with_reducible rename Fr _ _ _ _ => F5
      refine Stop.mk (sorted_pairs (lg := tail) F5 N5 (fun p hp => by exact .tail _ (.tail _ (.tail _ (.tail _ (.tail _ (.tail _ (.tail _ (.tail _ (.tail _ hp))))))))) (News.isList N5 (.head _)) hPk h1 h3 ?_)
      intro S e5 h7 tk7 svs F7 N7 lS hPs
      have lSD : @LT.lt Nat _ Z S := lS (Z, _) (.tail _ (.head _))
      replace N7 : News g L' h7 ([(S, listOf (List.toArray svs) e5), (Z, listOf sv.toArray 0), (H, oH), (B, listOf (List.toArray ys) ys.length), (L' + 1 + 1 + 1 + 1 + 1, o1), (L' + 1 + 1 + 1 + 1, oSp), (L' + 1 + 1 + 1, oHc), (L' + 1 + 1, oOw), (L' + 1, o5)] ++ ([] ++ tail)) := fun p hp => by
        rcases List.mem_cons.mp hp with rfl | hp
        · exact N7 _ (.head _)
        · exact N7 p (.tail _ (.tail _ hp))
      have hsl : svs.length = (orderF rs).length := by
        have := (hPs h7 fun p hp => (N7 p (List.mem_append_right _ hp)).1).length
        rw [this]; unfold orderF; rw [List.length_map]
      clear F5 N5 lS offs
      refine Stop.mk (turn_led (vs := svs) (e := e5) (by rfl) F7 N7
        (fun i m nw => ∃ bvs ez oH' kvs oSt tl, nw = [(S, listOf (List.toArray svs) e5), (Z, listOf (List.toArray bvs) ez), (H, oH'), (B, listOf (List.toArray ys) ys.length), (L' + 1 + 1 + 1 + 1 + 1, oSt), (L' + 1 + 1 + 1 + 1, oSp), (L' + 1 + 1 + 1, oHc), (L' + 1 + 1, oOw), (L' + 1, o5)] ++ (tl ++ tail) ∧
          IntsAre bvs (packTo rs i).1 ∧ bvs.length = rs.length ∧ oH'.IsDictOf (intKind PySem.Challenge.rw_sf0018_01.row.prog w) kvs ∧ kvs.length ≤ 1000 * i ∧ HeldIs tl kvs (combF (packTo rs i).2.1 (packTo rs i).2.2) ∧ (∃ x, oSt.data = .cell x) ∧
          (packTo rs i).2.1.length = (packTo rs i).2.2.length ∧ (packTo rs i).2.2.length ≤ 1001 * i ∧ lastOk (packTo rs i).2.2 ∧ (∀ q ∈ tl, @LT.lt Nat _ Z q.1) ∧ (∀ c : Nat, (packTo rs i).2.2.getD c 0 = 0 → (packTo rs i).2.1.getD c 0 = 0)) ?_ ?_ ?_ ?_)
      · rintro i m nw ⟨bvs, ez, oH', kvs, oSt, tl, rfl, _⟩
        exact .head _
      · refine ⟨sv, 0, oH, [], o1, [], rfl, i1, ?_, hiH, Nat.zero_le _, ?_, ⟨_, d1⟩, rfl, Nat.zero_le _, .inl rfl, by simp, fun c _ => by simp [packTo]⟩
        · rw [i1.length, List.length_replicate]
        · intro c
          exact ⟨fun _ => rfl, fun p q => absurd q (by unfold combF; rw [if_neg (fun z => by have q1 := z.2.1; have q2 := z.1; have q3 : (packTo rs 0).2.2.length = 0 := rfl; walk_at "om")]; exact fun e => nomatch e)⟩
      · intro i v m₁ nw I oI h10 tk10 hv hJ1 hoff F10 N10
        refine hide ?_
        intro P ret1
        refine exE6 hJ1 ?_
        clear hJ1
        intro bvs ez oH' kvs oSt tl hE
        refine anE7 hE ?_
        clear hE
        intro hq1 hb hbl hd hkl hHe hE
        refine anE6 hE ?_
        clear hE
        intro hq2 htc hcl hlo htl hzero
        subst hq1
        obtain ⟨xc, hxc⟩ := hq2
        refine ret1 ?_
        clear ret1 P
        have his : i < (orderF rs).length := hsl ▸ (List.getElem?_eq_some_iff.mp hv).1
        have hi3 : i < 3 := by
          have : (orderF rs).length ≤ 3 := by unfold orderF; rw [List.length_map]; exact sort3_length h3
          walk_at "om"
        have his2 : i < (sort3 (keyedF rs)).length := by simpa [orderF] using his
        obtain ⟨pa, pn, pt, pu, ev, hpt⟩ := (hPs h10 fun p hp => (N10 p (.tail _ (List.mem_append_right _ (List.mem_append_right _ hp)))).1).at i his2
        obtain rfl : v = .ref pa := by rw [List.getD_eq_getElem?_getD, hv] at ev; exact ev
        have hz : (orderF rs)[i]? = some ((sort3 (keyedF rs)).getD i (0, 0)).2 := by
          unfold orderF; rw [List.getElem?_map, List.getElem?_eq_getElem his2, List.getD_eq_getElem?_getD, List.getElem?_eq_getElem his2]
          try rfl
        obtain ⟨n, hn, en, hn1, hn2⟩ := orderF_mem h3 (List.mem_of_getElem? hz)
        have hn6 : n ≤ 1000000 := Nat.le_of_lt (Nat.lt_of_lt_of_le hn (Nat.le_trans hmx (by decide)))
        have hn8 : 0 ≤ (n : Int) := Int.natCast_nonneg n
        have hpk := packTo_succ hz
        rw [en] at hpt hpk
        refine kcp_assign (by rfl) ⟨_, hpt, rfl, _, rfl⟩ (by rfl) (by rfl) (by rfl) F10.ns ?_
        intro h11 tk11 n11 k11
        refine hideQ (s := { s with heap := h11, toks := tk11 }) ?_
        intro Post2 fin2
        have F11 : Fr g L' h11 _ := ⟨n11, fun b o e => k11 b o (Nat.ne_of_lt (Nat.lt_of_lt_of_le (Heap.lt_size e) F10.above)) (F10.keep b o e), F10.above⟩
        have N11 : News g L' h11 _ := fun p hp => ⟨k11 _ _ (N10 p hp).2.1 (N10 p hp).1, (N10 p hp).2⟩
        clear F10 N10 n11 k11 hpt ev
        obtain ⟨a, ha, Ra⟩ := Rg.at n hn
        have hrm : rs.getD n [] ∈ rs := by rw [List.getD_eq_getElem?_getD, List.getElem?_eq_getElem hn]; exact List.getElem_mem hn
        have hrk := hkey _ hrm
        have hro := hok _ hrm
        generalize hrow : rs.getD n [] = row at *
        have hrne : row ≠ [] := List.length_pos_iff.mp hn2
        have oi0 : @Ne Nat S I := hoff _ (.head _)
        have oi1 : @Ne Nat Z I := hoff _ (.tail _ (.head _))
        have oi2 : @Ne Nat H I := hoff _ (.tail _ (.tail _ (.head _)))
        have oi3 : @Ne Nat B I := hoff _ (.tail _ (.tail _ (.tail _ (.head _))))
        have oi4 : @Ne Nat (L' + 1 + 1 + 1 + 1 + 1) I := hoff _ (.tail _ (.tail _ (.tail _ (.tail _ (.head _)))))
        have oi5 : @Ne Nat (L' + 1 + 1 + 1 + 1) I := hoff _ (.tail _ (.tail _ (.tail _ (.tail _ (.tail _ (.head _))))))
        have oi6 : @Ne Nat (L' + 1 + 1 + 1) I := hoff _ (.tail _ (.tail _ (.tail _ (.tail _ (.tail _ (.tail _ (.head _)))))))
        have oi7 : @Ne Nat (L' + 1 + 1) I := hoff _ (.tail _ (.tail _ (.tail _ (.tail _ (.tail _ (.tail _ (.tail _ (.head _))))))))
        have oi8 : @Ne Nat (L' + 1) I := hoff _ (.tail _ (.tail _ (.tail _ (.tail _ (.tail _ (.tail _ (.tail _ (.tail _ (.head _)))))))))
        obtain ⟨tt, htt⟩ : ∃ tt, tt = tl ++ tail := ⟨_, rfl⟩
        have httl : ∀ q ∈ tt, @LT.lt Nat _ Z q.1 := fun q hq => by
          rw [htt] at hq
          rcases List.mem_append.mp hq with hq | hq
          · exact htl q hq
          · exact hlt q hq
        rw [← htt] at N11
        simp only [List.cons_append, List.nil_append] at N11
        k_steps
        with_reducible rename News _ _ _ _ => N12
        with_reducible rename Fr _ _ _ _ => F12
        rename_i oS1 dS1
        have hcc : ∀ c ∈ sortK (row.map (·.1)), (sortK (row.map (·.1))).getD 0 0 ≤ c := sorted_head (sortK_sorted _)
        have hpm := sortK_perm (row.map (·.1))
        refine Stop.mk (While_inv (n₀ := (packTo rs i).2.2.length) (fun k m nw => ∃ b tb oSt, m = (fun z => if z = Str.ofString "at" then some (Value.int (n : Int) pu) else if z = Str.ofString "minus" then some (Value.int ((sort3 (keyedF rs)).getD i (0, 0)).1 pt) else m₁ z) ∧ nw = [(I, oI), (S, listOf (List.toArray svs) e5), (Z, listOf (List.toArray bvs) ez), (H, oH'), (B, listOf (List.toArray ys) ys.length), (L' + 1 + 1 + 1 + 1 + 1, oSt), (L' + 1 + 1 + 1 + 1, oSp), (L' + 1 + 1 + 1, oHc), (L' + 1 + 1, oOw), (L' + 1, o5)] ++ tt ∧ oSt.data = .cell (some (.int b tb)) ∧ b = -((sortK (row.map (·.1))).getD 0 0) + (((packTo rs i).2.2.length : Int) - k) ∧ k ≤ (packTo rs i).2.2.length ∧ fitFrom (packTo rs i).2.2 (sortK (row.map (·.1))) (k + 1) b = firstF (packTo rs i).2.2 (sortK (row.map (·.1)))) F12 N12 ?_ ?_)
        · exact ⟨_, _, _, rfl, rfl, dS1, by walk_at "om", Nat.le_refl _, by rw [Int.zero_sub]; rfl⟩
        · intro k m₂ nw h13 tk13 F13 N13 hJ1
          refine hide ?_
          intro P ret1
          refine exE3 hJ1 ?_
          clear hJ1
          intro b tb oSt2 hE
          refine anE6 hE ?_
          clear hE
          intro hq1 hq2 dS2 eb hk hfit
          subst hq1
          subst hq2
          refine ret1 ?_
          clear ret1 P
          clear F12 N12 dS1
          simp only [List.cons_append, List.nil_append] at N13
          k_steps
          have hrl : row.length = (row.map (·.1)).length := by simp
          refine Stop.mk ⟨a, row, _, rfl, rfl, F13, N13, Ra, by rw [sizeLine_eq]; have := hro.2; walk_at "om", fun j zs nw => nw = ((I, oI) :: (S, listOf (List.toArray svs) e5) :: (Z, listOf (List.toArray bvs) ez) :: (H, oH') :: (B, listOf (List.toArray ys) ys.length) :: (L' + 1 + 1 + 1 + 1 + 1, oSt2) :: (L' + 1 + 1 + 1 + 1, oSp) :: (L' + 1 + 1 + 1, oHc) :: (L' + 1 + 1, oOw) :: (L' + 1, o5) :: tt) ∧ IntsAre zs (((row.map (·.1)).take j).filter fun c => (combF (packTo rs i).2.1 (packTo rs i).2.2 (b + c)).isSome), ⟨rfl, .nil⟩, ?_, ?_⟩
          · intro g2 j c t zs nw I2 oI2 C2 oC2 D2 m₃ h14 tk14 E' hc hJ1 hC hcx F14 N14 off ne
            refine hide ?_
            intro P ret1
            obtain ⟨rfl, hIz⟩ := hJ1
            refine ret1 ?_
            clear ret1 P
            clear F13 N13
            have hs := hHe.isSome (b + c)
            k_steps
            · refine Stop.mk (CompEnd.intro F14 N14 _ (fun p hp => hp) off trivial ⟨rfl, ?_⟩)
              rw [filt_yes hc (by rw [← hs]; assumption)]
              exact ints_snoc hIz _ _
            · refine Stop.mk (CompEnd.intro F14 N14 _ (fun p hp => hp) off trivial ⟨rfl, ?_⟩)
              rw [filt_no hc (by rw [← hs]; assumption)]
              exact hIz
          · intro g2 zs nw hJ1
            refine hide ?_
            intro P ret1
            obtain ⟨rfl, hIz⟩ := hJ1
            refine ret1 ?_
            clear ret1 P
            intro D2 h14 tk14 F14 N14 off
            clear F13 N13
            rw [hrl, List.take_length] at hIz
            have hb0 : ∀ c ∈ row.map (·.1), 0 ≤ b + c := fun c hc => by have := hcc c (hpm.symm.subset hc); walk_at "om"
            have hff := fits_filter (ts := (packTo rs i).2.1) (cs := (packTo rs i).2.2) hb0
            k_steps
            · rename decide _ = true => hdt
              rw [hdt] at hff
              have eb2 : putB row (packTo rs i).2.2 = b := by unfold putB; rw [← hfit]; exact fit_hit hff
              clear hfit hdt hIz off
              with_reducible rename News _ _ _ _ => N15
              with_reducible rename Fr _ _ _ _ => F16
              have N16 : News g L' _ ((I, oI) :: (S, listOf (List.toArray svs) e5) :: (Z, listOf (List.toArray (bvs.set ((n : Int)).toNat (Value.int b tb))) ez) :: (H, oH') :: (B, listOf (List.toArray ys) ys.length) :: (L' + 1 + 1 + 1 + 1 + 1, oSt2) :: (L' + 1 + 1 + 1 + 1, oSp) :: (L' + 1 + 1 + 1, oHc) :: (L' + 1 + 1, oOw) :: (L' + 1, o5) :: tt) := fun p hp => N15 p (.tail _ (.tail _ hp))
              clear N15
              rw [Int.toNat_natCast] at N16
              unfold stepF at hpk
              rw [Int.toNat_natCast, hrow] at hpk
              refine Stop.mk (loop_dict (by rfl) F16 N16 Ra (fun j m nw => ∃ oH2 kvs2 tl2 cv, m = (fun z => if z = Str.ofString "column" then cv else if z = Str.ofString "at" then some (Value.int (n : Int) pu) else if z = Str.ofString "minus" then some (Value.int ((sort3 (keyedF rs)).getD i (0, 0)).1 pt) else m₁ z) ∧ nw = ((I, oI) :: (S, listOf (List.toArray svs) e5) :: (Z, listOf (List.toArray (bvs.set n (Value.int b tb))) ez) :: (H, oH2) :: (B, listOf (List.toArray ys) ys.length) :: (L' + 1 + 1 + 1 + 1 + 1, oSt2) :: (L' + 1 + 1 + 1 + 1, oSp) :: (L' + 1 + 1 + 1, oHc) :: (L' + 1 + 1, oOw) :: (L' + 1, o5) :: (tl2 ++ tt)) ∧
                oH2.IsDictOf (intKind PySem.Challenge.rw_sf0018_01.row.prog w) kvs2 ∧ kvs2.length ≤ kvs.length + j ∧ HeldIs (tl2 ++ tl) kvs2 (phiF (combF (packTo rs i).2.1 (packTo rs i).2.2) b ((n : Int) + 1) row ((row.map (·.1)).take j)) ∧ (∀ q ∈ tl2, @LT.lt Nat _ Z q.1 ∧ @LT.lt Nat _ I q.1)) ?_ ?_ ?_)
              · refine ⟨oH', kvs, [], _, upd0 _ _, rfl, hd, by walk_at "om", hHe.congr fun c => ?_, by simp⟩
                unfold phiF; rw [List.take_zero, if_neg (by simp)]
              · intro j c t m₃ nw I3 oI3 h17 tk17 hc hJ1 hoff3 F17 N17
                refine hideB (s := { s with heap := h17, toks := tk17 }) ?_
                intro Post4 fin4 P ret1
                refine exE4 hJ1 ?_
                clear hJ1
                intro oH2 kvs2 tl2 cv hE
                refine anE6 hE ?_
                clear hE
                intro hq1 hq2 hd2 hkl2 hHe2 htl2
                subst hq1
                subst hq2
                refine ret1 ?_
                clear ret1 P
                clear F16 N16
                have ok0 : @Ne Nat I I3 := hoff3 _ (.head _)
                have ok1 : @Ne Nat S I3 := hoff3 _ (.tail _ (.head _))
                have ok2 : @Ne Nat Z I3 := hoff3 _ (.tail _ (.tail _ (.head _)))
                have ok3 : @Ne Nat H I3 := hoff3 _ (.tail _ (.tail _ (.tail _ (.head _))))
                have ok4 : @Ne Nat B I3 := hoff3 _ (.tail _ (.tail _ (.tail _ (.tail _ (.head _)))))
                have ok5 : @Ne Nat (L' + 1 + 1 + 1 + 1 + 1) I3 := hoff3 _ (.tail _ (.tail _ (.tail _ (.tail _ (.tail _ (.head _))))))
                have ok6 : @Ne Nat (L' + 1 + 1 + 1 + 1) I3 := hoff3 _ (.tail _ (.tail _ (.tail _ (.tail _ (.tail _ (.tail _ (.head _)))))))
                have ok7 : @Ne Nat (L' + 1 + 1 + 1) I3 := hoff3 _ (.tail _ (.tail _ (.tail _ (.tail _ (.tail _ (.tail _ (.tail _ (.head _))))))))
                have ok8 : @Ne Nat (L' + 1 + 1) I3 := hoff3 _ (.tail _ (.tail _ (.tail _ (.tail _ (.tail _ (.tail _ (.tail _ (.tail _ (.head _)))))))))
                have ok9 : @Ne Nat (L' + 1) I3 := hoff3 _ (.tail _ (.tail _ (.tail _ (.tail _ (.tail _ (.tail _ (.tail _ (.tail _ (.tail _ (.head _))))))))))
                have hjl : j < 1001 := by
                  have q1 := (List.getElem?_eq_some_iff.mp hc).1
                  have q2 := hro.2
                  rw [← hrl] at q1; walk_at "om"
                have hcm : c ∈ row.map (·.1) := List.mem_of_getElem? hc
                obtain ⟨tt2, htt2⟩ : ∃ tt2, tt2 = tl2 ++ tt := ⟨_, rfl⟩
                have httl2 : ∀ q ∈ tt2, @LT.lt Nat _ Z q.1 := fun q hq => by
                  rw [htt2] at hq
                  rcases List.mem_append.mp hq with hq | hq
                  · exact (htl2 q hq).1
                  · exact httl q hq
                rw [← htt2] at N17
                k_steps
                with_reducible rename News _ _ _ _ => N18
                with_reducible rename Fr _ _ _ _ => F18
                rename_i D4 hD4 lD4 h18 oH3 tk18 d18
                subst htt2
                refine fin4 _ _ ?_
                refine LpEnd.mk (news' := [(I, oI), (S, listOf (List.toArray svs) e5), (Z, listOf (List.toArray (bvs.set n (Value.int b tb))) ez), (H, oH3), (B, listOf (List.toArray ys) ys.length), (L' + 1 + 1 + 1 + 1 + 1, oSt2), (L' + 1 + 1 + 1 + 1, oSp), (L' + 1 + 1 + 1, oHc), (L' + 1 + 1, oOw), (L' + 1, o5)] ++ (D4, _) :: (tl2 ++ tt)) F18 (fun p hp => N18 p (mem_shift hp)) (off_mid (fun p hp => ?_) (Nat.ne_of_gt lD4.1)) (exI4 oH3 _ ((D4, _) :: tl2) _ ⟨upd1, rfl, d18, ?_, ((hHe2.mono fun _ h => .tail _ h).store (p := ((n : Int) + 1, lookD row c)) (.head _)).congr (phi_step hc), ?_⟩)
                · simp only [List.cons_append, List.nil_append, List.mem_cons] at hp
                  rcases hp with rfl | rfl | rfl | rfl | rfl | rfl | rfl | rfl | rfl | rfl | hp
                  · exact ok0
                  · exact ok1
                  · exact ok2
                  · exact ok3
                  · exact ok4
                  · exact ok5
                  · exact ok6
                  · exact ok7
                  · exact ok8
                  · exact ok9
                  · exact hoff3 p (.tail _ (.tail _ (.tail _ (.tail _ (.tail _ (.tail _ (.tail _ (.tail _ (.tail _ (.tail _ hp))))))))))
                · have := stored_length_le kvs2 (b + c) (Value.ref D4); walk_at "om"
                · intro q hq
                  rcases List.mem_cons.mp hq with rfl | hq
                  · exact ⟨lD4.2.2.2.1, lD4.2.1⟩
                  · exact htl2 q hq
              · intro h17 tk17 m' nw F17 N17 hJ1
                refine hide ?_
                intro P ret1
                refine exE4 hJ1 ?_
                clear hJ1
                intro oH2 kvs2 tl2 cv hE
                refine anE6 hE ?_
                clear hE
                intro hq1 hq2 hd2 hkl2 hHe2 htl2
                subst hq1
                subst hq2
                refine ret1 ?_
                clear ret1 P
                clear F16 N16
                k_steps
                rw [hrl, List.take_length] at hHe2
                have hpl := putN_le (cs := (packTo rs i).2.2) hrk hn2
                refine fin2 _ _ ?_
                refine LpEnd.mk (news' := [(S, listOf (List.toArray svs) e5), (Z, listOf (List.toArray (bvs.set n (Value.int b tb))) ez), (H, oH2), (B, listOf (List.toArray ys) ys.length), (L' + 1 + 1 + 1 + 1 + 1, oSt2), (L' + 1 + 1 + 1 + 1, oSp), (L' + 1 + 1 + 1, oHc), (L' + 1 + 1, oOw), (L' + 1, o5)] ++ ((tl2 ++ tl) ++ tail)) F17 (fun p hp => ?_) (fun p hp => ?_) (exI6 (bvs.set n (Value.int b tb)) ez oH2 kvs2 oSt2 (tl2 ++ tl) ⟨rfl, ?_, ?_, hd2, ?_, ?_, ⟨_, dS2⟩, ?_, ?_, ?_, ?_, ?_⟩)
                · rw [List.append_assoc, ← htt] at hp
                  exact N17 p hp
                · simp only [List.cons_append, List.nil_append, List.mem_cons] at hp
                  rcases hp with rfl | rfl | rfl | rfl | rfl | rfl | rfl | rfl | rfl | hp
                  · exact oi0
                  · exact oi1
                  · exact oi2
                  · exact oi3
                  · exact oi4
                  · exact oi5
                  · exact oi6
                  · exact oi7
                  · exact oi8
                  · rw [List.append_assoc] at hp
                    rcases List.mem_append.mp hp with hp | hp
                    · exact Nat.ne_of_gt (htl2 p hp).2
                    · exact hoff p (List.mem_append_right _ hp)
                · rw [hpk, eb2]; exact ints_set hb b tb n
                · rw [List.length_set]; exact hbl
                · have := hro.2; walk_at "om"
                · rw [hpk]
                  refine hHe2.congr fun x => ?_
                  rw [put_comb htc (by walk_at "om"), eb2]; rfl
                · rw [hpk]; show (putT row _ _).length = (putC _ row _).length; rw [putT_length, putC_length, htc]
                · rw [hpk]; show (putC _ row _).length ≤ _; rw [putC_length]; walk_at "om"
                · rw [hpk]; exact put_last (ts := (packTo rs i).2.1) hrne htc (by walk_at "om") hlo
                · intro q hq
                  rcases List.mem_append.mp hq with hq | hq
                  · exact (htl2 q hq).1
                  · exact htl q hq
                · rw [hpk]; exact put_zero htc (by walk_at "om") hzero
            · rename decide _ = false => hdf
              rw [hdf] at hff
              have hk1 : 1 ≤ k := by
                rcases Nat.eq_zero_or_pos k with q | q
                · rw [fits_high (cs := (packTo rs i).2.2) (b := b) hcc (by walk_at "om")] at hff; cases hff
                · exact q
              clear hdf hIz off
              with_reducible rename News _ _ _ _ => N15
              with_reducible rename Fr _ _ _ _ => F16
              have N16 : News g L' _ ((I, oI) :: (S, listOf (List.toArray svs) e5) :: (Z, listOf (List.toArray bvs) ez) :: (H, oH') :: (B, listOf (List.toArray ys) ys.length) :: (L' + 1 + 1 + 1 + 1 + 1, _) :: (L' + 1 + 1 + 1 + 1, oSp) :: (L' + 1 + 1 + 1, oHc) :: (L' + 1 + 1, oOw) :: (L' + 1, o5) :: tt) := fun p hp => N15 p (.tail _ (.tail _ hp))
              clear N15
              obtain ⟨k', rfl⟩ : ∃ k', k = k' + 1 := ⟨k - 1, by walk_at "om"⟩
              refine WhileStep.intro (n' := k') F16 N16 (by walk_at "om") (exI3 _ _ _ ⟨rfl, rfl, by assumption, by walk_at "om", by walk_at "om", ?_⟩)
              rw [← hfit]; exact (fit_miss hff).symm
      · intro h10 tk10 m' nw F10 N10 hJ1
        refine hide ?_
        intro P ret1
        refine exE6 hJ1 ?_
        clear hJ1
        intro bvs ez oH' kvs oSt tl hE
        refine anE7 hE ?_
        clear hE
        intro hq1 hb hbl hd hkl hHe hE
        refine anE6 hE ?_
        clear hE
        intro hq2 htc hcl hlo htl hzero
        subst hq1
        obtain ⟨xc, hxc⟩ := hq2
        refine ret1 ?_
        clear ret1 P
        rw [hsl, packTo_all] at hb hHe htc hcl hlo hzero
        replace N10 : News g L' h10 ((Z, listOf (List.toArray bvs) ez) :: (H, oH') :: (B, listOf (List.toArray ys) ys.length) :: (L' + 1 + 1 + 1 + 1 + 1, oSt) :: (L' + 1 + 1 + 1 + 1, oSp) :: (L' + 1 + 1 + 1, oHc) :: (L' + 1 + 1, oOw) :: (L' + 1, o5) :: tl) := fun p hp => by
          rcases List.mem_append.mp (show p ∈ [(Z, listOf (List.toArray bvs) ez), (H, oH'), (B, listOf (List.toArray ys) ys.length), (L' + 1 + 1 + 1 + 1 + 1, oSt), (L' + 1 + 1 + 1 + 1, oSp), (L' + 1 + 1 + 1, oHc), (L' + 1 + 1, oOw), (L' + 1, o5)] ++ tl from hp) with hp | hp
          · exact N10 p (.tail _ (List.mem_append_left _ hp))
          · exact N10 p (List.mem_append_right _ (List.mem_append_left _ hp))
        have ho3 : (orderF rs).length ≤ 3 := by unfold orderF; rw [List.length_map]; exact sort3_length h3
        have hlen : (packF rs).2.2.length ≤ 3003 := by walk_at "om"
        k_steps
        refine Stop.mk (join_int (nw := [(Z, listOf (List.toArray bvs) ez), (H, oH'), (B, listOf (List.toArray ys) ys.length), (L' + 1 + 1 + 1 + 1 + 1, oSt), (L' + 1 + 1 + 1 + 1, oSp), (L' + 1 + 1 + 1, oHc), (L' + 1 + 1, oOw), (L' + 1, o5)] ++ tl) F10 ((packF rs).2.2.length : Int) ?_ ?_)
        · rcases Decidable.em (kvs = []) with hk | hk
          · have hz := held_empty hk hHe hlo
            k_steps
            with_reducible rename News _ _ _ _ => N11
            with_reducible rename Fr _ _ _ _ => F11
            exact Stop.mk ⟨_, _, _, by rw [hz]; rfl, rfl, F11, fun p hp => N11 p (.tail _ hp)⟩
          · k_steps
            with_reducible rename News _ _ _ _ => N11
            with_reducible rename Fr _ _ _ _ => F11
            exact Stop.mk ⟨_, _, _, by rw [Int.sub_add_cancel], rfl, F11, fun p hp => N11 p (.tail _ hp)⟩
        intro h11 tk11 t11 F11 N11
        clear F10 N10
        simp only [List.cons_append, List.nil_append] at N11
        k_steps
        have hlo2 : lastOk (packF rs).2.2 := hlo
        refine Stop.mk (CompSrc.range (by rfl) (by k_asm) (by k_asm) (by assumption) (small_one (by walk_at "om") (by walk_at "om") (by walk_at "om") (by walk_at "om")) (rangeSize_nat _ _) (by rw [sizeLine_eq]; walk_at "om") ?_)
        intro gg2
        clear F11 N11
        refine rest_ind (fun j zs nw => ∃ tl3, nw = [(Z, listOf (List.toArray bvs) ez), (H, oH'), (B, listOf (List.toArray ys) ys.length), (L' + 1 + 1 + 1 + 1 + 1, oSt), (L' + 1 + 1 + 1 + 1, oSp), (L' + 1 + 1 + 1, oHc), (L' + 1 + 1, oOw), (L' + 1, o5)] ++ (tl3 ++ tl) ∧ (∀ h, Holds (tl3 ++ tl) h → PairsAt h zs (pairsTo (packF rs).2.1 (packF rs).2.2 j)) ∧ (∀ q ∈ tl3, @LT.lt Nat _ Z q.1)) ?_ ?_ ?_
        · exact ⟨[], rfl, fun _ _ => .nil, by simp⟩
        · intro j zs nw v I oI C oC D m₂ h tk2 E' hj hJ1 hv hC hx F N off ne
          refine hideB (s := { s with heap := h, toks := tk2 }) ?_
          intro Post5 fin5 P ret1
          obtain ⟨tl3, rfl, hPz, htl3⟩ := hJ1
          refine ret1 ?_
          clear ret1 P
          obtain ⟨tv, rfl⟩ := hv
          have hj2 : j < (packF rs).2.2.length := by walk_at "om"
          obtain ⟨tt3, htt3⟩ : ∃ tt3, tt3 = tl3 ++ tl := ⟨_, rfl⟩
          rw [← htt3] at N off hPz
          have off0 := off
          simp only [List.cons_append, List.nil_append] at N off
          simp only [Off3] at off
          cases e : combF (packF rs).2.1 (packF rs).2.2 (0 + (j : Int)) with
          | none =>
            have ev := (hHe _).1 e
            k_steps
            with_reducible rename News _ _ _ _ => N4
            with_reducible rename Fr _ _ _ _ => F4
            rename_i D4 hD4 lD4
            subst htt3
            have z1 := comb_none hj2 e
            refine fin5 _ _ ?_
            refine Stop.mk (CompEnd.intro F4 N4 ([(Z, listOf (List.toArray bvs) ez), (H, oH'), (B, listOf (List.toArray ys) ys.length), (L' + 1 + 1 + 1 + 1 + 1, oSt), (L' + 1 + 1 + 1 + 1, oSp), (L' + 1 + 1 + 1, oHc), (L' + 1 + 1, oOw), (L' + 1, o5)] ++ (D4, _) :: (tl3 ++ tl)) (fun p hp => mem_front (A := (I, oI) :: (C, oC) :: (D, lst zs) :: [(Z, listOf (List.toArray bvs) ez), (H, oH'), (B, listOf (List.toArray ys) ys.length), (L' + 1 + 1 + 1 + 1 + 1, oSt), (L' + 1 + 1 + 1 + 1, oSp), (L' + 1 + 1 + 1, oHc), (L' + 1 + 1, oOw), (L' + 1, o5)]) hp) (Off3.of (off_mid off0.mem ⟨Nat.ne_of_gt lD4.1, Nat.ne_of_gt lD4.2.1, Nat.ne_of_gt lD4.2.2.1⟩)) trivial ⟨(D4, _) :: tl3, rfl, fun h Hh => ?_, ?_⟩)
            · rw [pairsTo_succ, z1, hzero j z1]
              exact PairsAt.snoc (hPz h fun p hp => Hh p (.tail _ hp)) (Hh _ (.head _))
            · intro q hq
              rcases List.mem_cons.mp hq with rfl | hq
              · exact lD4.2.2.2.1
              · exact htl3 q hq
          | some p =>
            obtain ⟨pa, pn, pt, pu, ev, hpm⟩ := (hHe _).2 p e
            k_steps
            have ep := comb_some e
            subst htt3
            refine fin5 _ _ ?_
            refine Stop.mk (CompEnd.intro F N _ (fun p hp => hp) off0 trivial ⟨tl3, rfl, fun h Hh => ?_, htl3⟩)
            rw [pairsTo_succ]
            refine PairsAt.snoc (n := pn) (t := pt) (u := pu) (hPz h Hh) ?_
            have := Hh _ (List.mem_append_right _ hpm)
            rw [ep] at this
            exact this
        · intro zs nw hJ1
          refine hide ?_
          intro P ret1
          obtain ⟨tl3, rfl, hPz, htl3⟩ := hJ1
          refine ret1 ?_
          clear ret1 P
          intro B3 h12 tk12 F12 N12 off
          obtain ⟨tt3, htt3⟩ : ∃ tt3, tt3 = tl3 ++ tl := ⟨_, rfl⟩
          rw [← htt3] at N12 off hPz
          simp only [List.cons_append, List.nil_append] at N12
          k_steps
          have hln : (((packF rs).2.2.length : Int) - 0).toNat = (packF rs).2.2.length := by walk_at "om"
          rw [hln] at hPz
          have hzl : zs.length = (packF rs).2.2.length := by
            have := (hPz h12 fun p hp => (N12 p (.tail _ (.tail _ (.tail _ (.tail _ (.tail _ (.tail _ (.tail _ (.tail _ (.tail _ hp)))))))))).1).length
            rw [this, pairsTo_length]
          refine Stop.mk (CompSrc.ledger (by rfl) F12 N12 (ax := B) (its := ys.toArray) (k := ys.length) (by k_memK) (by rw [sizeLine_eq, List.size_toArray]; walk_at "om") ?_)
          intro gg4
          refine rest_fix (news := [(B3, listOf (List.toArray zs) zs.length), (Z, listOf (List.toArray bvs) ez), (H, oH'), (B, listOf (List.toArray ys) ys.length), (L' + 1 + 1 + 1 + 1 + 1, oSt), (L' + 1 + 1 + 1 + 1, oSp), (L' + 1 + 1 + 1, oHc), (L' + 1 + 1, oOw), (L' + 1, o5)] ++ tt3) (fun j ws => IntsAre ws ((basesF rs).take j)) ?_ ?_ ?_
          · exact .nil
          · rintro j ws v I oI C oC D m₂ h tk2 E' hj hIw hv hC hx F N off ne
            obtain ⟨z, tz, rfl, hz⟩ := hI.at j v (by simpa using hv)
            obtain ⟨n, rfl, hn⟩ := ownersF_mem (List.mem_of_getElem? hz)
            have off0 := off
            clear F12 N12
            simp only [List.cons_append, List.nil_append] at N
            have hbl2 := hb.length
            k_steps
            refine Stop.mk (CompEnd.intro F N _ (fun p hp => hp) off0 (.inr ⟨_, by k_memK, rfl, _, rfl⟩) ⟨rfl, ?_⟩)
            rw [basesF_take hz, Int.toNat_natCast]
            exact ints_snoc hIw _ _
          · rintro ws hIw
            intro B4 h13 tk13 F13 N13 off
            rw [List.take_of_length_le (by rw [basesF_length, List.size_toArray]; walk_at "om")] at hIw
            clear F12 N12
            simp only [List.cons_append, List.nil_append] at N13
            k_steps
            refine Stop.mk (CompSrc.ledger (by rfl) F13 N13 (ax := B3) (its := zs.toArray) (k := zs.length) (by k_memK) (by rw [sizeLine_eq, List.size_toArray]; walk_at "om") ?_)
            intro gg5
            refine rest_fix (news := [(B4, listOf (List.toArray ws) ws.length), (B3, listOf (List.toArray zs) zs.length), (Z, listOf (List.toArray bvs) ez), (H, oH'), (B, listOf (List.toArray ys) ys.length), (L' + 1 + 1 + 1 + 1 + 1, oSt), (L' + 1 + 1 + 1 + 1, oSp), (L' + 1 + 1 + 1, oHc), (L' + 1 + 1, oOw), (L' + 1, o5)] ++ tt3) (fun j us => IntsAre us ((packF rs).2.1.take j)) ?_ ?_ ?_
            · exact .nil
            · rintro j us v I oI C oC D m₂ h tk2 E' hj hIu hv hC hx F N off ne
              clear F13 N13
              have hj2 : j < (packF rs).2.2.length := by rw [List.size_toArray] at hj; walk_at "om"
              obtain ⟨qa, qn, qt, qu, eq1, eq2⟩ := (hPz h fun p hp => (N p (.tail _ (.tail _ (.tail _ (List.mem_append_right _ hp))))).1).at j (by rw [pairsTo_length]; exact hj2)
              rw [pairsTo_at hj2] at eq2
              obtain rfl : v = .ref qa := by
                have hv2 : zs[j]? = some v := by simpa using hv
                rw [← eq1, List.getD_eq_getElem?_getD, hv2]; rfl
              k_steps
              refine pair_snd eq2 ?_
              k_steps
              refine Stop.mk (CompEnd.intro F N _ (fun p hp => hp) off (.inr ⟨_, .tail _ (.head _), rfl, _, rfl⟩) ⟨rfl, ?_⟩)
              rw [take_getD (by walk_at "om")]
              exact ints_snoc hIu _ _
            · rintro us hIu
              intro B5 h14 tk14 F14 N14 off
              rw [List.take_of_length_le (by rw [List.size_toArray]; walk_at "om")] at hIu
              clear F13 N13
              simp only [List.cons_append, List.nil_append] at N14
              k_steps
              refine Stop.mk (CompSrc.ledger (by rfl) F14 N14 (ax := B3) (its := zs.toArray) (k := zs.length) (by k_memK) (by rw [sizeLine_eq, List.size_toArray]; walk_at "om") ?_)
              intro gg6
              refine rest_fix (news := [(B5, listOf (List.toArray us) us.length), (B4, listOf (List.toArray ws) ws.length), (B3, listOf (List.toArray zs) zs.length), (Z, listOf (List.toArray bvs) ez), (H, oH'), (B, listOf (List.toArray ys) ys.length), (L' + 1 + 1 + 1 + 1 + 1, oSt), (L' + 1 + 1 + 1 + 1, oSp), (L' + 1 + 1 + 1, oHc), (L' + 1 + 1, oOw), (L' + 1, o5)] ++ tt3) (fun j xs => IntsAre xs ((packF rs).2.2.take j)) ?_ ?_ ?_
              · exact .nil
              · rintro j xs v I oI C oC D m₂ h tk2 E' hj hIx hv hC hx F N off ne
                clear F14 N14
                have hj2 : j < (packF rs).2.2.length := by rw [List.size_toArray] at hj; walk_at "om"
                obtain ⟨qa, qn, qt, qu, eq1, eq2⟩ := (hPz h fun p hp => (N p (.tail _ (.tail _ (.tail _ (List.mem_append_right _ hp))))).1).at j (by rw [pairsTo_length]; exact hj2)
                rw [pairsTo_at hj2] at eq2
                obtain rfl : v = .ref qa := by
                  have hv2 : zs[j]? = some v := by simpa using hv
                  rw [← eq1, List.getD_eq_getElem?_getD, hv2]; rfl
                k_steps
                refine pair_fst eq2 ?_
                k_steps
                refine Stop.mk (CompEnd.intro F N _ (fun p hp => hp) off (.inr ⟨_, .tail _ (.tail _ (.head _)), rfl, _, rfl⟩) ⟨rfl, ?_⟩)
                rw [take_getD (by walk_at "om")]
                exact ints_snoc hIx _ _
              · rintro xs hIx
                intro B6 h15 tk15 F15 N15 off
                rw [List.take_of_length_le (by rw [List.size_toArray]; walk_at "om")] at hIx
                clear F14 N14
                simp only [List.cons_append, List.nil_append] at N15
                k_steps
                with_reducible rename News _ _ _ _ => N16
                with_reducible rename Fr _ _ _ _ => F16
                have fresh : ∀ {a : Addr}, g.get? a = none → s.heap.get? a = none := fun {a} q => by
                  cases e9 : s.heap.get? a with
                  | none => rfl
                  | some o => have := kg a o (by simp) e9; rw [q] at this; cases this
                refine ret _ B4 B5 B6 B _ _ ⟨⟨_, (N16 _ (.head _)).1⟩, ⟨ws, _, (N16 (B4, _) (.tail _ (.tail _ (.tail _ (.head _))))).1, hIw⟩, ⟨us, _, (N16 (B5, _) (.tail _ (.tail _ (.head _)))).1, hIu⟩, ⟨xs, _, (N16 (B6, _) (.tail _ (.head _))).1, hIx⟩, ⟨ys, _, (N16 (B, listOf (List.toArray ys) ys.length) (by k_memK)).1, hI⟩⟩ ?_ (fun b o e => F16.keep b o (kg b o (by simp) e))
                intro a ha
                simp only [List.mem_cons, List.not_mem_nil, or_false] at ha
                rcases ha with rfl | rfl | rfl | rfl | rfl
                · exact fresh (N16 _ (.head _)).2.2
                · exact fresh (N16 (a, _) (.tail _ (.tail _ (.tail _ (.head _))))).2.2
                · exact fresh (N16 (a, _) (.tail _ (.tail _ (.head _)))).2.2
                · exact fresh (N16 (a, _) (.tail _ (.head _))).2.2
                · exact fresh (N16 (a, listOf (List.toArray ys) ys.length) (by k_memK)).2.2
end

end OH
section RM
open PySem PySem.W PyProof.Rows PySem.Calls PySem.Spec PyProof.Rows.LCg
theorem pack_len {rs : Rows} (hkey : ∀ r ∈ rs, ∀ p ∈ r, 0 ≤ p.1 ∧ p.1 ≤ 1000) (h3 : (keyedF rs).length ≤ 3) : (packF rs).2.1.length = (packF rs).2.2.length ∧ (packF rs).2.2.length ≤ 3003 := by
  have key : ∀ (l : List Int) (st : List Int × List Int × List Int), (∀ n ∈ l, ∃ i, i < rs.length ∧ n = (i : Int) ∧ ownerF rs i = i ∧ 0 < (rs.getD i []).length) → st.2.1.length = st.2.2.length →
      (l.foldl (stepF rs) st).2.1.length = (l.foldl (stepF rs) st).2.2.length ∧ (l.foldl (stepF rs) st).2.2.length ≤ st.2.2.length + 1001 * l.length := by
    intro l
    induction l with
    | nil => intro st _ e; exact ⟨e, Nat.le_add_right _ _⟩
    | cons n l ih =>
      intro st h e
      obtain ⟨i, hi, rfl, _, h0⟩ := h _ (.head _)
      have hm : rs.getD i [] ∈ rs := by rw [List.getD_eq_getElem?_getD, List.getElem?_eq_getElem hi]; exact List.getElem_mem _
      have hp := putN_le (cs := st.2.2) (hkey _ hm) h0
      have e2 : (stepF rs st (i : Int)).2.1.length = (stepF rs st (i : Int)).2.2.length := by
        unfold stepF; rw [Int.toNat_natCast, putT_length, putC_length, e]
      have e3 : (stepF rs st (i : Int)).2.2.length ≤ st.2.2.length + 1001 := by
        unfold stepF; rw [Int.toNat_natCast, putC_length]; omega
      have := ih (stepF rs st (i : Int)) (fun n hn => h n (.tail _ hn)) e2
      rw [List.foldl_cons, List.length_cons]
      exact ⟨this.1, by omega⟩
  have ho3 : (orderF rs).length ≤ 3 := by unfold orderF; rw [List.length_map]; exact sort3_length h3
  have := key (orderF rs) (List.replicate rs.length 0, [], []) (fun n hn => orderF_mem h3 hn) rfl
  refine ⟨this.1, Nat.le_trans this.2 ?_⟩
  show 0 + 1001 * (orderF rs).length ≤ 3003
  omega
theorem lst_at {h : Heap} {a : Addr} {ns : List Int} (x : ∃ vs e, h.get? a = some (listOf (List.toArray vs) e) ∧ IntsAre vs ns) (hz : ns.length ≤ 20000) : LstAt h a ns := by
  obtain ⟨vs, e, ho, hi⟩ := x
  exact ⟨vs, ⟨_, ho, rfl, _, rfl⟩, hi, hz⟩
theorem lst_led {h : Heap} {a : Addr} {ns : List Int} (x : ∃ vs e, h.get? a = some (listOf (List.toArray vs) e) ∧ IntsAre vs ns) (hz : ns.length ≤ 20000) : ∃ o, h.get? a = some o ∧ ∀ h' : Heap, h'.get? a = some o → LstAt h' a ns := by
  obtain ⟨vs, e, ho, hi⟩ := x
  exact ⟨_, ho, fun h' e' => ⟨vs, ⟨_, e', rfl, _, rfl⟩, hi, hz⟩⟩
/-- four lists of ints, as a piece of the ledger -/
theorem four_led {h h3 : Heap} {b t k o : Addr} {nb nt nk no : List Int} (xb : ∃ vs e, h3.get? b = some (listOf (List.toArray vs) e) ∧ IntsAre vs nb) (xt : ∃ vs e, h3.get? t = some (listOf (List.toArray vs) e) ∧ IntsAre vs nt)
    (xk : ∃ vs e, h3.get? k = some (listOf (List.toArray vs) e) ∧ IntsAre vs nk) (xo : ∃ vs e, h3.get? o = some (listOf (List.toArray vs) e) ∧ IntsAre vs no) (fresh : ∀ a ∈ [b, t, k, o], h.get? a = none)
    (hb : nb.length ≤ 20000) (ht : nt.length ≤ 20000) (hk : nk.length ≤ 20000) (ho : no.length ≤ 20000) :
    ∃ l : List (Addr × Obj), (∀ p ∈ l, h.get? p.1 = none ∧ h3.get? p.1 = some p.2) ∧ ∀ h', Holds l h' → Four h' b t k o nb nt nk no := by
  obtain ⟨ob, eb, fb⟩ := lst_led xb hb
  obtain ⟨ot, et, ft⟩ := lst_led xt ht
  obtain ⟨ok, ek, fk⟩ := lst_led xk hk
  obtain ⟨oo, eo, fo⟩ := lst_led xo ho
  refine ⟨[(b, ob), (t, ot), (k, ok), (o, oo)], fun p hp => ?_, fun h' Hh => ⟨fb _ (Hh _ (.head _)), ft _ (Hh _ (.tail _ (.head _))), fk _ (Hh _ (.tail _ (.tail _ (.head _)))), fo _ (Hh _ (.tail _ (.tail _ (.tail _ (.head _)))))⟩⟩
  simp only [List.mem_cons, List.not_mem_nil, or_false] at hp
  rcases hp with rfl | rfl | rfl | rfl
  · exact ⟨fresh _ (.head _), eb⟩
  · exact ⟨fresh _ (.tail _ (.head _)), et⟩
  · exact ⟨fresh _ (.tail _ (.tail _ (.head _))), ek⟩
  · exact ⟨fresh _ (.tail _ (.tail _ (.tail _ (.head _)))), eo⟩
section
variable {w : World} {dp un : Nat} {fr : List Env} {gd : Option (List Code)} {s : Shared} {h₀ : Heap} {L : Addr} {m : Str → Option Value} {news : List (Addr × Obj)} {Q E : Value → Shared → Prop} {mean : ExcName → Option Value} {mg mb : Str → Option Value}
/-- packed_rows, at a caller that holds the rows on its ledger -/
theorem use_packed {ax : Addr} {vs : List Value} {rs : Rows} (F : Fr h₀ L s.heap m) (N : News h₀ L s.heap news) (X : (KD w.params).In h₀) (T : Top VD (looseW VD []) mean mg mb h₀)
    (hl : s.heap.IsList ax vs.toArray) (R : RowsIn PySem.Challenge.rw_sf0018_01.row.prog w s.heap vs rs) (hok : ∀ r ∈ rs, RowOk r) (hmx : rs.length ≤ 900)
    (hkey : ∀ r ∈ rs, ∀ p ∈ r, 0 ≤ p.1 ∧ p.1 ≤ 1000) (h1 : 1 ≤ (keyedF rs).length) (h3 : (keyedF rs).length ≤ 3) (hdp : dp < 400) (hun : un < 400)
    (ret : ∀ x dx b t k o t1 t2 t3 t4 news' h' tk', Fr h₀ L h' m → News h₀ L h' ((x, instObj 275 dx) :: (dx, packD w t1 t2 t3 t4 b t k o) :: news') → (∀ p ∈ news, p ∈ news') → (∀ h, Holds news' h → Four h b t k o (basesF rs) (packF rs).2.1 (packF rs).2.2 (ownersF rs)) →
      @LT.lt Nat _ dx x → (∀ p ∈ news, p.1 ≠ x ∧ p.1 ≠ dx) → Q (.ref x) { s with heap := h', toks := tk' }) :
    wpAny (model PySem.Challenge.rw_sf0018_01.row.prog w) (AT dp un fr gd) (call (.ref 286) [.ref ax]) Q E s := by
  refine C_packed w dp un fr gd s Q E ⟨fun a o e => F.keep a o (X a o e), _, _, _, T.keeps F.keep⟩ ax vs rs hl R hok hmx hkey h1 h3 (by omega) (by omega) ?_
  intro x dx b t k o h' tk' P fresh kk
  obtain ⟨t1, t2, t3, t4, od⟩ := P.od
  have pl := pack_len hkey h3
  obtain ⟨l, hl1, hl2⟩ := four_led (h := s.heap) P.ob P.ot P.ok P.oo (fun a ha => fresh a (.tail _ (.tail _ ha))) (by rw [basesF_length]; omega) (by omega) (by omega) (by rw [ownersF_length]; omega)
  obtain ⟨F2, N2⟩ := news_fresh (l := (x, instObj 275 dx) :: (dx, packD w t1 t2 t3 t4 b t k o) :: l) N F kk (by
    intro p hp
    rcases List.mem_cons.mp hp with rfl | hp
    · exact ⟨fresh _ (.head _), P.ox⟩
    · rcases List.mem_cons.mp hp with rfl | hp
      · exact ⟨fresh _ (.tail _ (.head _)), od⟩
      · exact hl1 p hp)
  refine ret x dx b t k o t1 t2 t3 t4 (l ++ news) h' tk' F2 N2 (fun p hp => List.mem_append_right _ hp) (fun h Hh => hl2 h fun p hp => Hh p (List.mem_append_left _ hp)) P.lt fun p hp => ⟨fun e => ?_, fun e => ?_⟩
  · have := (N p hp).1; rw [e, fresh x (.head _)] at this; cases this
  · have := (N p hp).1; rw [e, fresh dx (.tail _ (.head _))] at this; cases this
theorem use_laid {ax : Addr} {vs : List Value} {el : Nat} {rs : Rows} (F : Fr h₀ L s.heap m) (N : News h₀ L s.heap news) (X : (KD w.params).In h₀) (T : Top VD (looseW VD []) mean mg mb h₀)
    (hl : (ax, listOf (List.toArray vs) el) ∈ news) (R : RowsIn PySem.Challenge.rw_sf0018_01.row.prog w s.heap vs rs) (hok : ∀ r ∈ rs, RowOk r) (hmx : rs.length ≤ 900)
    (hkey : ∀ r ∈ rs, ∀ p ∈ r, 0 ≤ p.1 ∧ p.1 ≤ 1000) (h1 : 1 ≤ (keyedF rs).length) (h3 : (keyedF rs).length ≤ 3) (hdp : dp < 500) (hun : un < 500)
    (ret : ∀ r b t k o e news' h' tk', Fr h₀ L h' m → News h₀ L h' ((r, listOf #[.ref b, .ref t, .ref k, .ref o] e) :: news') → (∀ p ∈ news, p ∈ news') → (∀ h, Holds news' h → Four h b t k o (basesF rs) (packF rs).2.1 (packF rs).2.2 (ownersF rs)) → Q (.ref r) { s with heap := h', toks := tk' }) :
    wpAny (model PySem.Challenge.rw_sf0018_01.row.prog w) (AT dp un fr gd) (call (.ref 378) [.ref ax]) Q E s := by
  refine C_laid w dp un fr gd s Q E ⟨fun a o e => F.keep a o (X a o e), _, _, _, T.keeps F.keep⟩ ax el vs rs (N _ hl).1 R hok hmx hkey h1 h3 (by omega) (by omega) ?_
  intro r b t k o h' tk' P fresh kk
  obtain ⟨e, hr⟩ := P.hr
  have pl := pack_len hkey h3
  obtain ⟨l, hl1, hl2⟩ := four_led (h := s.heap) P.hb P.ht P.hk P.ho (fun a ha => fresh a (.tail _ ha)) (by rw [basesF_length]; omega) (by omega) (by omega) (by rw [ownersF_length]; omega)
  obtain ⟨F2, N2⟩ := news_fresh (l := (r, listOf #[.ref b, .ref t, .ref k, .ref o] e) :: l) N F kk (by
    intro p hp
    rcases List.mem_cons.mp hp with rfl | hp
    · exact ⟨fresh _ (.head _), hr⟩
    · exact hl1 p hp)
  exact ret r b t k o e (l ++ news) h' tk' F2 N2 (fun p hp => List.mem_append_right _ hp) (fun h Hh => hl2 h fun p hp => Hh p (List.mem_append_left _ hp))
end

end RM
section RN
open PySem PySem.W PyProof.Rows PySem.Calls PySem.Spec PyProof.Rows.LCg
theorem getD_all {P : Int → Prop} {l : List Int} (h : ∀ z ∈ l, P z) (h0 : P 0) (n : Nat) : P (l.getD n 0) := by
  rw [List.getD_eq_getElem?_getD]
  cases e : l[n]? with
  | none => exact h0
  | some z => exact h z (List.mem_of_getElem? e)
theorem off1_all {D : Addr} : ∀ {l : List (Addr × Obj)}, Off1 D l → ∀ p ∈ l, p.1 ≠ D
  | [], _, _, hp => by cases hp
  | _ :: _, x, p, hp => by
    rcases List.mem_cons.mp hp with rfl | hp
    · exact x.1
    · exact off1_all x.2 p hp
/-- rows that the law may lay: many of them, full ones -/
structure RowsFit (rs : Rows) (n k : Nat) : Prop where
  len : rs.length ≤ n
  ok : ∀ r ∈ rs, RowOk r
  key : ∀ r ∈ rs, ∀ p ∈ r, 0 ≤ p.1 ∧ p.1 ≤ 600
  full : (rs.filter fun r => !r.isEmpty).length ≤ k
theorem RowsFit.empty (i : Nat) : RowsFit (List.replicate i []) i 0 := by
  refine ⟨by simp, fun r hr => ?_, fun r hr => ?_, ?_⟩
  · rw [List.eq_of_mem_replicate hr]; exact ⟨.inl (by simp), by simp⟩
  · rw [List.eq_of_mem_replicate hr]; simp
  · simp
theorem RowsFit.mono {rs : Rows} {n k n' k' : Nat} (x : RowsFit rs n k) (h : n ≤ n') (h' : k ≤ k') : RowsFit rs n' k' := ⟨Nat.le_trans x.len h, x.ok, x.key, Nat.le_trans x.full h'⟩
theorem RowsFit.snoc {rs : Rows} {n k : Nat} {r : List (Int × Int)} (x : RowsFit rs n k) (h1 : RowOk r) (h2 : ∀ p ∈ r, 0 ≤ p.1 ∧ p.1 ≤ 600) : RowsFit (rs ++ [r]) (n + 1) (k + 1) := by
  refine ⟨by have := x.len; simp; omega, fun q hq => ?_, fun q hq => ?_, ?_⟩
  · rcases List.mem_append.mp hq with hq | hq
    · exact x.ok q hq
    · rw [List.mem_singleton.mp hq]; exact h1
  · rcases List.mem_append.mp hq with hq | hq
    · exact x.key q hq
    · rw [List.mem_singleton.mp hq]; exact h2
  · have := x.full
    rw [List.filter_append, List.length_append]
    have : ([r].filter fun r => !r.isEmpty).length ≤ 1 := List.length_filter_le _ _
    omega
theorem midway {M : Model} {A : Around} {x : Sem Flow} {Q : Flow → Shared → Prop} {E : Value → Shared → Prop} {s : Shared} (P : Shared → Prop) (h : wpAny M A x (fun fl s₂ => Stop (fl = .next ∧ P s₂)) (fun _ _ => False) s) (k : ∀ s₂, P s₂ → Q .next s₂) : wpAny M A x Q E s :=
  wpAny_mono h (fun _ _ q => by obtain ⟨rfl, p⟩ := q; exact k _ p) fun _ _ q => q.elim
theorem pull6 {m : Str → Option Value} {k1 k2 k3 k4 k5 k6 : Str} {v1 v2 v3 v4 v5 v6 : Option Value} (h1 : m k1 = v1) (h2 : m k2 = v2) (h3 : m k3 = v3) (h4 : m k4 = v4) (h5 : m k5 = v5) (h6 : m k6 = v6) :
    m = fun y => if y = k1 then v1 else if y = k2 then v2 else if y = k3 then v3 else if y = k4 then v4 else if y = k5 then v5 else if y = k6 then v6 else m y := by
  funext y
  by_cases e1 : y = k1
  · rw [if_pos e1, e1]; exact h1
  · by_cases e2 : y = k2
    · rw [if_neg e1, if_pos e2, e2]; exact h2
    · rw [if_neg e1, if_neg e2]
      exact congrFun (pull4 h3 h4 h5 h6) y
noncomputable def StrVs (vs : List Value) : Prop := ∀ v ∈ vs, ∃ z t, v = Value.str z t
theorem StrVs.append {a b : List Value} (x : StrVs a) (y : StrVs b) : StrVs (a ++ b) := fun v hv => by
  rcases List.mem_append.mp hv with h | h
  · exact x v h
  · exact y v h
theorem StrVs.one (z : Str) (t : Tok) : StrVs [.str z t] := fun v hv => ⟨z, t, List.mem_singleton.mp hv⟩
section
variable {prog : Program} {w : World} {A : Around} {E : Value → Shared → Prop} {s : Shared} {h₀ : Heap} {L : Addr} {m : Str → Option Value} {news : List (Addr × Obj)}
theorem add_L {a b : Addr} {vs ws : List Value} {Q : Value → Shared → Prop} (F : Fr h₀ L s.heap m) (N : News h₀ L s.heap news) (ha : s.heap.IsList a vs.toArray) (hb : s.heap.IsList b ws.toArray) (hsz : vs.length + ws.length ≤ 100000)
    (h : ∀ D h', Fr h₀ L h' m → News h₀ L h' ((D, listOf (List.toArray (vs ++ ws)) 0) :: news) → (∀ p ∈ news, @LT.lt Nat _ p.1 D) → Q (.ref D) { s with heap := h' }) :
    wpAny (model prog w) A (binaryOp .Add (.ref a) (.ref b)) Q E s :=
  add_lists F N ha hb (fun h' F' N' => h _ h' F' N' fun p hp => Heap.lt_size (N p hp).1) (by rw [sizeLine_eq]; omega)
theorem slice_strs {value slice : Expr} {l : Addr} {vs : List Value} {e k : Nat} {u : Tok} {Q : Value → Shared → Prop} (F : Fr h₀ L s.heap m) (N : News h₀ L s.heap news) (hl : (l, listOf vs.toArray e) ∈ news) (hz : vs.length ≤ 1000) (hv : StrVs vs)
    (h : ∀ D h' ws, Fr h₀ L h' m → News h₀ L h' ((D, listOf (List.toArray ws) 0) :: news) → (∀ p ∈ news, @LT.lt Nat _ p.1 D) → StrVs ws → ws.length ≤ k → Q (.ref D) { s with heap := h' })
    (hs : subscripted slice false (.ref l) (.ref s.heap.objs.size) = operate [.ref s.heap.objs.size, .ref l] (getItem (.ref l) (.ref s.heap.objs.size))) :
    wpAny (model prog w) A (subscriptTail value slice (.ref l) (.ref s.heap.objs.size)) Q E { s with heap := s.heap.push { cls := .type "slice", data := .fields #[.none, .int (k : Int) u, .none] } } := by
  refine kba_turn (value' := PySem.Expr.Name (PySem.Str.ofString "_") ⟨0, 0, 0, 0⟩) (fun _ => rfl) ?_
  refine kmk_slice F N (News.isList N hl) .none (.int _ _) (fun D h' F' N' l' => ?_) hs (fun _ => rfl) (by rw [sizeLine_eq, List.size_toArray]; omega)
  rw [slicePick_upto'] at N'
  exact h D h' (List.take k vs) F' N' l' (fun v hm => hv v (List.mem_of_mem_take hm)) (List.length_take_le ..)
theorem add_ints {a b : Addr} {ea eb : Nat} {vs ws : List Value} {ns ms : List Int} {Q : Value → Shared → Prop} (F : Fr h₀ L s.heap m) (N : News h₀ L s.heap news) (ha : (a, listOf (List.toArray vs) ea) ∈ news) (hb : (b, listOf (List.toArray ws) eb) ∈ news) (hi : IntsAre vs ns) (hj : IntsAre ws ms) (hsz : ns.length + ms.length ≤ 10000)
    (h : ∀ D us ks h', Fr h₀ L h' m → News h₀ L h' ((D, listOf (List.toArray us) 0) :: news) → (∀ p ∈ news, @LT.lt Nat _ p.1 D) → IntsAre us ks → ks.length ≤ 10000 → Q (.ref D) { s with heap := h' }) :
    wpAny (model prog w) A (binaryOp .Add (.ref a) (.ref b)) Q E s :=
  add_L F N (News.isList N ha) (News.isList N hb) (by rw [hi.length, hj.length]; omega) fun D h' F' N' l' => h D _ _ h' F' N' l' (hi.append hj) (by rw [List.length_append]; exact hsz)
end

end RN
section RO
open PySem PySem.W PyProof.Rows PySem.Calls PySem.Spec
open PyProof.Rows.LCg PyProof.Rows.LCt
/-- rows that a piece of the ledger bears -/
inductive RowsLed (prog : Program) (w : World) (l : List (Addr × Obj)) : List Value → Rows → Prop
  | nil : RowsLed prog w l [] []
  | cons {a : Addr} {o : Obj} {row : List (Int × Int)} {vs rs} : (a, o) ∈ l → (∀ h : Heap, h.get? a = some o → RowAt prog w h a row) → RowsLed prog w l vs rs → RowsLed prog w l (.ref a :: vs) (row :: rs)
section
variable {prog : Program} {w : World}
theorem RowsLed.mono {l l' : List (Addr × Obj)} {vs rs} (x : RowsLed prog w l vs rs) (k : ∀ p ∈ l, p ∈ l') : RowsLed prog w l' vs rs := by
  induction x with
  | nil => exact .nil
  | cons h1 h2 _ ih => exact .cons (k _ h1) h2 ih
theorem RowsLed.snoc {l : List (Addr × Obj)} {vs rs} (x : RowsLed prog w l vs rs) {a : Addr} {o : Obj} {row} (h1 : (a, o) ∈ l) (h2 : ∀ h : Heap, h.get? a = some o → RowAt prog w h a row) : RowsLed prog w l (vs ++ [.ref a]) (rs ++ [row]) := by
  induction x with
  | nil => exact .cons h1 h2 .nil
  | cons q1 q2 _ ih => exact .cons q1 q2 ih
theorem RowsLed.rows {l : List (Addr × Obj)} {vs rs} (x : RowsLed prog w l vs rs) {h : Heap} (Hh : Holds l h) : RowsIn prog w h vs rs := by
  induction x with
  | nil => exact .nil
  | cons h1 h2 _ ih => exact .cons (h2 h (Hh _ h1)) ih
theorem RowsLed.at {l : List (Addr × Obj)} {vs rs} (x : RowsLed prog w l vs rs) : ∀ (i : Nat) (v : Value), vs[i]? = some v → ∃ a o row, v = .ref a ∧ (a, o) ∈ l ∧ (∀ h : Heap, h.get? a = some o → RowAt prog w h a row) ∧ row ∈ rs := by
  induction x with
  | nil => intro i v e; simp at e
  | cons h1 h2 _ ih =>
    intro i v e
    cases i with
    | zero => simp at e; subst e; exact ⟨_, _, _, rfl, h1, h2, .head _⟩
    | succ i =>
      obtain ⟨a, o, row, q1, q2, q3, q4⟩ := ih i v (by simpa using e)
      exact ⟨a, o, row, q1, q2, q3, .tail _ q4⟩
end
section
variable {prog : Program} {w : World} {A : Around} {E : Value → Shared → Prop} {s : Shared} {h₀ : Heap} {L : Addr} {m : Str → Option Value} {env : Env} {news : List (Addr × Obj)}
noncomputable def DlAt (prog : Program) (w : World) (A : Around) (h₀ : Heap) (L : Addr) (m : Str → Option Value) (env : Env) (elt : Expr) (x : Str) (scope : Scope) (cl : List (Str × Addr)) (Q : Value → Shared → Prop) (xv : Value) (s₁ : Shared) : Prop :=
  ∃ d od row news, xv = .ref d ∧ A.handled = none ∧ Fr h₀ L s₁.heap m ∧ News h₀ L s₁.heap news ∧ (d, od) ∈ news ∧ (∀ h : Heap, h.get? d = some od → RowAt prog w h d row) ∧ row.length ≤ sizeLine ∧
    ∀ g, CompRest prog w A h₀ L m env elt x scope cl { s₁ with heap := g } (fun nw => (d, od) ∈ nw) (fun i v => ∃ k t, (row.map (·.1))[i]? = some k ∧ v = .int k t) (FinE h₀ L m { s₁ with heap := g } Q) row.length 0 [] news
/-- a comprehension over a dict of the ledger -/
theorem dled_comp {elt iter : Expr} {x : Str} {px : Pos} {scope : Scope} {cl : List (Str × Addr)} {pos : Pos} {Q : Value → Shared → Prop} (_F₀ : Fr h₀ L s.heap m)
    (hclos : closureFor scope env = pure cl) (hcell : ∀ y ∈ scope.names, y.2 ≠ .cell) (hkind : scope.kind = .function)
    (hnames : ∀ y ∈ scope.names, y.2 = .local → scope.names.lookup y.1 = some .local) (hx : scope.names.lookup x = some .local)
    (h : wpAny (model prog w) A (eval iter env) (fun xv s₁ => Stop (DlAt prog w A h₀ L m env elt x scope cl Q xv s₁)) E s)
    (hs : ∀ x, foldedSetIterable iter env x = pure x := by intro _; rfl) :
    wpAny (model prog w) A (eval (.ListComp elt [⟨.Name x px, iter, [], 0⟩] scope pos) env) Q E s := by
  rw [eval_ListComp]
  refine wpAny_comprehension_free (use := none) rfl hs hclos hkind hnames (wpAny_mono h (fun xv s₁ h₁ => ?_) fun _ _ e => e)
  refine hide ?_
  intro P ret1
  obtain ⟨d, od, row, news, rfl, hh, F, N, hm, hR, hsz, R⟩ := h₁
  have hod := (N _ hm).1
  obtain ⟨lo, kvs, hD, hv⟩ := hR _ hod
  have hks := hv.keys
  have hkl := hv.length
  obtain ⟨ep, hat⟩ := hD.dictAt
  refine ret1 ?_
  clear ret1 P
  have hlt : d < s₁.heap.objs.size := Heap.lt_size hod
  refine wpAny_pyIter_dict lo hat ?_
  have up : ∀ b o, s₁.heap.get? b = some o → (s₁.heap.push { cls := .type "dict_keyiterator", data := .fields #[.ref d, .int 0 0, .int kvs.length 0, .int ep 0] }).get? b = some o := fun b o e => Heap.get?_push_of_some _ e
  have rest : ∀ (j i : Nat) (ys : List Value) (nw : List (Addr × Obj)) (g : Heap), CompRest prog w A h₀ L m env elt x scope cl { s₁ with heap := g } (fun nw => (d, od) ∈ nw) (fun i v => ∃ k t, (row.map (·.1))[i]? = some k ∧ v = .int k t) (FinE h₀ L m { s₁ with heap := g } Q) j i ys nw →
      CompRest prog w A h₀ L m env elt x scope cl { s₁ with heap := g } (fun nw => (d, od) ∈ nw) (fun i v => ∃ k x, kvs[i]? = some (k, x) ∧ (intKind prog w).is k v = true) (FinE h₀ L m { s₁ with heap := g } Q) j i ys nw := by
    intro j
    induction j with
    | zero => intro i ys nw g h; exact h
    | succ j ih =>
      intro i ys nw g h
      refine CompRest.succ fun v I oI C oC D m₂ h' tk E' hv' hC hx F N off ne => ?_
      refine hide ?_
      intro P ret1
      obtain ⟨k, y, e, hk⟩ := hv'
      obtain ⟨t, rfl⟩ := Value.isInt_shape hk
      refine ret1 ?_
      clear ret1 P
      have ek : (row.map (·.1))[i]? = some k := by rw [← hks, List.getElem?_map, e]; rfl
      refine wpAny_mono (h _ I oI C oC D m₂ h' tk E' ⟨k, t, ek, rfl⟩ hC hx F N off ne) (fun y s₃ hr => ?_) fun _ _ e => e
      obtain ⟨h'', tk', nw', e1, F', N', off', hS, hn⟩ := hr
      exact ⟨h'', tk', nw', e1, F', N', off', hS, ih (i + 1) _ nw' g hn⟩
  refine block_U (S := fun nw => (d, od) ∈ nw) (n := kvs.length) (Walks.dictKeys (A := A) (knd := intKind prog w) hh s₁.heap.objs.size d (Nat.ne_of_lt hlt) kvs ep) (by omega) (fun i h st => by obtain ⟨o, e, _⟩ := st.1; exact ⟨o, e⟩)
    (fun i h h' o nw st e e' k N' S => ⟨by obtain ⟨o', q, r⟩ := st.1; rw [e] at q; cases q; exact ⟨o, e', r⟩, hat.at' fun o2 e2 => by rw [hod] at e2; rw [← e2]; exact (N' _ S).1⟩) hcell hkind hx ⟨⟨_, Heap.get?_push_size _ rfl, rfl, rfl⟩, hat.push _⟩ (fun b hb => ?_)
    (F.keeps up) (N.grown up) (Nat.ne_of_lt F.ns.lt) (next_is_new F) (fun p hp => Nat.ne_of_lt (Heap.lt_size (N p hp).1)) hm (rest _ _ _ _ _ (by rw [hkl]; exact R _)) ?_
  · show b < (s₁.heap.push _).objs.size
    rw [Heap.size_push]
    rcases List.mem_cons.mp hb with rfl | hb
    · exact Nat.lt_succ_self _
    · rw [List.mem_singleton.mp hb]; exact Nat.lt_succ_of_lt hlt
  · intro D C h tk m' ys news' F' N' o1 hn hC₀ hD₀ hCL hDL hCD offC fin
    refine ⟨m', hn, fun h'' hs'' => fin D h'' tk (F'.change hs'' hCL hC₀) (fun p hp => ?_) o1⟩
    refine ⟨hs''.extBut _ _ ?_ (N' p hp).1, (N' p hp).2⟩
    rcases List.mem_cons.mp hp with rfl | hp
    · exact Ne.symm hCD
    · exact offC p hp
end

end RO
section RP
open PySem PySem.W PyProof.Rows PySem.Calls PySem.Spec
theorem pull1 {m : Str → Option Value} {k : Str} {v : Option Value} (h : m k = v) : m = fun y => if y = k then v else m y := by
  funext y
  by_cases e : y = k
  · rw [if_pos e, e]; exact h
  · rw [if_neg e]
theorem pull3 {m : Str → Option Value} {k1 k2 k3 : Str} {v1 v2 v3 : Option Value} (h1 : m k1 = v1) (h2 : m k2 = v2) (h3 : m k3 = v3) :
    m = fun y => if y = k1 then v1 else if y = k2 then v2 else if y = k3 then v3 else m y := by
  funext y
  by_cases e1 : y = k1
  · rw [if_pos e1, e1]; exact h1
  · by_cases e2 : y = k2
    · rw [if_neg e1, if_pos e2, e2]; exact h2
    · rw [if_neg e1, if_neg e2]
      exact congrFun (pull1 h3) y

end RP
section RQ
open PySem PySem.W PyProof.Rows PySem.Calls PySem.Spec
theorem rowKey_length (r : List (Int × Int)) : (rowKey r).length = r.length := by
  unfold rowKey
  rw [List.length_map, (sortK_perm _).length_eq, List.length_map]
theorem filterMap_le {α β : Type} (f : α → Option β) (p : α → Bool) (h : ∀ a b, f a = some b → p a = true) : ∀ l : List α, (l.filterMap f).length ≤ (l.filter p).length
  | [] => Nat.le_refl _
  | a :: l => by
    have ih := filterMap_le f p h l
    cases e : f a with
    | none =>
      rw [List.filterMap_cons_none e, List.filter_cons]
      split
      · rw [List.length_cons]; omega
      · exact ih
    | some b => rw [List.filterMap_cons_some e, List.filter_cons, if_pos (h a b e), List.length_cons, List.length_cons]; omega
theorem rows_range (rs : Rows) : (List.range rs.length).map (fun i => rs.getD i []) = rs := by
  apply List.ext_getElem
  · simp
  · intro i h1 h2
    simp [List.getD_eq_getElem?_getD, h2]
theorem keyed_le (rs : Rows) : (keyedF rs).length ≤ (rs.filter fun r => !r.isEmpty).length := by
  have h := filterMap_le (fun i => if ownerF rs i = i ∧ 0 < (rs.getD i []).length then some (-((rs.getD i []).length : Int), (i : Int)) else none) (fun i => !(rs.getD i []).isEmpty) (fun a b e => by
    split at e
    · rename_i q
      cases hr : rs.getD a [] with
      | nil => rw [hr] at q; simp at q
      | cons x l => rfl
    · cases e) (List.range rs.length)
  refine Nat.le_trans h (Nat.le_of_eq ?_)
  conv => rhs; rw [← rows_range rs, List.filter_map, List.length_map]
  rfl
theorem keyed_pos {rs : Rows} (h : ∃ r ∈ rs, r ≠ []) : 1 ≤ (keyedF rs).length := by
  obtain ⟨r, hr, hne⟩ := h
  obtain ⟨j, hj, rfl⟩ := List.getElem_of_mem hr
  have hg : rs.getD j [] = rs[j] := by rw [List.getD_eq_getElem?_getD, List.getElem?_eq_getElem hj]; rfl
  have hi := ownerF_lt hj
  have hk : (keysF rs)[ownerF rs j]? = some (rowKey (rs.getD j [])) := by
    have hm : rowKey (rs.getD j []) ∈ keysF rs := List.mem_of_getElem? (keysF_at hj)
    unfold ownerF
    rw [List.getElem?_eq_getElem (List.idxOf_lt_length_iff.mpr hm), List.getElem_idxOf]
  have hk2 : rowKey (rs.getD (ownerF rs j) []) = rowKey (rs.getD j []) := by
    have := keysF_at hi
    rw [hk] at this
    exact (Option.some.inj this).symm
  have ho : ownerF rs (ownerF rs j) = ownerF rs j := by
    show (keysF rs).idxOf (rowKey (rs.getD (ownerF rs j) [])) = _
    rw [hk2]; rfl
  have hl : 0 < (rs.getD (ownerF rs j) []).length := by
    rw [← rowKey_length, hk2, rowKey_length, hg]
    exact List.length_pos_iff.mpr hne
  refine List.length_pos_iff.mpr (List.ne_nil_of_mem (a := (-((rs.getD (ownerF rs j) []).length : Int), (ownerF rs j : Int))) (List.mem_filterMap.mpr ⟨ownerF rs j, List.mem_range.mpr hi, ?_⟩))
  rw [if_pos ⟨ho, hl⟩]
section
variable {prog : Program} {w : World} {A : Around} {E : Value → Shared → Prop} {s : Shared} {h₀ : Heap} {L : Addr} {m : Str → Option Value} {news : List (Addr × Obj)}
theorem append_method {ax : Addr} {vs : Array Value} {e : Nat} {pl : Sem Bool} {Q : Value × List Value → Shared → Prop} (N : News h₀ L s.heap news) (hm : (ax, listOf vs e) ∈ news) (h : Q (.builtin "list.append", [.ref ax]) s) :
    wpAny (model prog w) A (getMethod (.ref ax) (Str.ofString "append") pl) Q E s :=
  getMethod_builtin ⟨_, (N _ hm).1, rfl⟩ PySem.F.plainAttrs_list PySem.F.slot_list_append PySem.F.type_list_append (fun a e => by cases e; exact ⟨_, (N _ hm).1, rfl⟩) h
end

end RQ
section OM
open PySem PySem.W PyProof.Rows PySem.Calls PySem.Spec PyProof.Rows.LCg
theorem lines_OM : True := by
  k_with_none
  k_with "om" => first | ((repeat ((with_reducible rename (@LT.lt Nat _ _ _ ∧ _) => hq9); clear hq9)); (repeat ((with_reducible rename (@Ne Nat _ _) => hq9); clear hq9)); omega) | omega
  k_with "c room" => (dsimp only [AT, Around.deeper, Around.in1]; first | ((repeat refine room_up ?_); exact Nat.lt_of_lt_of_le (by assumption) (by decide)) | walk_at "om")
  k_with "setItem ref int" => (k_here; k_dflt (refine' setAt_any (by k_asm) (by k_asm) (by k_upd) (by decide) (by decide) (by decide) ?_; k_whole); intro _ _ _; (try k_sweep))
  k_with "eval ListComp" => (k_here; k_dflt (refine comp_stop (F₀ := by k_asm) (by with_unfolding_all rfl) (by decide) (by rfl) (by decide) (by rfl) ?_))
  k_with "k_all" => (refine tail_off (by assumption) ?_; (try dsimp only); first | assumption | walk_at "om")
  k_with "subscriptTail" => (k_here; (with_reducible show wpAny _ _ (subscriptTail _ _ (Value.ref _) (Value.int _ _)) _ _ _); k_dflt (refine' row_item (by k_asm) (by with_reducible assumption) (by assumption) ?_ (by with_unfolding_all rfl); k_whole); intro _)
  k_with "exec For Name Call cons nil" => (k_here; k_dflt (refine for_stop (by k_asm) (by with_unfolding_all rfl) (by with_unfolding_all rfl) ?_))
  k_with "call builtin:len" => (k_here; (with_reducible show wpAny _ _ (call (Value.builtin "len") [Value.ref _]) _ _ _); k_dflt (refine' len_base (by k_asm) (by assumption) (by first | assumption | walk_at "om") ?_; k_whole))
  k_with "call builtin:len" => (k_here; (with_reducible show wpAny _ _ (call (Value.builtin "len") [Value.ref _]) _ _ _); k_dflt (refine' len_led (by k_asm) (by k_memK) (by first | assumption | walk_at "om") ?_; k_whole))
  k_with "subscriptTail" => (k_here; (with_reducible show wpAny _ _ (subscriptTail _ _ (Value.ref _) (Value.int _ _)) _ _ _); k_dflt (refine' item_base (by k_asm) (by assumption) (by assumption) (by first | assumption | walk_at "om") (by first | assumption | walk_at "om") ?_; k_whole))
  k_with "c unit" => (dsimp only [AT, Around.deeper, Around.in1]; unfold cLine; first | exact Nat.lt_of_lt_of_le (by assumption) (by decide) | exact Nat.lt_of_lt_of_le (Nat.add_lt_add_right (by assumption) _) (by decide) | walk_at "om")
  k_with "eval Dict nil nil" => (k_here; k_dflt (refine' newDict_L (by k_asm) (by k_asm) (TopRead.nolimit (by k_asm)) ?_; k_whole); intro _ _ _ _ _ l1 _ _ _; (replace l1 := allLt_of l1; dsimp only [AllLt] at l1); (revert l1; intro _); (try k_sweep))
  k_with "newList" => (k_here; k_dflt (refine' newList_L (by k_asm) (by k_asm) ?_; k_whole); intro _ _ _ _ l1 _; (replace l1 := allLt_of l1; dsimp only [AllLt] at l1); (revert l1; intro _); (try k_sweep))
  k_with "call builtin:len" => (k_here; (with_reducible show wpAny _ _ (call (Value.builtin "len") [Value.ref _]) _ _ _); k_dflt (refine' len_row (by k_asm) (by assumption) (by first | assumption | walk_at "om") ?_; k_whole); intro _ _)
  k_with "exec For Name Name cons cons" => (k_here; k_dflt (refine for_stop (by k_asm) (by with_unfolding_all rfl) (by with_unfolding_all rfl) ?_))
  k_with "exec For Name Name cons nil" => (k_here; k_dflt (refine for_stop (by k_asm) (by with_unfolding_all rfl) (by with_unfolding_all rfl) ?_))
  k_with "exec For Name Name" => (k_here; k_dflt (refine for_stop (by k_asm) (by with_unfolding_all rfl) (by with_unfolding_all rfl) ?_))
  k_with "exec While" => (refine stop_at ?_)
  k_with "exec While Compare" => (refine stop_at ?_)
  k_with "exec While UnaryOp" => (refine stop_at ?_)
  k_with "setItem ref int" => (k_here; k_dflt (refine' setAt_any (by k_asm) (by k_asm) (by k_upd) (by walk_at "om") (by walk_at "om") (by walk_at "om") ?_; k_whole); intro _ _ _; (try k_sweep))
  k_with "c cj" => (first | assumption | exact And.left (by assumption) | exact And.right (by assumption) | exact And.left (And.right (by assumption)) | exact And.right (And.right (by assumption)) | exact And.left (And.right (And.right (by assumption))) | exact And.right (And.right (And.right (by assumption))) | exact And.left (And.right (And.right (And.right (by assumption)))) | exact And.right (And.right (And.right (And.right (by assumption)))) | exact And.left (And.right (And.right (And.right (And.right (by assumption))))) | exact And.right (And.right (And.right (And.right (And.right (by assumption))))) | exact And.left (And.right (And.right (And.right (And.right (And.right (by assumption)))))) | exact And.right (And.right (And.right (And.right (And.right (And.right (by assumption)))))) | exact And.left (And.right (And.right (And.right (And.right (And.right (And.right (by assumption))))))) | exact And.right (And.right (And.right (And.right (And.right (And.right (And.right (by assumption))))))) | exact And.left (And.right (And.right (And.right (And.right (And.right (And.right (And.right (by assumption)))))))) | exact And.right (And.right (And.right (And.right (And.right (And.right (And.right (And.right (by assumption)))))))) | exact And.left (And.right (And.right (And.right (And.right (And.right (And.right (And.right (And.right (by assumption))))))))) | exact And.right (And.right (And.right (And.right (And.right (And.right (And.right (And.right (And.right (by assumption))))))))) | exact And.left (And.right (And.right (And.right (And.right (And.right (And.right (And.right (And.right (And.right (by assumption)))))))))) | exact And.right (And.right (And.right (And.right (And.right (And.right (And.right (And.right (And.right (And.right (by assumption)))))))))))
  k_with "k_ne" => (refine neN ?_; (try dsimp only); first | assumption | exact Ne.symm (by assumption) | exact Nat.ne_of_lt (by walk_at "c cj") | exact Nat.ne_of_gt (by walk_at "c cj") | walk_at "c cj" | exact Ne.symm (by walk_at "c cj") | walk_at "om")
  k_with "execs cons" => ((try dsimp only at *); refine execs_hid ?_; intro Pst hNx)
  k_with "close" => (refine nx_go (by assumption) ?_; clear hNx; (try clear Pst))
  k_with "close" => (refine nr_go (by assumption) ?_; (try dsimp only))
  k_with "compareOp NotEq ref ref" => (refine stop_at ?_)
  trivial
section
theorem law_e (w : World) (dp un : Nat) (fr : List Env) (gd : Option (List Code)) (s : Shared) (Q : Flow → Shared → Prop) {g : Heap} {L' : Addr} {m₁ : Str → Option Value} {tail : List (Addr × Obj)} {mean : ExcName → Option Value} {mg mb : Str → Option Value}
    (X : (KD w.params).In g) (T : Top VD (looseW VD []) mean mg mb g) (hdp : dp < 302) (hun : un < 200)
    (x dx a1 d1 a2 d2 b1 k1 c1 o1 b2 k2 c2 o2 nm lf ln bf ch d gds gm du eb1 ek1 ec1 eo1 eb2 ek2 ec2 eo2 : Addr) (p1 p2 p3 p4 q1 q2 q3 q4 ttc t1 t2 t3 t4 t5 t6 t7 t8 t9 t10 t11 t12 t13 t14 t15 t16 t17 t18 t19 : Tok) (tc : Int) (n ed : Nat)
    (F : Fr g L' s.heap (fun y => if y = Str.ofString "due" then some (.ref du) else if y = Str.ofString "packed" then some (.ref x) else if y = Str.ofString "chosen" then some (.ref ch) else if y = Str.ofString "goals" then some (.ref gds) else m₁ y))
    (N : News g L' s.heap ((du, listOf (List.toArray [.ref eb1, .ref ek1, .ref ec1, .ref eo1, .ref eb2, .ref ek2, .ref ec2, .ref eo2]) ed) :: (x, instObj 331 dx) :: (dx, tab19 w t1 t2 t3 t4 t5 t6 t7 t8 t9 t10 t11 t12 t13 t14 t15 t16 t17 t18 t19 nm tc ttc lf ln bf ch d a1 b1 k1 c1 o1 a2 b2 k2 c2 o2 gds gm n) :: tail))
    (m1 : (a1, instObj 275 d1) ∈ tail) (m2 : (d1, packD w p1 p2 p3 p4 b1 k1 c1 o1) ∈ tail) (m3 : (a2, instObj 275 d2) ∈ tail) (m4 : (d2, packD w q1 q2 q3 q4 b2 k2 c2 o2) ∈ tail)
    (nb1 nk1 nc1 no1 nb2 nk2 nc2 no2 nch ngds : List Int)
    (hT : ∀ h, Holds tail h → Four h b1 k1 c1 o1 nb1 nk1 nc1 no1 ∧ Four h b2 k2 c2 o2 nb2 nk2 nc2 no2 ∧ Four h eb1 ek1 ec1 eo1 nb1 nk1 nc1 no1 ∧ Four h eb2 ek2 ec2 eo2 nb2 nk2 nc2 no2 ∧ LstAt h ch nch ∧ LstAt h gds ngds)
    (ret : ∀ h' tk', (∀ b o, g.get? b = some o → h'.get? b = some o) → Q (.ret (.bool true)) { s with heap := h', toks := tk' }) :
    wpAny (model PySem.Challenge.rw_sf0018_01.row.prog w) ((AT dp un fr gd).deeper (envOfC (Str.ofString "law") (fnScope lawS) L' 390 (.ref 389)))
      (execs (lawRest 13) (envOfC (Str.ofString "law") (fnScope lawS) L' 390 (.ref 389))) Q (fun _ _ => False) s := by
  conv in (lawRest 13) => whnf
  conv in (occs := *) (fnScope lawS) => all_goals whnf
  revert X; k_fill; intro X
  k_steps
  with_reducible rename News _ _ _ _ => N1
  obtain ⟨z1, _, z3, _, _, _⟩ := hT _ (holds_news (News.drop1 (News.drop1 (News.drop1 (News.drop1 (News.drop1 N1))))))
  refine Stop.mk (ne_four N1 z1 z3 (by walk_at "c unit") fun N2 => ?_)
  clear N1 z1 z3
  k_steps
  with_reducible rename News _ _ _ _ => N1
  obtain ⟨_, z2, _, z4, _, _⟩ := hT _ (holds_news (News.drop1 (News.drop1 (News.drop1 (News.drop1 (News.drop1 N1))))))
  refine Stop.mk (ne_four N1 z2 z4 (by walk_at "c unit") fun N2 => ?_)
  clear N1 z2 z4
  k_steps
  with_reducible rename News _ _ _ _ => N1
  with_reducible rename Fr _ _ _ _ => F1
  obtain ⟨z1, z2, _, _, z5, z6⟩ := hT _ (holds_news (News.drop1 (News.drop1 (News.drop1 N1))))
  refine C_octets w _ _ _ _ _ _ _ ⟨X, _, _, _, T⟩ (by exact F1.keep) x dx a1 d1 a2 d2 b1 k1 c1 o1 b2 k2 c2 o2 nm lf ln bf ch d gds gm p1 p2 p3 p4 q1 q2 q3 q4 ttc t1 t2 t3 t4 t5 t6 t7 t8 t9 t10 t11 t12 t13 t14 t15 t16 t17 t18 t19 tc n ?_ nb1 z1.l1 nk1 z1.l2 nc1 z1.l3 no1 z1.l4 nb2 z2.l1 nk2 z2.l2 nc2 z2.l3 no2 z2.l4 nch z5 ngds z6 (by walk_at "c room") (by walk_at "c room") ?_
  · intro q hq
    have sub : q ∈ (du, listOf (List.toArray [.ref eb1, .ref ek1, .ref ec1, .ref eo1, .ref eb2, .ref ek2, .ref ec2, .ref eo2]) ed) :: (x, instObj 331 dx) :: (dx, tab19 w t1 t2 t3 t4 t5 t6 t7 t8 t9 t10 t11 t12 t13 t14 t15 t16 t17 t18 t19 nm tc ttc lf ln bf ch d a1 b1 k1 c1 o1 a2 b2 k2 c2 o2 gds gm n) :: tail := by
      simp only [List.mem_cons, List.not_mem_nil, or_false] at hq
      rcases hq with rfl | rfl | rfl | rfl | rfl | rfl
      · exact .tail _ (.head _)
      · exact .tail _ (.tail _ (.head _))
      · exact .tail _ (.tail _ (.tail _ m1))
      · exact .tail _ (.tail _ (.tail _ m2))
      · exact .tail _ (.tail _ (.tail _ m3))
      · exact .tail _ (.tail _ (.tail _ m4))
    exact ⟨(N1 q sub).1, (N1 q sub).2.2⟩
  clear z1 z2 z5 z6
  intro h2 tk2 tz kk
  have F2 := F1.keeps kk
  have N2 := news_kept N1 kk
  clear F1 N1
  replace N2 : News g L' h2 ((du, listOf (List.toArray [.ref eb1, .ref ek1, .ref ec1, .ref eo1, .ref eb2, .ref ek2, .ref ec2, .ref eo2]) ed) :: tail) := fun p hp => by
    rcases List.mem_cons.mp hp with rfl | hp
    · exact N2 _ (.head _)
    · exact N2 _ (.tail _ (.tail _ (.tail _ hp)))
  clear kk
  k_steps
  rename_i D h5 F5 N5 l5
  obtain ⟨ten, hten⟩ : ∃ ten, ten = [(eb1, nb1), (ek1, nk1), (ec1, nc1), (eo1, no1), (eb2, nb2), (ek2, nk2), (ec2, nc2), (eo2, no2), (ch, nch), (gds, ngds)] := ⟨_, rfl⟩
  replace N5 : News g L' h5 ((D, listOf (List.toArray (ten.map fun p => Value.ref p.1)) 0) :: tail) := fun p hp => by
    rcases List.mem_cons.mp hp with rfl | hp
    · rw [hten]; exact N5 _ (.head _)
    · exact N5 _ (.tail _ (.tail _ (.tail _ hp)))
  have hT2 : ∀ h, Holds tail h → ∀ p ∈ ten, LstAt h p.1 p.2 := by
    intro h Hh p hp
    obtain ⟨_, _, z3, z4, z5, z6⟩ := hT h Hh
    rw [hten] at hp
    rcases List.mem_append.mp (show p ∈ [(eb1, nb1), (ek1, nk1), (ec1, nc1), (eo1, no1)] ++ ([(eb2, nb2), (ek2, nk2), (ec2, nc2), (eo2, no2)] ++ [(ch, nch), (gds, ngds)]) from hp) with hp | hp
    · exact z3.all p hp
    · rcases List.mem_append.mp hp with hp | hp
      · exact z4.all p hp
      · rcases List.mem_cons.mp hp with rfl | hp
        · exact z5
        · rw [List.mem_singleton.mp hp]; exact z6
  have hoct : totF 0 [nb1, nk1, nc1, no1, nb2, nk2, nc2, no2, nch, ngds] = (octs ten).sum := by
    have := totF_sum ten 0
    rw [Int.zero_add] at this
    rw [← this, hten]; rfl
  rw [hoct]
  have hlen : ten.length = 10 := by rw [hten]; rfl
  clear hoct hT hten
  refine Stop.mk (CompSrc.ledger (by rfl) F5 N5 (ax := D) (k := 0) (.head _) (by rw [sizeLine_eq, List.size_toArray, List.length_map, hlen]; decide) ?_)
  intro gg
  refine rest_fix (news := (D, listOf (List.toArray (ten.map fun p => Value.ref p.1)) 0) :: tail) (fun i ys => IntsAre ys ((octs ten).take i)) ?_ ?_ ?_
  · exact .nil
  · rintro i ys v I oI C oC D2 m₂ h tk E' hi hIz hv hC hx F N off ne
    obtain ⟨p, hp, rfl, ht⟩ := octs_at (by rw [List.getElem?_toArray] at hv; exact hv)
    obtain ⟨vs, hl, hi2, hmx⟩ := hT2 _ (holds_news (News.drop1 (News.drop1 (News.drop1 (News.drop1 N))))) p hp
    k_steps
    refine C_loct w _ _ _ _ _ _ _ ⟨fun a o e => F.keep a o (X a o e), _, _, _, T.keeps F.keep⟩ p.1 vs p.2 hl hi2 hmx (by walk_at "c room") (by walk_at "c room") ?_
    intro h6 tk6 t6 kk
    refine Stop.mk (CompEnd.intro (F.keeps kk) (news_kept N kk) _ (fun p hp => hp) off (.inr ⟨_, .head _, rfl, _, rfl⟩) ⟨rfl, ?_⟩)
    rw [ht]
    exact ints_snoc hIz _ _
  · rintro ys hIz
    intro D2 h6 tk6 F6 N6 off
    rw [List.size_toArray, List.length_map, List.take_of_length_le (by simp [octs])] at hIz
    k_steps
    rw [beq_self_eq_true]
    with_reducible rename Fr _ _ _ _ => F9
    exact ret _ _ F9.keep
end

end OM
section ON
open PySem PySem.W PyProof.Rows PySem.Calls PySem.Spec PyProof.Rows.LCg
theorem lines_ON : True := by
  k_with_none
  k_with "om" => first | ((repeat ((with_reducible rename (@LT.lt Nat _ _ _ ∧ _) => hq9); clear hq9)); (repeat ((with_reducible rename (@Ne Nat _ _) => hq9); clear hq9)); omega) | omega
  k_with "c room" => (dsimp only [AT, Around.deeper, Around.in1]; first | ((repeat refine room_up ?_); exact Nat.lt_of_lt_of_le (by assumption) (by decide)) | walk_at "om")
  k_with "setItem ref int" => (k_here; k_dflt (refine' setAt_any (by k_asm) (by k_asm) (by k_upd) (by decide) (by decide) (by decide) ?_; k_whole); intro _ _ _; (try k_sweep))
  k_with "eval ListComp" => (k_here; k_dflt (refine comp_stop (F₀ := by k_asm) (by with_unfolding_all rfl) (by decide) (by rfl) (by decide) (by rfl) ?_))
  k_with "k_all" => (refine tail_off (by assumption) ?_; (try dsimp only); first | assumption | walk_at "om")
  k_with "subscriptTail" => (k_here; (with_reducible show wpAny _ _ (subscriptTail _ _ (Value.ref _) (Value.int _ _)) _ _ _); k_dflt (refine' row_item (by k_asm) (by with_reducible assumption) (by assumption) ?_ (by with_unfolding_all rfl); k_whole); intro _)
  k_with "exec For Name Call cons nil" => (k_here; k_dflt (refine for_stop (by k_asm) (by with_unfolding_all rfl) (by with_unfolding_all rfl) ?_))
  k_with "call builtin:len" => (k_here; (with_reducible show wpAny _ _ (call (Value.builtin "len") [Value.ref _]) _ _ _); k_dflt (refine' len_base (by k_asm) (by assumption) (by first | assumption | walk_at "om") ?_; k_whole))
  k_with "call builtin:len" => (k_here; (with_reducible show wpAny _ _ (call (Value.builtin "len") [Value.ref _]) _ _ _); k_dflt (refine' len_led (by k_asm) (by k_memK) (by first | assumption | walk_at "om") ?_; k_whole))
  k_with "subscriptTail" => (k_here; (with_reducible show wpAny _ _ (subscriptTail _ _ (Value.ref _) (Value.int _ _)) _ _ _); k_dflt (refine' item_base (by k_asm) (by assumption) (by assumption) (by first | assumption | walk_at "om") (by first | assumption | walk_at "om") ?_; k_whole))
  k_with "c unit" => (dsimp only [AT, Around.deeper, Around.in1]; unfold cLine; first | exact Nat.lt_of_lt_of_le (by assumption) (by decide) | exact Nat.lt_of_lt_of_le (Nat.add_lt_add_right (by assumption) _) (by decide) | walk_at "om")
  k_with "eval Dict nil nil" => (k_here; k_dflt (refine' newDict_L (by k_asm) (by k_asm) (TopRead.nolimit (by k_asm)) ?_; k_whole); intro _ _ _ _ _ l1 _ _ _; (replace l1 := allLt_of l1; dsimp only [AllLt] at l1); (revert l1; intro _); (try k_sweep))
  k_with "newList" => (k_here; k_dflt (refine' newList_L (by k_asm) (by k_asm) ?_; k_whole); intro _ _ _ _ l1 _; (replace l1 := allLt_of l1; dsimp only [AllLt] at l1); (revert l1; intro _); (try k_sweep))
  k_with "call builtin:len" => (k_here; (with_reducible show wpAny _ _ (call (Value.builtin "len") [Value.ref _]) _ _ _); k_dflt (refine' len_row (by k_asm) (by assumption) (by first | assumption | walk_at "om") ?_; k_whole); intro _ _)
  k_with "exec For Name Name cons cons" => (k_here; k_dflt (refine for_stop (by k_asm) (by with_unfolding_all rfl) (by with_unfolding_all rfl) ?_))
  k_with "exec For Name Name cons nil" => (k_here; k_dflt (refine for_stop (by k_asm) (by with_unfolding_all rfl) (by with_unfolding_all rfl) ?_))
  k_with "exec For Name Name" => (k_here; k_dflt (refine for_stop (by k_asm) (by with_unfolding_all rfl) (by with_unfolding_all rfl) ?_))
  k_with "exec While" => (refine stop_at ?_)
  k_with "exec While Compare" => (refine stop_at ?_)
  k_with "exec While UnaryOp" => (refine stop_at ?_)
  k_with "setItem ref int" => (k_here; k_dflt (refine' setAt_any (by k_asm) (by k_asm) (by k_upd) (by walk_at "om") (by walk_at "om") (by walk_at "om") ?_; k_whole); intro _ _ _; (try k_sweep))
  k_with "c cj" => (first | assumption | exact And.left (by assumption) | exact And.right (by assumption) | exact And.left (And.right (by assumption)) | exact And.right (And.right (by assumption)) | exact And.left (And.right (And.right (by assumption))) | exact And.right (And.right (And.right (by assumption))) | exact And.left (And.right (And.right (And.right (by assumption)))) | exact And.right (And.right (And.right (And.right (by assumption)))) | exact And.left (And.right (And.right (And.right (And.right (by assumption))))) | exact And.right (And.right (And.right (And.right (And.right (by assumption))))) | exact And.left (And.right (And.right (And.right (And.right (And.right (by assumption)))))) | exact And.right (And.right (And.right (And.right (And.right (And.right (by assumption)))))) | exact And.left (And.right (And.right (And.right (And.right (And.right (And.right (by assumption))))))) | exact And.right (And.right (And.right (And.right (And.right (And.right (And.right (by assumption))))))) | exact And.left (And.right (And.right (And.right (And.right (And.right (And.right (And.right (by assumption)))))))) | exact And.right (And.right (And.right (And.right (And.right (And.right (And.right (And.right (by assumption)))))))) | exact And.left (And.right (And.right (And.right (And.right (And.right (And.right (And.right (And.right (by assumption))))))))) | exact And.right (And.right (And.right (And.right (And.right (And.right (And.right (And.right (And.right (by assumption))))))))) | exact And.left (And.right (And.right (And.right (And.right (And.right (And.right (And.right (And.right (And.right (by assumption)))))))))) | exact And.right (And.right (And.right (And.right (And.right (And.right (And.right (And.right (And.right (And.right (by assumption)))))))))))
  k_with "k_ne" => (refine neN ?_; (try dsimp only); first | assumption | exact Ne.symm (by assumption) | exact Nat.ne_of_lt (by walk_at "c cj") | exact Nat.ne_of_gt (by walk_at "c cj") | walk_at "c cj" | exact Ne.symm (by walk_at "c cj") | walk_at "om")
  k_with "execs cons" => ((try dsimp only at *); refine execs_hid ?_; intro Pst hNx)
  k_with "close" => (refine nx_go (by assumption) ?_; clear hNx; (try clear Pst))
  k_with "close" => (refine nr_go (by assumption) ?_; (try dsimp only))
  k_with "call ref" => (refine stop_at ?_)
  k_with "execs cons" => ((with_reducible show wpAny _ _ (PySem.execs (PySem.Stmt.If _ _ _ _ :: _) _) _ _ _); refine stop_at ?_)
  trivial
section
theorem law_d (w : World) (dp un : Nat) (fr : List Env) (gd : Option (List Code)) (s : Shared) (Q : Flow → Shared → Prop) {g : Heap} {L' : Addr} {m₁ : Str → Option Value} {tail : List (Addr × Obj)} {mean : ExcName → Option Value} {mg mb : Str → Option Value}
    (X : (KD w.params).In g) (T : Top VD (looseW VD []) mean mg mb g) (hdp : dp < 302) (hun : un < 200)
    (S B fa nm lf ln bf ch gds gm : Addr) (ttc : Tok) (tc es el en : Nat) (svs lvs nvs : List Value) (rs ls : Rows) (nch ngds : List Int)
    (F : Fr g L' s.heap (fun y => if y = Str.ofString "states" then some (.ref S) else if y = Str.ofString "leads" then some (.ref B) else if y = Str.ofString "frame" then some (.ref fa) else if y = Str.ofString "chosen" then some (.ref ch) else if y = Str.ofString "goals" then some (.ref gds) else if y = Str.ofString "seen" then some (.ref gm) else m₁ y))
    (N : News g L' s.heap tail)
    (mS : (S, listOf (List.toArray svs) es) ∈ tail) (mB : (B, listOf (List.toArray lvs) el) ∈ tail) (mf : (fa, ({ cls := Value.type "tuple", data := Data.seq #[Value.ref nm, Value.int (tc : Int) ttc, Value.ref lf, Value.ref ln, Value.ref bf] } : Obj)) ∈ tail)
    (mn : (nm, listOf (List.toArray nvs) en) ∈ tail) (hst : ∀ v ∈ nvs, ∃ z t, v = Value.str z t) (htc : tc ≤ nvs.length) (hmx : nvs.length ≤ 1000) (hnf : @Ne Nat nm fa)
    (hT : ∀ h, Holds tail h → RowsIn PySem.Challenge.rw_sf0018_01.row.prog w h svs rs ∧ RowsIn PySem.Challenge.rw_sf0018_01.row.prog w h lvs ls ∧ LstAt h ch nch ∧ LstAt h gds ngds)
    (ok1 : ∀ r ∈ rs, RowOk r) (mx1 : rs.length ≤ 900) (key1 : ∀ r ∈ rs, ∀ p ∈ r, 0 ≤ p.1 ∧ p.1 ≤ 1000) (lo1 : 1 ≤ (keyedF rs).length) (hi1 : (keyedF rs).length ≤ 3)
    (ok2 : ∀ r ∈ ls, RowOk r) (mx2 : ls.length ≤ 900) (key2 : ∀ r ∈ ls, ∀ p ∈ r, 0 ≤ p.1 ∧ p.1 ≤ 1000) (lo2 : 1 ≤ (keyedF ls).length) (hi2 : (keyedF ls).length ≤ 3)
    (ret : ∀ h' tk', (∀ b o, g.get? b = some o → h'.get? b = some o) → Q (.ret (.bool true)) { s with heap := h', toks := tk' }) :
    wpAny (model PySem.Challenge.rw_sf0018_01.row.prog w) ((AT dp un fr gd).deeper (envOfC (Str.ofString "law") (fnScope lawS) L' 390 (.ref 389)))
      (execs (lawRest 11) (envOfC (Str.ofString "law") (fnScope lawS) L' 390 (.ref 389))) Q (fun _ _ => False) s := by
  conv in (lawRest 11) => whnf
  conv in (occs := *) (fnScope lawS) => all_goals whnf
  revert X; k_fill; intro X
  k_steps
  have hR := hT _ (holds_news N)
  refine Stop.mk (use_packed F N X T (News.isList N mS) hR.1 ok1 mx1 key1 lo1 hi1 (by walk_at "c room") (by walk_at "c room") ?_)
  intro a1 d1 b1 k1 c1 o1 p1 p2 p3 p4 t1 h1 tk1 F1 N1 s1 H1 lt1 ne1
  clear F N hR
  k_steps
  have hR := hT h1 fun p hp => (N1 p (.tail _ (.tail _ (s1 p hp)))).1
  refine Stop.mk (use_packed F1 N1 X T (News.isList N1 (.tail _ (.tail _ (s1 _ mB)))) hR.2.1 ok2 mx2 key2 lo2 hi2 (by walk_at "c room") (by walk_at "c room") ?_)
  intro a2 d2 b2 k2 c2 o2 q1 q2 q3 q4 t2 h2 tk2 F2 N2 s2 H2 lt2 ne2
  clear F1 N1 hR
  have sub2 : ∀ p ∈ tail, p ∈ t2 := fun p hp => s2 p (.tail _ (.tail _ (s1 p hp)))
  k_steps
  refine Stop.mk (use_ptables w _ _ _ _ _ _ _ F2 N2 X T (by walk_at "c room") (by walk_at "c room") fa ch a1 a2 gds gm d1 d2 b1 k1 c1 o1 b2 k2 c2 o2 nm lf ln bf p1 p2 p3 p4 q1 q2 q3 q4 ttc nvs tc
    ⟨lt1, lt2, (ne2 _ (.head _)).1, (ne2 _ (.tail _ (.head _))).1, (ne2 _ (.head _)).2, (ne2 _ (.tail _ (.head _))).2, hnf, (ne1 _ mn).1, (ne1 _ mn).2, (ne2 _ (.tail _ (.tail _ (s1 _ mn)))).1, (ne2 _ (.tail _ (.tail _ (s1 _ mn)))).2⟩
    (.tail _ (.tail _ (sub2 _ mf))) (.tail _ (.tail _ (s2 _ (.head _)))) (.tail _ (.tail _ (s2 _ (.tail _ (.head _))))) (.head _) (.tail _ (.head _)) en (.tail _ (.tail _ (sub2 _ mn))) hst htc hmx ?_)
  intro x dx u1 u2 u3 u4 u5 u6 u7 u8 u9 u10 u11 u12 u13 u14 u15 u16 u17 u18 u19 d n h3 tk3 F3 N3 l3 l4
  clear F2 N2 lt1 lt2 ne1 ne2 hst htc hmx hnf l3 l4
  k_steps
  with_reducible rename News _ _ _ _ => N4
  with_reducible rename Fr _ _ _ _ => F4
  obtain ⟨t3, ht3⟩ : ∃ t3, t3 = (x, instObj 331 dx) :: (dx, tab19 w u1 u2 u3 u4 u5 u6 u7 u8 u9 u10 u11 u12 u13 u14 u15 u16 u17 u18 u19 nm (tc : Int) ttc lf ln bf ch d a1 b1 k1 c1 o1 a2 b2 k2 c2 o2 gds gm n) :: (a2, instObj 275 d2) :: (d2, packD w q1 q2 q3 q4 b2 k2 c2 o2) :: t2 := ⟨_, rfl⟩
  rw [← ht3] at N4
  have sub3 : ∀ p ∈ t2, p ∈ t3 := fun p hp => by rw [ht3]; exact .tail _ (.tail _ (.tail _ (.tail _ hp)))
  have hR := hT _ fun p hp => (N4 p (sub3 p (sub2 p hp))).1
  refine Stop.mk (use_laid F4 N4 X T (sub3 _ (sub2 _ mS)) hR.1 ok1 mx1 key1 lo1 hi1 (by walk_at "c room") (by walk_at "c room") ?_)
  intro r1 eb1 ek1 ec1 eo1 e1 t4 h5 tk5 F5 N5 s5 H5
  clear F4 N4 hR
  k_steps
  have sub5 : ∀ p ∈ t2, p ∈ t4 := fun p hp => s5 p (sub3 p hp)
  have hR := hT h5 fun p hp => (N5 p (.tail _ (sub5 p (sub2 p hp)))).1
  refine Stop.mk (use_laid F5 N5 X T (.tail _ (sub5 _ (sub2 _ mB))) hR.2.1 ok2 mx2 key2 lo2 hi2 (by walk_at "c room") (by walk_at "c room") ?_)
  intro r2 eb2 ek2 ec2 eo2 e2 t5 h6 tk6 F6 N6 s6 H6
  clear F5 N5 hR
  replace N6 : News g L' h6 ((r2, listOf #[.ref eb2, .ref ek2, .ref ec2, .ref eo2] e2) :: (r1, listOf #[.ref eb1, .ref ek1, .ref ec1, .ref eo1] e1) :: t5) := fun p hp => by
    rcases List.mem_cons.mp hp with rfl | hp
    · exact N6 _ (.head _)
    · rcases List.mem_cons.mp hp with rfl | hp
      · exact N6 _ (.tail _ (s6 _ (.head _)))
      · exact N6 _ (.tail _ hp)
  k_steps
  with_reducible rename News _ _ _ _ => N7
  with_reducible rename Fr _ _ _ _ => F7
  rename_i du _ _ _
  have mx : ∀ p ∈ t3, p ∈ t5 := fun p hp => s6 p (.tail _ (s5 p hp))
  refine Stop.mk (law_e w dp un fr gd _ Q X T hdp hun x dx a1 d1 a2 d2 b1 k1 c1 o1 b2 k2 c2 o2 nm lf ln bf ch d gds gm du eb1 ek1 ec1 eo1 eb2 ek2 ec2 eo2 p1 p2 p3 p4 q1 q2 q3 q4 ttc u1 u2 u3 u4 u5 u6 u7 u8 u9 u10 u11 u12 u13 u14 u15 u16 u17 u18 u19 tc n 0 (fr_eq F7 (pull4 (by rfl) (by rfl) (by rfl) (by rfl))) (tail := t5) ?_ (mx _ (sub3 _ (s2 _ (.head _)))) (mx _ (sub3 _ (s2 _ (.tail _ (.head _))))) (mx _ ?_) (mx _ ?_) (basesF rs) (packF rs).2.1 (packF rs).2.2 (ownersF rs) (basesF ls) (packF ls).2.1 (packF ls).2.2 (ownersF ls) nch ngds ?_ (fun h' tk' kk => ret h' tk' kk))
  · intro p hp
    rcases List.mem_cons.mp hp with rfl | hp
    · exact N7 _ (.head _)
    · rcases List.mem_cons.mp hp with rfl | hp
      · exact N7 _ (.tail _ (.tail _ (.tail _ (mx _ (by rw [ht3]; exact .head _)))))
      · rcases List.mem_cons.mp hp with rfl | hp
        · exact N7 _ (.tail _ (.tail _ (.tail _ (mx _ (by rw [ht3]; exact .tail _ (.head _))))))
        · exact N7 _ (.tail _ (.tail _ (.tail _ hp)))
  · rw [ht3]; exact .tail _ (.tail _ (.head _))
  · rw [ht3]; exact .tail _ (.tail _ (.tail _ (.head _)))
  · intro h Hh
    have z := hT h fun p hp => Hh p (mx p (sub3 p (sub2 p hp)))
    exact ⟨H1 h fun p hp => Hh p (mx p (sub3 p (s2 p (.tail _ (.tail _ hp))))), H2 h fun p hp => Hh p (mx p (sub3 p hp)), H5 h fun p hp => Hh p (s6 p (.tail _ hp)), H6 h Hh, z.2.2.1, z.2.2.2⟩
end

end ON
section OO
open PySem PySem.W PyProof.Rows PySem.Calls PySem.Spec PyProof.Rows.LCg
theorem lines_OO : True := by
  k_with_none
  k_with "om" => first | ((repeat ((with_reducible rename (@LT.lt Nat _ _ _ ∧ _) => hq9); clear hq9)); (repeat ((with_reducible rename (@Ne Nat _ _) => hq9); clear hq9)); omega) | omega
  k_with "c room" => (dsimp only [AT, Around.deeper, Around.in1]; first | ((repeat refine room_up ?_); exact Nat.lt_of_lt_of_le (by assumption) (by decide)) | walk_at "om")
  k_with "setItem ref int" => (k_here; k_dflt (refine' setAt_any (by k_asm) (by k_asm) (by k_upd) (by decide) (by decide) (by decide) ?_; k_whole); intro _ _ _; (try k_sweep))
  k_with "eval ListComp" => (k_here; k_dflt (refine comp_stop (F₀ := by k_asm) (by with_unfolding_all rfl) (by decide) (by rfl) (by decide) (by rfl) ?_))
  k_with "k_all" => (refine tail_off (by assumption) ?_; (try dsimp only); first | assumption | walk_at "om")
  k_with "subscriptTail" => (k_here; (with_reducible show wpAny _ _ (subscriptTail _ _ (Value.ref _) (Value.int _ _)) _ _ _); k_dflt (refine' row_item (by k_asm) (by with_reducible assumption) (by assumption) ?_ (by with_unfolding_all rfl); k_whole); intro _)
  k_with "exec For Name Call cons nil" => (k_here; k_dflt (refine for_stop (by k_asm) (by with_unfolding_all rfl) (by with_unfolding_all rfl) ?_))
  k_with "call builtin:len" => (k_here; (with_reducible show wpAny _ _ (call (Value.builtin "len") [Value.ref _]) _ _ _); k_dflt (refine' len_base (by k_asm) (by assumption) (by first | assumption | walk_at "om") ?_; k_whole))
  k_with "call builtin:len" => (k_here; (with_reducible show wpAny _ _ (call (Value.builtin "len") [Value.ref _]) _ _ _); k_dflt (refine' len_led (by k_asm) (by k_memK) (by first | assumption | walk_at "om") ?_; k_whole))
  k_with "subscriptTail" => (k_here; (with_reducible show wpAny _ _ (subscriptTail _ _ (Value.ref _) (Value.int _ _)) _ _ _); k_dflt (refine' item_base (by k_asm) (by assumption) (by assumption) (by first | assumption | walk_at "om") (by first | assumption | walk_at "om") ?_; k_whole))
  k_with "c unit" => (dsimp only [AT, Around.deeper, Around.in1]; unfold cLine; first | exact Nat.lt_of_lt_of_le (by assumption) (by decide) | exact Nat.lt_of_lt_of_le (Nat.add_lt_add_right (by assumption) _) (by decide) | walk_at "om")
  k_with "eval Dict nil nil" => (k_here; k_dflt (refine' newDict_L (by k_asm) (by k_asm) (TopRead.nolimit (by k_asm)) ?_; k_whole); intro _ _ _ _ _ l1 _ _ _; (replace l1 := allLt_of l1; dsimp only [AllLt] at l1); (revert l1; intro _); (try k_sweep))
  k_with "newList" => (k_here; k_dflt (refine' newList_L (by k_asm) (by k_asm) ?_; k_whole); intro _ _ _ _ l1 _; (replace l1 := allLt_of l1; dsimp only [AllLt] at l1); (revert l1; intro _); (try k_sweep))
  k_with "call builtin:len" => (k_here; (with_reducible show wpAny _ _ (call (Value.builtin "len") [Value.ref _]) _ _ _); k_dflt (refine' len_row (by k_asm) (by assumption) (by first | assumption | walk_at "om") ?_; k_whole); intro _ _)
  k_with "exec For Name Name cons cons" => (k_here; k_dflt (refine for_stop (by k_asm) (by with_unfolding_all rfl) (by with_unfolding_all rfl) ?_))
  k_with "exec For Name Name cons nil" => (k_here; k_dflt (refine for_stop (by k_asm) (by with_unfolding_all rfl) (by with_unfolding_all rfl) ?_))
  k_with "exec For Name Name" => (k_here; k_dflt (refine for_stop (by k_asm) (by with_unfolding_all rfl) (by with_unfolding_all rfl) ?_))
  k_with "exec While" => (refine stop_at ?_)
  k_with "exec While Compare" => (refine stop_at ?_)
  k_with "exec While UnaryOp" => (refine stop_at ?_)
  k_with "setItem ref int" => (k_here; k_dflt (refine' setAt_any (by k_asm) (by k_asm) (by k_upd) (by walk_at "om") (by walk_at "om") (by walk_at "om") ?_; k_whole); intro _ _ _; (try k_sweep))
  k_with "c cj" => (first | assumption | exact And.left (by assumption) | exact And.right (by assumption) | exact And.left (And.right (by assumption)) | exact And.right (And.right (by assumption)) | exact And.left (And.right (And.right (by assumption))) | exact And.right (And.right (And.right (by assumption))) | exact And.left (And.right (And.right (And.right (by assumption)))) | exact And.right (And.right (And.right (And.right (by assumption)))) | exact And.left (And.right (And.right (And.right (And.right (by assumption))))) | exact And.right (And.right (And.right (And.right (And.right (by assumption))))) | exact And.left (And.right (And.right (And.right (And.right (And.right (by assumption)))))) | exact And.right (And.right (And.right (And.right (And.right (And.right (by assumption)))))) | exact And.left (And.right (And.right (And.right (And.right (And.right (And.right (by assumption))))))) | exact And.right (And.right (And.right (And.right (And.right (And.right (And.right (by assumption))))))) | exact And.left (And.right (And.right (And.right (And.right (And.right (And.right (And.right (by assumption)))))))) | exact And.right (And.right (And.right (And.right (And.right (And.right (And.right (And.right (by assumption)))))))) | exact And.left (And.right (And.right (And.right (And.right (And.right (And.right (And.right (And.right (by assumption))))))))) | exact And.right (And.right (And.right (And.right (And.right (And.right (And.right (And.right (And.right (by assumption))))))))) | exact And.left (And.right (And.right (And.right (And.right (And.right (And.right (And.right (And.right (And.right (by assumption)))))))))) | exact And.right (And.right (And.right (And.right (And.right (And.right (And.right (And.right (And.right (And.right (by assumption)))))))))))
  k_with "k_ne" => (refine neN ?_; (try dsimp only); first | assumption | exact Ne.symm (by assumption) | exact Nat.ne_of_lt (by walk_at "c cj") | exact Nat.ne_of_gt (by walk_at "c cj") | walk_at "c cj" | exact Ne.symm (by walk_at "c cj") | walk_at "om")
  k_with "execs cons" => ((try dsimp only at *); refine execs_hid ?_; intro Pst hNx)
  k_with "close" => (refine nx_go (by assumption) ?_; clear hNx; (try clear Pst))
  k_with "close" => (refine nr_go (by assumption) ?_; (try dsimp only))
  k_with "k_all" => assumption
  k_with "call ref" => (k_here; k_dflt (refine' use_worth (by k_asm) (by k_asm) (by k_asm) (by k_asm) (by assumption) (by k_updF) (by (intro _; k_updF)) (by assumption) (by first | assumption | walk_at "om") (by walk_at "c room") (by walk_at "c room") ?_; k_whole); intro _ _ _ _ _ _ _ _ _; (try k_sweep))
  k_with "binaryOp Add ref ref" => (refine stop_at ?_)
  k_with "call builtin:len" => (k_here; (with_reducible show wpAny _ _ (call (Value.builtin "len") [Value.ref _]) _ _ _); k_dflt (refine' len_led (by k_asm) (by ((repeat refine List.mem_cons_of_mem _ ?_); assumption)) (by first | assumption | walk_at "om") ?_; k_whole))
  k_with "execs cons Assign cons" => ((with_reducible show wpAny _ _ (PySem.execs (PySem.Stmt.Assign [PySem.Expr.Name _ _] (PySem.Expr.Call _ _ _ _) _ :: _) _) _ _ _); refine stop_at ?_)
  k_with "exec Assign cons ListComp" => (k_here; k_dflt (refine comp_stopA (F₀ := by k_asm) (by rfl) (by with_unfolding_all rfl) (by with_unfolding_all rfl) (by decide) (by rfl) (by decide) (by rfl) (by rfl) (by rfl) ?_))
  k_with "eval ListComp" => (k_here; (with_reducible show wpAny _ _ (eval (Expr.ListComp (Expr.BinOp _ _ _ _) _ _ _) _) _ _ _); k_dflt (refine dled_comp (by k_asm) (by with_unfolding_all rfl) (by decide) (by rfl) (by decide) (by rfl) ?_))
  k_with "binaryOp Pow int int" => (k_here; refine pow_int_small (by walk_at "om") (by walk_at "om") (by decide) ?_)
  trivial
section
theorem law_c2 (w : World) (dp un : Nat) (fr : List Env) (gd : Option (List Code)) (s : Shared) (Q : Flow → Shared → Prop) {g : Heap} {L' : Addr} {m₁ : Str → Option Value} {tail : List (Addr × Obj)} {mean : ExcName → Option Value} {mg mb : Str → Option Value}
    (X : (KD w.params).In g) (T : Top VD (looseW VD []) mean mg mb g) (hdp : dp < 302) (hun : un < 200)
    (t c S B fa nm lf ln bf : Addr) (ttc : Tok) (tc es el en n : Nat) (e1 e2 oT : Obj) (svs lvs nvs : List Value) (rs ls : Rows)
    (F : Fr g L' s.heap (fun y => if y = Str.ofString "frame" then some (.ref fa) else if y = Str.ofString "leads" then some (.ref B) else if y = Str.ofString "states" then some (.ref S) else m₁ y))
    (N : News g L' s.heap ((t, e1) :: (c, e2) :: (L' + 1, oT) :: tail)) (dT : oT.data = .cell (some (.ref t))) (TR : Trug c e1 e2 n) (hn : n < 500) (lct : @LT.lt Nat _ c t) (n1 : @Ne Nat t (L' + 1)) (n2 : @Ne Nat c (L' + 1))
    (ot : ∀ p ∈ tail, p.1 ≠ t) (oc : ∀ p ∈ tail, p.1 ≠ c)
    (mS : (S, listOf (List.toArray svs) es) ∈ tail) (mB : (B, listOf (List.toArray lvs) el) ∈ tail) (mf : (fa, ({ cls := Value.type "tuple", data := Data.seq #[Value.ref nm, Value.int (tc : Int) ttc, Value.ref lf, Value.ref ln, Value.ref bf] } : Obj)) ∈ tail)
    (mn : (nm, listOf (List.toArray nvs) en) ∈ tail) (hst : ∀ v ∈ nvs, ∃ z t, v = Value.str z t) (htc : tc ≤ nvs.length) (hmx : nvs.length ≤ 1000) (hnf : @Ne Nat nm fa)
    (hT : ∀ h, Holds tail h → RowsIn PySem.Challenge.rw_sf0018_01.row.prog w h svs rs) (hL : RowsLed PySem.Challenge.rw_sf0018_01.row.prog w tail lvs ls)
    (fit1 : RowsFit rs 260 3) (fit2 : RowsFit ls 2 2) (lo1 : 1 ≤ (keyedF rs).length) (hi1 : (keyedF rs).length ≤ 3) (lo2 : 1 ≤ (keyedF ls).length) (hi2 : (keyedF ls).length ≤ 3) 
    (ret : ∀ h' tk', (∀ b o, g.get? b = some o → h'.get? b = some o) → Q (.ret (.bool true)) { s with heap := h', toks := tk' }) :
    wpAny (model PySem.Challenge.rw_sf0018_01.row.prog w) ((AT dp un fr gd).deeper (envOfC (Str.ofString "law") (fnScope lawS) L' 390 (.ref 389)))
      (execs (lawRest 9) (envOfC (Str.ofString "law") (fnScope lawS) L' 390 (.ref 389))) Q (fun _ _ => False) s := by
  conv in (lawRest 9) => whnf
  conv in (occs := *) (fnScope lawS) => all_goals whnf
  revert X; k_fill; intro X
  have hrl := fit1.len
  have hlll := fit2.len
  have hsl : svs.length = rs.length := (hT _ fun p hp => (N p (.tail _ (.tail _ (.tail _ hp)))).1).length
  have hll : lvs.length = ls.length := (hL.rows fun p hp => (N p (.tail _ (.tail _ (.tail _ hp)))).1).length
  k_steps
  with_reducible rename News _ _ _ _ => N1
  with_reducible rename Fr _ _ _ _ => F1
  with_reducible rename Trug _ _ _ _ => TR1
  with_reducible rename IntsAre _ _ => i1
  rename_i k1 sz1 ez1 ez2 ez3 _ r1 _ _ _ o1 o2 _ _ _ _
  refine Stop.mk (add_ints F1 N1 (.tail _ (.head _)) (.head _) i1 (.cons _ _ .nil) (by simp only [List.length_cons, List.length_nil]; walk_at "om") ?_)
  intro Ch us nch h3 F3 N3 l3 hch hchl
  replace N3 : News g L' h3 ((Ch, listOf (List.toArray us) 0) :: (t, o1) :: (c, o2) :: (L' + 1, oT) :: tail) := fun p hp => by
    rcases List.mem_cons.mp hp with rfl | hp
    · exact N3 _ (.head _)
    · exact N3 _ (.tail _ (.tail _ (.tail _ (.tail _ hp))))
  have tC : @LT.lt Nat _ t Ch := l3 (t, o1) (.tail _ (.tail _ (.tail _ (.head _))))
  have cC : @LT.lt Nat _ c Ch := l3 (c, o2) (.tail _ (.tail _ (.tail _ (.tail _ (.head _)))))
  clear F1 N1 l3 i1 TR ez1 ez2 ez3 sz1
  k_steps
  refine Stop.mk (CompSrc.ledger (by rfl) F3 N3 (ax := B) (its := lvs.toArray) (k := el) (.tail _ (.tail _ (.tail _ (.tail _ mB)))) (by rw [sizeLine_eq, List.size_toArray]; walk_at "om") ?_)
  intro gg
  refine rest_ind (fun i ys nw => ∃ o1 o2, nw = (Ch, listOf (List.toArray us) 0) :: (t, o1) :: (c, o2) :: (L' + 1, oT) :: tail ∧ Trug c o1 o2 (n + 1 + i) ∧ ys.length = i ∧ ∃ zs, IntsAre ys zs) ?_ ?_ ?_
  · exact ⟨_, _, rfl, TR1, rfl, [], .nil⟩
  · intro i ys nw v I oI C oC D m₂ h tk E' hi hJ1 hv hC hx F9 N9 off ne
    refine hideB ?_
    intro Post1 fin1 P ret1
    refine exE2 hJ1 ?_
    clear hJ1
    intro o1 o2 hE
    refine anE4 hE ?_
    clear hE
    intro hq1 TR2 hyl hq2
    subst hq1
    obtain ⟨zs, hz⟩ := hq2
    refine ret1 ?_
    clear ret1 P
    have off0 := off
    simp only [Off3] at off
    rw [List.size_toArray] at hi
    have q0 : @Ne Nat t Ch := Nat.ne_of_lt tC
    have q1 : @Ne Nat t I := off.2.1.1
    have q2 : @Ne Nat t C := off.2.1.2.1
    have q3 : @Ne Nat t D := off.2.1.2.2
    have q4 : @Ne Nat c I := off.2.2.1.1
    have q5 : @Ne Nat c C := off.2.2.1.2.1
    have q6 : @Ne Nat c D := off.2.2.1.2.2
    have q7 : @Ne Nat c Ch := Nat.ne_of_lt cC
    have hn3 : n + 1 + i < 1000 := by clear tC cC hrl hsl off q0 q1 q2 q3 q4 q5 q6 q7; walk_at "om"
    clear tC cC
    k_steps
    with_reducible rename News _ _ _ _ => N5
    with_reducible rename Fr _ _ _ _ => F5
    with_reducible rename Trug _ _ _ _ => TR5
    refine fin1 _ _ ?_
    exact Stop.mk (CompEnd.intro F5 N5 _ (fun p hp => hp) off0 (.inr ⟨_, .tail _ (.tail _ (.tail _ (.tail _ mB))), rfl, _, rfl⟩) (exI2 _ _ ⟨rfl, TR5, by rw [List.length_append, hyl]; rfl, _, ints_snoc hz _ _⟩))
  · intro ys nw hJ1
    refine hide ?_
    intro P ret1
    refine exE2 hJ1 ?_
    clear hJ1
    intro o3 o4 hE
    refine anE4 hE ?_
    clear hE
    intro hq1 TR2 hyl hq2
    subst hq1
    obtain ⟨zs, hz⟩ := hq2
    refine ret1 ?_
    clear ret1 P
    intro D h tk F9 N9 off
    k_steps
    with_reducible rename News _ _ _ _ => N5
    with_reducible rename Fr _ _ _ _ => F5
    rename_i h5
    obtain ⟨t2, ht2⟩ : ∃ t2, t2 = (D, lst ys) :: (Ch, listOf (List.toArray us) 0) :: tail := ⟨_, rfl⟩
    have sub2 : ∀ p ∈ tail, p ∈ t2 := fun p hp => by rw [ht2]; exact .tail _ (.tail _ hp)
    replace N5 : News g L' h5 t2 := fun p hp => by
      rw [ht2] at hp
      rcases List.mem_cons.mp hp with rfl | hp
      · exact N5 _ (.tail _ (.head _))
      · rcases List.mem_cons.mp hp with rfl | hp
        · exact N5 _ (.tail _ (.tail _ (.head _)))
        · exact N5 _ (.tail _ (.tail _ (.tail _ (.tail _ (.tail _ (.tail _ hp))))))
    clear TR1 TR2 tC cC off ot oc
    refine Stop.mk (CompSrc.ledger (by rfl) F5 N5 (ax := B) (its := lvs.toArray) (k := el) (sub2 _ mB) (by rw [sizeLine_eq, List.size_toArray]; walk_at "om") ?_)
    intro gg2
    refine rest_ind (fun i ys nw => nw = t2) rfl ?_ ?_
    · rintro i ws nw v I oI C oC D2 m₂ h tk E' hi rfl hv hC hx F9 N9 off ne
      obtain ⟨a, o, row, rfl, ha, hRow, hrow⟩ := hL.at i v (by simpa using hv)
      have hrk := fit2.key row hrow
      have hrl := (fit2.ok row hrow).2
      k_steps
      have off0 := off
      refine Stop.mk ⟨a, o, row, _, rfl, rfl, F9, N9, .tail _ (.tail _ (.tail _ (sub2 _ ha))), hRow, by rw [sizeLine_eq]; walk_at "om", fun g2 => ?_⟩
      refine rest_fix (news := (I, oI) :: (C, oC) :: (D2, lst ws) :: nw) (fun i ys => ∃ zs, IntsAre ys zs) ⟨[], .nil⟩ ?_ ?_
      · rintro i2 xs v I2 oI2 C2 oC2 D3 m₃ h6 tk6 E2 hi2 ⟨zs, hz⟩ ⟨k, tk, hk, rfl⟩ hC2 hx2 F10 N10 off2 ne2
        obtain ⟨p, hp, hpk⟩ := List.mem_map.mp (List.mem_of_getElem? hk)
        obtain ⟨hk0, hk1⟩ := hrk p hp
        rw [hpk] at hk0 hk1
        k_steps
        exact Stop.mk (CompEnd.intro F10 N10 _ (fun p hp => hp) off2 (.tail _ (.tail _ (.tail _ (sub2 _ ha)))) ⟨rfl, _, ints_snoc hz _ _⟩)
      · rintro xs ⟨zs, hz⟩
        intro D3 h6 tk6 F10 N10 off2
        k_steps
        with_reducible rename News _ _ _ _ => N11
        with_reducible rename Fr _ _ _ _ => F11
        exact Stop.mk (CompEnd.intro F11 N11 _ (fun p hp => .tail _ hp) off0 (.inr ⟨_, sub2 _ mB, rfl, _, rfl⟩) rfl)
    · rintro ws nw rfl
      intro D2 h tk F9 N9 off
      k_steps
      have sub3 : ∀ p ∈ tail, p ∈ (D2, lst ws) :: nw := fun p hp => .tail _ (sub2 p hp)
      exact Stop.mk (law_d w dp un fr gd _ Q X T hdp hun S B fa nm lf ln bf Ch D D2 ttc tc es el en svs lvs nvs rs ls nch zs (fr_eq F9 (pull6 (by rfl) (by rfl) (by rfl) (by rfl) (by rfl) (by rfl))) N9 (sub3 _ mS) (sub3 _ mB) (sub3 _ mf) (sub3 _ mn) hst htc hmx hnf
        (fun h Hh => ⟨hT h fun p hp => Hh p (sub3 p hp), hL.rows fun p hp => Hh p (sub3 p hp), ⟨us, ⟨_, Hh (Ch, listOf (List.toArray us) 0) (.tail _ (by rw [ht2]; exact .tail _ (.head _))), rfl, _, rfl⟩, hch, by walk_at "om"⟩,
          ⟨ys, ⟨_, Hh (D, lst ys) (.tail _ (by rw [ht2]; exact .head _)), rfl, _, rfl⟩, hz, by rw [← hz.length, hyl, List.size_toArray]; walk_at "om"⟩⟩)
        fit1.ok (by walk_at "om") (fun r hr p hp => ⟨(fit1.key r hr p hp).1, by have := (fit1.key r hr p hp).2; walk_at "om"⟩) lo1 hi1 fit2.ok (by walk_at "om") (fun r hr p hp => ⟨(fit2.key r hr p hp).1, by have := (fit2.key r hr p hp).2; walk_at "om"⟩) lo2 hi2 (fun h' tk' kk => ret h' tk' kk))
end

end OO
section OP
open PySem PySem.W PyProof.Rows PySem.Calls PySem.Spec PyProof.Rows.LCg
theorem lines_OP : True := by
  k_with_none
  k_with "om" => first | ((repeat ((with_reducible rename (@LT.lt Nat _ _ _ ∧ _) => hq9); clear hq9)); (repeat ((with_reducible rename (@Ne Nat _ _) => hq9); clear hq9)); omega) | omega
  k_with "c room" => (dsimp only [AT, Around.deeper, Around.in1]; first | ((repeat refine room_up ?_); exact Nat.lt_of_lt_of_le (by assumption) (by decide)) | walk_at "om")
  k_with "setItem ref int" => (k_here; k_dflt (refine' setAt_any (by k_asm) (by k_asm) (by k_upd) (by decide) (by decide) (by decide) ?_; k_whole); intro _ _ _; (try k_sweep))
  k_with "eval ListComp" => (k_here; k_dflt (refine comp_stop (F₀ := by k_asm) (by with_unfolding_all rfl) (by decide) (by rfl) (by decide) (by rfl) ?_))
  k_with "k_all" => (refine tail_off (by assumption) ?_; (try dsimp only); first | assumption | walk_at "om")
  k_with "subscriptTail" => (k_here; (with_reducible show wpAny _ _ (subscriptTail _ _ (Value.ref _) (Value.int _ _)) _ _ _); k_dflt (refine' row_item (by k_asm) (by with_reducible assumption) (by assumption) ?_ (by with_unfolding_all rfl); k_whole); intro _)
  k_with "exec For Name Call cons nil" => (k_here; k_dflt (refine for_stop (by k_asm) (by with_unfolding_all rfl) (by with_unfolding_all rfl) ?_))
  k_with "call builtin:len" => (k_here; (with_reducible show wpAny _ _ (call (Value.builtin "len") [Value.ref _]) _ _ _); k_dflt (refine' len_base (by k_asm) (by assumption) (by first | assumption | walk_at "om") ?_; k_whole))
  k_with "call builtin:len" => (k_here; (with_reducible show wpAny _ _ (call (Value.builtin "len") [Value.ref _]) _ _ _); k_dflt (refine' len_led (by k_asm) (by k_memK) (by first | assumption | walk_at "om") ?_; k_whole))
  k_with "subscriptTail" => (k_here; (with_reducible show wpAny _ _ (subscriptTail _ _ (Value.ref _) (Value.int _ _)) _ _ _); k_dflt (refine' item_base (by k_asm) (by assumption) (by assumption) (by first | assumption | walk_at "om") (by first | assumption | walk_at "om") ?_; k_whole))
  k_with "c unit" => (dsimp only [AT, Around.deeper, Around.in1]; unfold cLine; first | exact Nat.lt_of_lt_of_le (by assumption) (by decide) | exact Nat.lt_of_lt_of_le (Nat.add_lt_add_right (by assumption) _) (by decide) | walk_at "om")
  k_with "eval Dict nil nil" => (k_here; k_dflt (refine' newDict_L (by k_asm) (by k_asm) (TopRead.nolimit (by k_asm)) ?_; k_whole); intro _ _ _ _ _ l1 _ _ _; (replace l1 := allLt_of l1; dsimp only [AllLt] at l1); (revert l1; intro _); (try k_sweep))
  k_with "newList" => (k_here; k_dflt (refine' newList_L (by k_asm) (by k_asm) ?_; k_whole); intro _ _ _ _ l1 _; (replace l1 := allLt_of l1; dsimp only [AllLt] at l1); (revert l1; intro _); (try k_sweep))
  k_with "call builtin:len" => (k_here; (with_reducible show wpAny _ _ (call (Value.builtin "len") [Value.ref _]) _ _ _); k_dflt (refine' len_row (by k_asm) (by assumption) (by first | assumption | walk_at "om") ?_; k_whole); intro _ _)
  k_with "exec For Name Name cons cons" => (k_here; k_dflt (refine for_stop (by k_asm) (by with_unfolding_all rfl) (by with_unfolding_all rfl) ?_))
  k_with "exec For Name Name cons nil" => (k_here; k_dflt (refine for_stop (by k_asm) (by with_unfolding_all rfl) (by with_unfolding_all rfl) ?_))
  k_with "exec For Name Name" => (k_here; k_dflt (refine for_stop (by k_asm) (by with_unfolding_all rfl) (by with_unfolding_all rfl) ?_))
  k_with "exec While" => (refine stop_at ?_)
  k_with "exec While Compare" => (refine stop_at ?_)
  k_with "exec While UnaryOp" => (refine stop_at ?_)
  k_with "setItem ref int" => (k_here; k_dflt (refine' setAt_any (by k_asm) (by k_asm) (by k_upd) (by walk_at "om") (by walk_at "om") (by walk_at "om") ?_; k_whole); intro _ _ _; (try k_sweep))
  k_with "c cj" => (first | assumption | exact And.left (by assumption) | exact And.right (by assumption) | exact And.left (And.right (by assumption)) | exact And.right (And.right (by assumption)) | exact And.left (And.right (And.right (by assumption))) | exact And.right (And.right (And.right (by assumption))) | exact And.left (And.right (And.right (And.right (by assumption)))) | exact And.right (And.right (And.right (And.right (by assumption)))) | exact And.left (And.right (And.right (And.right (And.right (by assumption))))) | exact And.right (And.right (And.right (And.right (And.right (by assumption))))) | exact And.left (And.right (And.right (And.right (And.right (And.right (by assumption)))))) | exact And.right (And.right (And.right (And.right (And.right (And.right (by assumption)))))) | exact And.left (And.right (And.right (And.right (And.right (And.right (And.right (by assumption))))))) | exact And.right (And.right (And.right (And.right (And.right (And.right (And.right (by assumption))))))) | exact And.left (And.right (And.right (And.right (And.right (And.right (And.right (And.right (by assumption)))))))) | exact And.right (And.right (And.right (And.right (And.right (And.right (And.right (And.right (by assumption)))))))) | exact And.left (And.right (And.right (And.right (And.right (And.right (And.right (And.right (And.right (by assumption))))))))) | exact And.right (And.right (And.right (And.right (And.right (And.right (And.right (And.right (And.right (by assumption))))))))) | exact And.left (And.right (And.right (And.right (And.right (And.right (And.right (And.right (And.right (And.right (by assumption)))))))))) | exact And.right (And.right (And.right (And.right (And.right (And.right (And.right (And.right (And.right (And.right (by assumption)))))))))))
  k_with "k_ne" => (refine neN ?_; (try dsimp only); first | assumption | exact Ne.symm (by assumption) | exact Nat.ne_of_lt (by walk_at "c cj") | exact Nat.ne_of_gt (by walk_at "c cj") | walk_at "c cj" | exact Ne.symm (by walk_at "c cj") | walk_at "om")
  k_with "execs cons" => ((try dsimp only at *); refine execs_hid ?_; intro Pst hNx)
  k_with "close" => (refine nx_go (by assumption) ?_; clear hNx; (try clear Pst))
  k_with "close" => (refine nr_go (by assumption) ?_; (try dsimp only))
  k_with "k_all" => assumption
  k_with "call ref" => (k_here; k_dflt (refine' use_worth (by k_asm) (by k_asm) (by k_asm) (by k_asm) (by assumption) (by k_updF) (by (intro _; k_updF)) (by assumption) (by first | assumption | walk_at "om") (by walk_at "c room") (by walk_at "c room") ?_; k_whole); intro _ _ _ _ _ _ _ _ _; (try k_sweep))
  k_with "binaryOp Add ref ref" => (refine stop_at ?_)
  k_with "subscriptTail" => ((with_reducible show wpAny _ _ (subscriptTail _ _ (Value.ref _) (Value.ref _)) _ _ _); refine stop_at ?_)
  k_with "call builtin:len" => (k_here; (with_reducible show wpAny _ _ (call (Value.builtin "len") [Value.ref _]) _ _ _); k_dflt (refine' len_led (by k_asm) (by ((repeat refine List.mem_cons_of_mem _ ?_); assumption)) (by first | assumption | walk_at "om") ?_; k_whole))
  k_with "execs cons Assign cons" => ((with_reducible show wpAny _ _ (PySem.execs (PySem.Stmt.Assign [PySem.Expr.Tuple _ _ _] _ _ :: _) _) _ _ _); refine stop_at ?_)
  trivial
section
theorem law_c (w : World) (dp un : Nat) (fr : List Env) (gd : Option (List Code)) (s : Shared) (Q : Flow → Shared → Prop) {g : Heap} {L' : Addr} {m₁ : Str → Option Value} {tail : List (Addr × Obj)} {mean : ExcName → Option Value} {mg mb : Str → Option Value}
    (X : (KD w.params).In g) (T : Top VD (looseW VD []) mean mg mb g) (hdp : dp < 302) (hun : un < 200)
    (t c S B : Addr) (es el n : Nat) (e1 e2 oT : Obj) (svs lvs : List Value) (rs ls : Rows) (size : Int) (kz : Tok)
    (F : Fr g L' s.heap (fun y => if y = Str.ofString "leads" then some (.ref B) else if y = Str.ofString "states" then some (.ref S) else if y = Str.ofString "size" then some (.int size kz) else m₁ y))
    (N : News g L' s.heap ((t, e1) :: (c, e2) :: (L' + 1, oT) :: tail)) (dT : oT.data = .cell (some (.ref t))) (TR : Trug c e1 e2 n) (hn : n < 500) (lct : @LT.lt Nat _ c t) (n1 : @Ne Nat t (L' + 1)) (n2 : @Ne Nat c (L' + 1))
    (ot : ∀ p ∈ tail, p.1 ≠ t) (oc : ∀ p ∈ tail, p.1 ≠ c) (hs : 0 ≤ size ∧ size ≤ 257)
    (mS : (S, listOf (List.toArray svs) es) ∈ tail) (mB : (B, listOf (List.toArray lvs) el) ∈ tail)
    (hT : ∀ h, Holds tail h → RowsIn PySem.Challenge.rw_sf0018_01.row.prog w h svs rs) (hL : RowsLed PySem.Challenge.rw_sf0018_01.row.prog w tail lvs ls)
    (fit1 : RowsFit rs 260 3) (fit2 : RowsFit ls 2 2) (lo1 : 1 ≤ (keyedF rs).length) (hi1 : (keyedF rs).length ≤ 3) (lo2 : 1 ≤ (keyedF ls).length) (hi2 : (keyedF ls).length ≤ 3) 
    (ret : ∀ h' tk', (∀ b o, g.get? b = some o → h'.get? b = some o) → Q (.ret (.bool true)) { s with heap := h', toks := tk' }) :
    wpAny (model PySem.Challenge.rw_sf0018_01.row.prog w) ((AT dp un fr gd).deeper (envOfC (Str.ofString "law") (fnScope lawS) L' 390 (.ref 389)))
      (execs (lawRest 7) (envOfC (Str.ofString "law") (fnScope lawS) L' 390 (.ref 389))) Q (fun _ _ => False) s := by
  conv in (lawRest 7) => whnf
  conv in (occs := *) (fnScope lawS) => all_goals whnf
  revert X; k_fill; intro X
  have hsl : svs.length = rs.length := (hT _ fun p hp => (N p (.tail _ (.tail _ (.tail _ hp)))).1).length
  have hll : lvs.length = ls.length := (hL.rows fun p hp => (N p (.tail _ (.tail _ (.tail _ hp)))).1).length
  have hrl := fit1.len
  have hlll := fit2.len
  k_steps
  with_reducible rename News _ _ _ _ => N1
  with_reducible rename Fr _ _ _ _ => F1
  rename_i l0 _ _ _ ll0 _ h0 _ _ _ _ _ _
  obtain ⟨wvs, hw, hws, hwl⟩ : ∃ wvs : List Value, wvs = [.str (Str.ofString "$end") s.toks, .str (Str.ofString "error") (s.toks + 1), .str (Str.ofString "$undefined") (s.toks + 1 + 1)] ∧ StrVs wvs ∧ wvs.length = 3 := by
    refine ⟨_, rfl, fun v hv => ?_, rfl⟩
    simp only [List.mem_cons, List.not_mem_nil, or_false] at hv
    rcases hv with rfl | rfl | rfl <;> exact ⟨_, _, rfl⟩
  replace N1 : News g L' h0 ((l0, listOf (List.toArray wvs) 0) :: (t, e1) :: (c, e2) :: (L' + 1, oT) :: tail) := by rw [hw]; exact N1
  clear hw
  refine Stop.mk (CompSrc.range (by rfl) F1 N1 (by assumption) (small_one (by walk_at "om") (by walk_at "om") (by walk_at "om") (by walk_at "om")) (rangeSize_nat _ _) (by rw [sizeLine_eq]; walk_at "om") ?_)
  intro gg
  refine rest_fix (news := (l0, listOf (List.toArray wvs) 0) :: (t, e1) :: (c, e2) :: (L' + 1, oT) :: tail) (fun i ys => ys.length = i ∧ StrVs ys) ?_ ?_ ?_
  · exact ⟨rfl, fun v hv => by cases hv⟩
  · rintro i ys v I oI C oC D m₂ h tk E' hi ⟨hyl, hys⟩ ⟨tv, rfl⟩ hC hx F9 N9 off ne
    k_steps
    exact Stop.mk (CompEnd.intro F9 N9 _ (fun p hp => hp) off trivial ⟨rfl, by rw [List.length_append, hyl]; rfl, hys.append (.one _ _)⟩)
  · rintro ys ⟨hyl, hys⟩
    intro D h tk F9 N9 off
    clear F1 N1
    k_steps
    refine Stop.mk (add_L F9 N9 (News.isList N9 (.tail _ (.head _))) (News.isList N9 (.head _)) (by walk_at "om") ?_)
    intro W h3 F3 N3 l3
    have hwy := hws.append hys
    have hwn : (wvs ++ ys).length = 3 + (size + 3 - 0).toNat := by rw [List.length_append, hwl, hyl]
    generalize wvs ++ ys = ww at hwy hwn N3
    replace N3 : News g L' h3 ((W, listOf (List.toArray ww) 0) :: (t, e1) :: (c, e2) :: (L' + 1, oT) :: tail) := fun p hp => by
      rcases List.mem_cons.mp hp with rfl | hp
      · exact N3 _ (.head _)
      · exact N3 _ (.tail _ (.tail _ (.tail _ hp)))
    k_steps
    with_reducible rename News _ _ _ _ => N4
    with_reducible rename Fr _ _ _ _ => F4
    refine Stop.mk ?_
    k_dflt (refine' slice_strs ?k1 ?k2 ?k3 ?k4 ?k5 ?_ ?k6; (case k1 => exact F4); (case k2 => exact N4); (case k3 => exact .head _); (case k4 => exact Nat.le_of_ble_eq_true rfl); (case k5 => (intro v hv; simp only [List.mem_cons, List.not_mem_nil, or_false] at hv; rcases hv with rfl | rfl <;> exact ⟨_, _, rfl⟩)); (case k6 => with_unfolding_all rfl))
    intro D5 h5 fs F5 N5 l5 hfs hfl
    k_steps
    refine Stop.mk (add_L F5 N5 (News.isList N5 (.tail _ (.tail _ (.head _)))) (News.isList N5 (.head _)) (by walk_at "om") ?_)
    intro D6 h6 F6 N6 l6
    have hnst := hwy.append hfs
    have hnl : (ww ++ fs).length ≤ 500 ∧ ww.length ≤ (ww ++ fs).length := by rw [List.length_append]; walk_at "om"
    generalize ww ++ fs = nvs at hnst hnl N6
    replace N6 : News g L' h6 ((D6, listOf (List.toArray nvs) 0) :: (W, listOf (List.toArray ww) 0) :: (t, e1) :: (c, e2) :: (L' + 1, oT) :: tail) := fun p hp => by
      rcases List.mem_cons.mp hp with rfl | hp
      · exact N6 _ (.head _)
      · exact N6 _ (.tail _ (.tail _ (.tail _ hp)))
    have tW : @LT.lt Nat _ t W := l3 _ (.tail _ (.tail _ (.head _)))
    have cW : @LT.lt Nat _ c W := l3 _ (.tail _ (.tail _ (.tail _ (.head _))))
    have nD : @LT.lt Nat _ W D6 := l6 (W, listOf (List.toArray ww) 0) (.tail _ (.tail _ (.head _)))
    have tD : @LT.lt Nat _ t D6 := Nat.lt_trans tW nD
    have cD : @LT.lt Nat _ c D6 := Nat.lt_trans cW nD
    clear l3 l5 l6
    k_steps
    with_reducible rename News _ _ _ _ => N7
    with_reducible rename Fr _ _ _ _ => F7
    rename_i lf _ _ _ ln _ _ _ bf _ _ _ fa _ l7 h7
    have tf : @LT.lt Nat _ t fa := l7.2.2.2.2.2.1
    have cf : @LT.lt Nat _ c fa := l7.2.2.2.2.2.2.1
    refine Stop.mk (law_c2 w dp un fr gd _ Q X T hdp hun t c S B fa D6 lf ln bf (tk + 1 + 1 + 1 + 1 + 1 + 1) ww.length es el 0 n e1 e2 oT svs lvs nvs rs ls (fr_eq F7 (pull3 (by rfl) (by rfl) (by rfl))) (tail := (fa, ({ cls := Value.type "tuple", data := Data.seq #[Value.ref D6, Value.int (ww.length : Int) (tk + 1 + 1 + 1 + 1 + 1 + 1), Value.ref lf, Value.ref ln, Value.ref bf] } : Obj)) :: (D6, listOf (List.toArray nvs) 0) :: tail) ?_ dT TR hn lct n1 n2 ?_ ?_ (.tail _ (.tail _ mS)) (.tail _ (.tail _ mB)) (.head _) (.tail _ (.head _)) hnst hnl.2 (by walk_at "om") (Nat.ne_of_lt l7.2.2.2.1) (fun h Hh => hT h fun p hp => Hh p (.tail _ (.tail _ hp))) (hL.mono fun p hp => .tail _ (.tail _ hp)) fit1 fit2 lo1 hi1 lo2 hi2 (fun h' tk' kk => ret h' tk' kk))
    · intro p hp
      rcases List.mem_cons.mp hp with rfl | hp
      · exact N7 _ (.tail _ (.tail _ (.tail _ (.tail _ (.tail _ (.tail _ (.head _)))))))
      · rcases List.mem_cons.mp hp with rfl | hp
        · exact N7 _ (.tail _ (.tail _ (.tail _ (.tail _ (.tail _ (.tail _ (.tail _ (.head _))))))))
        · rcases List.mem_cons.mp hp with rfl | hp
          · exact N7 _ (.tail _ (.tail _ (.tail _ (.tail _ (.tail _ (.tail _ (.tail _ (.tail _ (.head _)))))))))
          · rcases List.mem_cons.mp hp with rfl | hp
            · exact N7 _ (.head _)
            · rcases List.mem_cons.mp hp with rfl | hp
              · exact N7 _ (.tail _ (.tail _ (.tail _ (.tail _ (.head _)))))
              · exact N7 _ (.tail _ (.tail _ (.tail _ (.tail _ (.tail _ (.tail _ (.tail _ (.tail _ (.tail _ hp)))))))))
    · intro p hp
      rcases List.mem_cons.mp hp with rfl | hp
      · exact Nat.ne_of_gt tf
      · rcases List.mem_cons.mp hp with rfl | hp
        · exact Nat.ne_of_gt tD
        · exact ot p hp
    · intro p hp
      rcases List.mem_cons.mp hp with rfl | hp
      · exact Nat.ne_of_gt cf
      · rcases List.mem_cons.mp hp with rfl | hp
        · exact Nat.ne_of_gt cD
        · exact oc p hp
end

end OP
section OQ
open PySem PySem.W PyProof.Rows PySem.Calls PySem.Spec PyProof.Rows.LCg
theorem lines_OQ : True := by
  k_with_none
  k_with "om" => first | ((repeat ((with_reducible rename (@LT.lt Nat _ _ _ ∧ _) => hq9); clear hq9)); (repeat ((with_reducible rename (@Ne Nat _ _) => hq9); clear hq9)); omega) | omega
  k_with "c room" => (dsimp only [AT, Around.deeper, Around.in1]; first | ((repeat refine room_up ?_); exact Nat.lt_of_lt_of_le (by assumption) (by decide)) | walk_at "om")
  k_with "setItem ref int" => (k_here; k_dflt (refine' setAt_any (by k_asm) (by k_asm) (by k_upd) (by decide) (by decide) (by decide) ?_; k_whole); intro _ _ _; (try k_sweep))
  k_with "eval ListComp" => (k_here; k_dflt (refine comp_stop (F₀ := by k_asm) (by with_unfolding_all rfl) (by decide) (by rfl) (by decide) (by rfl) ?_))
  k_with "k_all" => (refine tail_off (by assumption) ?_; (try dsimp only); first | assumption | walk_at "om")
  k_with "subscriptTail" => (k_here; (with_reducible show wpAny _ _ (subscriptTail _ _ (Value.ref _) (Value.int _ _)) _ _ _); k_dflt (refine' row_item (by k_asm) (by with_reducible assumption) (by assumption) ?_ (by with_unfolding_all rfl); k_whole); intro _)
  k_with "exec For Name Call cons nil" => (k_here; k_dflt (refine for_stop (by k_asm) (by with_unfolding_all rfl) (by with_unfolding_all rfl) ?_))
  k_with "call builtin:len" => (k_here; (with_reducible show wpAny _ _ (call (Value.builtin "len") [Value.ref _]) _ _ _); k_dflt (refine' len_base (by k_asm) (by assumption) (by first | assumption | walk_at "om") ?_; k_whole))
  k_with "call builtin:len" => (k_here; (with_reducible show wpAny _ _ (call (Value.builtin "len") [Value.ref _]) _ _ _); k_dflt (refine' len_led (by k_asm) (by k_memK) (by first | assumption | walk_at "om") ?_; k_whole))
  k_with "subscriptTail" => (k_here; (with_reducible show wpAny _ _ (subscriptTail _ _ (Value.ref _) (Value.int _ _)) _ _ _); k_dflt (refine' item_base (by k_asm) (by assumption) (by assumption) (by first | assumption | walk_at "om") (by first | assumption | walk_at "om") ?_; k_whole))
  k_with "c unit" => (dsimp only [AT, Around.deeper, Around.in1]; unfold cLine; first | exact Nat.lt_of_lt_of_le (by assumption) (by decide) | exact Nat.lt_of_lt_of_le (Nat.add_lt_add_right (by assumption) _) (by decide) | walk_at "om")
  k_with "eval Dict nil nil" => (k_here; k_dflt (refine' newDict_L (by k_asm) (by k_asm) (TopRead.nolimit (by k_asm)) ?_; k_whole); intro _ _ _ _ _ l1 _ _ _; (replace l1 := allLt_of l1; dsimp only [AllLt] at l1); (revert l1; intro _); (try k_sweep))
  k_with "newList" => (k_here; k_dflt (refine' newList_L (by k_asm) (by k_asm) ?_; k_whole); intro _ _ _ _ l1 _; (replace l1 := allLt_of l1; dsimp only [AllLt] at l1); (revert l1; intro _); (try k_sweep))
  k_with "call builtin:len" => (k_here; (with_reducible show wpAny _ _ (call (Value.builtin "len") [Value.ref _]) _ _ _); k_dflt (refine' len_row (by k_asm) (by assumption) (by first | assumption | walk_at "om") ?_; k_whole); intro _ _)
  k_with "exec For Name Name cons cons" => (k_here; k_dflt (refine for_stop (by k_asm) (by with_unfolding_all rfl) (by with_unfolding_all rfl) ?_))
  k_with "exec For Name Name cons nil" => (k_here; k_dflt (refine for_stop (by k_asm) (by with_unfolding_all rfl) (by with_unfolding_all rfl) ?_))
  k_with "exec For Name Name" => (k_here; k_dflt (refine for_stop (by k_asm) (by with_unfolding_all rfl) (by with_unfolding_all rfl) ?_))
  k_with "exec While" => (refine stop_at ?_)
  k_with "exec While Compare" => (refine stop_at ?_)
  k_with "exec While UnaryOp" => (refine stop_at ?_)
  k_with "setItem ref int" => (k_here; k_dflt (refine' setAt_any (by k_asm) (by k_asm) (by k_upd) (by walk_at "om") (by walk_at "om") (by walk_at "om") ?_; k_whole); intro _ _ _; (try k_sweep))
  k_with "c cj" => (first | assumption | exact And.left (by assumption) | exact And.right (by assumption) | exact And.left (And.right (by assumption)) | exact And.right (And.right (by assumption)) | exact And.left (And.right (And.right (by assumption))) | exact And.right (And.right (And.right (by assumption))) | exact And.left (And.right (And.right (And.right (by assumption)))) | exact And.right (And.right (And.right (And.right (by assumption)))) | exact And.left (And.right (And.right (And.right (And.right (by assumption))))) | exact And.right (And.right (And.right (And.right (And.right (by assumption))))) | exact And.left (And.right (And.right (And.right (And.right (And.right (by assumption)))))) | exact And.right (And.right (And.right (And.right (And.right (And.right (by assumption)))))) | exact And.left (And.right (And.right (And.right (And.right (And.right (And.right (by assumption))))))) | exact And.right (And.right (And.right (And.right (And.right (And.right (And.right (by assumption))))))) | exact And.left (And.right (And.right (And.right (And.right (And.right (And.right (And.right (by assumption)))))))) | exact And.right (And.right (And.right (And.right (And.right (And.right (And.right (And.right (by assumption)))))))) | exact And.left (And.right (And.right (And.right (And.right (And.right (And.right (And.right (And.right (by assumption))))))))) | exact And.right (And.right (And.right (And.right (And.right (And.right (And.right (And.right (And.right (by assumption))))))))) | exact And.left (And.right (And.right (And.right (And.right (And.right (And.right (And.right (And.right (And.right (by assumption)))))))))) | exact And.right (And.right (And.right (And.right (And.right (And.right (And.right (And.right (And.right (And.right (by assumption)))))))))))
  k_with "k_ne" => (refine neN ?_; (try dsimp only); first | assumption | exact Ne.symm (by assumption) | exact Nat.ne_of_lt (by walk_at "c cj") | exact Nat.ne_of_gt (by walk_at "c cj") | walk_at "c cj" | exact Ne.symm (by walk_at "c cj") | walk_at "om")
  k_with "execs cons" => ((try dsimp only at *); refine execs_hid ?_; intro Pst hNx)
  k_with "close" => (refine nx_go (by assumption) ?_; clear hNx; (try clear Pst))
  k_with "close" => (refine nr_go (by assumption) ?_; (try dsimp only))
  k_with "k_all" => assumption
  k_with "call ref" => (k_here; k_dflt (refine' use_dig (by k_asm) (by k_asm) (by k_asm) (by k_asm) (by assumption) (by k_updF) (by (intro _; k_updF)) (by assumption) (by first | decide | walk_at "om") (by first | decide | walk_at "om") (by first | assumption | walk_at "om") (by walk_at "c room") (by walk_at "c room") ?_; k_whole); intro _ _ _ _ _ _ _ _ _ _ _; (try k_sweep))
  k_with "call ref" => (k_here; k_dflt (refine' use_worth (by k_asm) (by k_asm) (by k_asm) (by k_asm) (by assumption) (by k_updF) (by (intro _; k_updF)) (by assumption) (by first | assumption | walk_at "om") (by walk_at "c room") (by walk_at "c room") ?_; k_whole); intro _ _ _ _ _ _ _ _ _; (try k_sweep))
  k_with "call builtin:len" => (k_here; (with_reducible show wpAny _ _ (call (Value.builtin "len") [Value.ref _]) _ _ _); k_dflt (refine' len_led (by k_asm) (by ((repeat refine List.mem_cons_of_mem _ ?_); assumption)) (by first | assumption | walk_at "om") ?_; k_whole))
  k_with "call type:range" => (k_here; (with_unfolding_all refine range1_rows (by k_asm) (by k_asm) ?_); intro _ _ _ _ _ _ _ _ _)
  k_with "getMethod ref" => (k_here; (with_reducible show wpAny _ _ (getMethod (Value.ref _) (PySem.Str.ofString "append") _) _ _ _); k_dflt (refine' append_method (by k_asm) (by k_memK) ?_; k_whole))
  k_with "eval Dict" => (k_here; k_dflt (refine' kdn_eval (knd := PySem.intKind _ _) (by k_asm) (by k_asm) (by exact TopRead.nolimit (by k_asm)) (by rfl) (by rfl) (by exact List.cons_ne_nil _ _) (by exact Nat.le_of_ble_eq_true rfl) ?_); intro _ _ _ _ _ l1 _ _; (replace l1 := allLt_of l1; dsimp only [AllLt] at l1); (revert l1; intro _))
  k_with "callWith" => (with_reducible refine' callWith_method1 ?_ (by with_unfolding_all rfl) (by with_unfolding_all rfl))
  trivial
section
theorem law_b1 (w : World) (dp un : Nat) (fr : List Env) (gd : Option (List Code)) (s : Shared) (Q : Flow → Shared → Prop) {g : Heap} {L' : Addr} {m₁ : Str → Option Value} {tail : List (Addr × Obj)} {mean : ExcName → Option Value} {mg mb : Str → Option Value}
    (X : (KD w.params).In g) (T : Top VD (looseW VD []) mean mg mb g) (hdp : dp < 302) (hun : un < 200)
    (t c S : Addr) (es n : Nat) (e1 e2 oT : Obj) (svs : List Value) (rs : Rows) (size : Int) (kz : Tok)
    (F : Fr g L' s.heap (fun y => if y = Str.ofString "states" then some (.ref S) else if y = Str.ofString "size" then some (.int size kz) else m₁ y))
    (N : News g L' s.heap ((t, e1) :: (c, e2) :: (L' + 1, oT) :: tail)) (dT : oT.data = .cell (some (.ref t))) (TR : Trug c e1 e2 n) (hn : n < 400) (lct : @LT.lt Nat _ c t) (n1 : @Ne Nat t (L' + 1)) (n2 : @Ne Nat c (L' + 1))
    (ot : ∀ p ∈ tail, p.1 ≠ t) (oc : ∀ p ∈ tail, p.1 ≠ c) (hs : 0 ≤ size ∧ size ≤ 257)
    (mS : (S, listOf (List.toArray svs) es) ∈ tail) (hT : ∀ h, Holds tail h → RowsIn PySem.Challenge.rw_sf0018_01.row.prog w h svs rs)
    (fit1 : RowsFit rs 260 3) (pos : 1 ≤ rs.length) (lo1 : 1 ≤ (keyedF rs).length) (hi1 : (keyedF rs).length ≤ 3)
    (ret : ∀ h' tk', (∀ b o, g.get? b = some o → h'.get? b = some o) → Q (.ret (.bool true)) { s with heap := h', toks := tk' }) :
    wpAny (model PySem.Challenge.rw_sf0018_01.row.prog w) ((AT dp un fr gd).deeper (envOfC (Str.ofString "law") (fnScope lawS) L' 390 (.ref 389)))
      (execs (lawRest 5) (envOfC (Str.ofString "law") (fnScope lawS) L' 390 (.ref 389))) Q (fun _ _ => False) s := by
  conv in (lawRest 5) => whnf
  conv in (occs := *) (fnScope lawS) => all_goals whnf
  revert X; k_fill; intro X
  have hrl := fit1.len
  have hsl : svs.length = rs.length := (hT _ fun p hp => (N p (.tail _ (.tail _ (.tail _ hp)))).1).length
  k_steps
  with_reducible rename News _ _ _ _ => N1
  with_reducible rename Fr _ _ _ _ => F1
  rename_i B _ _ lB _ r _ _ _ o1 o2 _ _ hr0 hr1 TR1 _ _ _ _ _ hR _
  refine Stop.mk (loop_range (by rfl) F1 N1 hR (small_one (by walk_at "om") (by walk_at "om") (by walk_at "om") (by walk_at "om")) (rangeSize_nat _ _)
    (fun i m nw => ∃ o1 o2 vs ls tl ep cv, m = (fun y => if y = Str.ofString "turn" then cv else if y = Str.ofString "leads" then some (.ref B) else if y = Str.ofString "states" then some (.ref S) else if y = Str.ofString "size" then some (.int size kz) else m₁ y) ∧
      nw = (B, listOf (List.toArray vs) ep) :: (t, o1) :: (c, o2) :: (L' + 1, oT) :: tl ∧ Trug c o1 o2 (n + 1 + 2 * i) ∧ RowsLed PySem.Challenge.rw_sf0018_01.row.prog w tl vs ls ∧ RowsFit ls i i ∧ ls.length = i ∧ (∀ r ∈ ls, r ≠ []) ∧ (∀ p ∈ tail, p ∈ tl) ∧ (∀ p ∈ tl, p.1 ≠ t) ∧ (∀ p ∈ tl, p.1 ≠ c) ∧ (∀ p ∈ tl, p.1 ≠ B)) ?_ ?_ ?_)
  · exact ⟨o1, o2, [], [], tail, 0, _, upd0 _ _, rfl, TR1, .nil, ⟨Nat.le_refl _, by simp, by simp, Nat.le_refl _⟩, rfl, by simp, fun _ h => h, ot, oc, tbn_neAll lB.2.2.2⟩
  · intro i tk m₂ nw I oI h6 tk6 hi hJ1 off F6 N6
    refine hideB ?_
    intro Post1 fin1 P ret1
    refine exE7 hJ1 ?_
    clear hJ1
    intro o3 o4 vs ls tl ep cv hE
    refine anE7 hE ?_
    clear hE
    intro hq1 hq2 TR2 hL fit hll hE
    refine anE5 hE ?_
    clear hE
    intro hne sub ot2 oc2 oB2
    subst hq1
    subst hq2
    refine ret1 ?_
    clear ret1 P
    rw [upd1] at F6
    replace F6 : Fr g L' h6 _ := F6
    replace N6 : News g L' h6 _ := N6
    have mS2 := sub _ mS
    have hvl : vs.length = ls.length := (hL.rows fun p hp => (N6 p (.tail _ (.tail _ (.tail _ (.tail _ (.tail _ hp)))))).1).length
    have off0 : ∀ p ∈ tl, p.1 ≠ I := fun p hp => off p (.tail _ (.tail _ (.tail _ (.tail _ hp))))
    have oB : @Ne Nat B I := off _ (.head _)
    have ot3 : @Ne Nat t I := off (t, o3) (.tail _ (.head _))
    have oc3 : @Ne Nat c I := off (c, o4) (.tail _ (.tail _ (.head _)))
    have ol3 : @Ne Nat (L' + 1) I := off (L' + 1, oT) (.tail _ (.tail _ (.tail _ (.head _))))
    have hi2 := lin_i hi hr1
    have hn0 : n + 1 + 2 * i < 1000 := lin_n hn hi2 (by decide)
    have hn1 : n + 1 + 2 * i + 1 < 1000 := lin_m hn hi2 (by decide)
    have hvz : vs.length ≤ 16777216 := by rw [hvl, hll]; exact Nat.le_trans hi2 (by decide)
    clear F1 N1 TR1 TR
    k_steps
    with_reducible rename News _ _ _ _ => N5
    with_reducible rename Fr _ _ _ _ => F5
    rename_i d _ _ lo _ ld _ _ k _ tkk _ _ _ k0 k1 _ v _ _ tkv o5 o6 TR5 _ od hd _ _
    have hk : 0 ≤ (svs.length : Int) - 1 - k ∧ (svs.length : Int) - 1 - k ≤ 600 := by split at k1 <;> walk_at "om"
    have hrow : ∀ h : Heap, h.get? d = some od → RowAt PySem.Challenge.rw_sf0018_01.row.prog w h d [((svs.length : Int) - 1 - k, v)] := fun h e => ⟨lo, _, Heap.dictOf_iff.mpr ⟨od, e, hd⟩, .cons .nil⟩
    refine fin1 _ _ ?_
    refine LpEnd.mk (news' := (B, listOf (List.toArray (vs ++ [Value.ref d])) (ep + 1)) :: (t, o5) :: (c, o6) :: (L' + 1, oT) :: (d, od) :: tl) F5 (fun p hp => ?_) (fun p hp => ?_) (exI7 o5 o6 (vs ++ [.ref d]) (ls ++ [[((svs.length : Int) - 1 - k, v)]]) ((d, od) :: tl) (ep + 1) _ ⟨rfl, rfl,
      by rw [lin_s]; exact TR5, (hL.mono fun _ hp => .tail _ hp).snoc (.head _) hrow, fit.snoc ⟨.inl (by simp), by simp⟩ (fun p hp => by rw [List.mem_singleton.mp hp]; exact hk), by rw [List.length_append, hll]; rfl, fun r hr => ?_, fun p hp => .tail _ (sub p hp), ?_, ?_, ?_⟩)
    · rw [← List.push_toArray] at hp
      simp only [List.mem_cons] at hp
      rcases hp with rfl | rfl | rfl | rfl | rfl | rfl | hp
      · exact N5 _ (.tail _ (.head _))
      · exact N5 _ (.tail _ (.tail _ (.head _)))
      · exact N5 _ (.tail _ (.tail _ (.tail _ (.head _))))
      · exact N5 _ (.tail _ (.tail _ (.tail _ (.tail _ (.head _)))))
      · exact N5 _ (.tail _ (.tail _ (.tail _ (.tail _ (.tail _ (.head _))))))
      · exact N5 _ (.head _)
      · exact N5 _ (.tail _ (.tail _ (.tail _ (.tail _ (.tail _ (.tail _ hp))))))
    · simp only [List.mem_cons] at hp
      rcases hp with rfl | rfl | rfl | rfl | rfl | hp
      · exact oB
      · exact ot3
      · exact oc3
      · exact ol3
      · exact Nat.ne_of_gt ld.1
      · exact off0 p hp
    · rcases List.mem_append.mp hr with hr | hr
      · exact hne r hr
      · rw [List.mem_singleton.mp hr]; exact List.cons_ne_nil _ _
    · intro p hp
      rcases List.mem_cons.mp hp with rfl | hp
      · exact Nat.ne_of_gt ld.2.2.1
      · exact ot2 p hp
    · intro p hp
      rcases List.mem_cons.mp hp with rfl | hp
      · exact Nat.ne_of_gt ld.2.2.2.1
      · exact oc2 p hp
    · intro p hp
      rcases List.mem_cons.mp hp with rfl | hp
      · exact Nat.ne_of_gt ld.2.1
      · exact oB2 p hp
  · intro h6 tk6 m₂ nw F6 N6 hJ1
    refine hide ?_
    intro P ret1
    refine exE7 hJ1 ?_
    clear hJ1
    intro o3 o4 vs ls tl ep cv hE
    refine anE7 hE ?_
    clear hE
    intro hq1 hq2 TR2 hL fit hll hE
    refine anE5 hE ?_
    clear hE
    intro hne sub ot2 oc2 oB2
    subst hq1
    subst hq2
    refine ret1 ?_
    clear ret1 P
    have hpos : 0 < ls.length := by walk_at "om"
    obtain ⟨x, hx⟩ := List.exists_mem_of_length_pos hpos
    have hkl := keyed_le ls
    have hkf := fit.full
    have otB : @Ne Nat B t := Nat.ne_of_gt lB.1
    have ocB : @Ne Nat B c := Nat.ne_of_gt lB.2.1
    refine nx_go (by assumption) ?_
    refine law_c w dp un fr gd _ Q X T hdp hun t c S B es ep _ o3 o4 oT svs vs rs ls size kz (fr_eq F6 (pull3 (by rfl) (by rfl) (by rfl))) (tail := (B, listOf (List.toArray vs) ep) :: tl) ?_ dT TR2 (by walk_at "om") lct n1 n2 ?_ ?_ hs (.tail _ (sub _ mS)) (.head _) (fun h Hh => hT h fun p hp => Hh p (.tail _ (sub p hp))) (hL.mono fun _ hp => .tail _ hp) fit1 (fit.mono (by walk_at "om") (by walk_at "om")) lo1 hi1 (keyed_pos ⟨x, hx, hne x hx⟩) (by walk_at "om") (fun h' tk' kk => ret h' tk' kk)
    · intro p hp
      simp only [List.mem_cons] at hp
      rcases hp with rfl | rfl | rfl | rfl | hp
      · exact N6 _ (.tail _ (.head _))
      · exact N6 _ (.tail _ (.tail _ (.head _)))
      · exact N6 _ (.tail _ (.tail _ (.tail _ (.head _))))
      · exact N6 _ (.head _)
      · exact N6 _ (.tail _ (.tail _ (.tail _ (.tail _ hp))))
    · intro p hp
      rcases List.mem_cons.mp hp with rfl | hp
      · exact otB
      · exact ot2 p hp
    · intro p hp
      rcases List.mem_cons.mp hp with rfl | hp
      · exact ocB
      · exact oc2 p hp
end

end OQ
section OR
open PySem PySem.W PyProof.Rows PySem.Calls PySem.Spec PyProof.Rows.LCg
theorem lines_OR : True := by
  k_with_none
  k_with "om" => first | ((repeat ((with_reducible rename (@LT.lt Nat _ _ _ ∧ _) => hq9); clear hq9)); (repeat ((with_reducible rename (@Ne Nat _ _) => hq9); clear hq9)); omega) | omega
  k_with "c room" => (dsimp only [AT, Around.deeper, Around.in1]; first | ((repeat refine room_up ?_); exact Nat.lt_of_lt_of_le (by assumption) (by decide)) | walk_at "om")
  k_with "setItem ref int" => (k_here; k_dflt (refine' setAt_any (by k_asm) (by k_asm) (by k_upd) (by decide) (by decide) (by decide) ?_; k_whole); intro _ _ _; (try k_sweep))
  k_with "eval ListComp" => (k_here; k_dflt (refine comp_stop (F₀ := by k_asm) (by with_unfolding_all rfl) (by decide) (by rfl) (by decide) (by rfl) ?_))
  k_with "k_all" => (refine tail_off (by assumption) ?_; (try dsimp only); first | assumption | walk_at "om")
  k_with "subscriptTail" => (k_here; (with_reducible show wpAny _ _ (subscriptTail _ _ (Value.ref _) (Value.int _ _)) _ _ _); k_dflt (refine' row_item (by k_asm) (by with_reducible assumption) (by assumption) ?_ (by with_unfolding_all rfl); k_whole); intro _)
  k_with "exec For Name Call cons nil" => (k_here; k_dflt (refine for_stop (by k_asm) (by with_unfolding_all rfl) (by with_unfolding_all rfl) ?_))
  k_with "call builtin:len" => (k_here; (with_reducible show wpAny _ _ (call (Value.builtin "len") [Value.ref _]) _ _ _); k_dflt (refine' len_base (by k_asm) (by assumption) (by first | assumption | walk_at "om") ?_; k_whole))
  k_with "call builtin:len" => (k_here; (with_reducible show wpAny _ _ (call (Value.builtin "len") [Value.ref _]) _ _ _); k_dflt (refine' len_led (by k_asm) (by k_memK) (by first | assumption | walk_at "om") ?_; k_whole))
  k_with "subscriptTail" => (k_here; (with_reducible show wpAny _ _ (subscriptTail _ _ (Value.ref _) (Value.int _ _)) _ _ _); k_dflt (refine' item_base (by k_asm) (by assumption) (by assumption) (by first | assumption | walk_at "om") (by first | assumption | walk_at "om") ?_; k_whole))
  k_with "c unit" => (dsimp only [AT, Around.deeper, Around.in1]; unfold cLine; first | exact Nat.lt_of_lt_of_le (by assumption) (by decide) | exact Nat.lt_of_lt_of_le (Nat.add_lt_add_right (by assumption) _) (by decide) | walk_at "om")
  k_with "eval Dict nil nil" => (k_here; k_dflt (refine' newDict_L (by k_asm) (by k_asm) (TopRead.nolimit (by k_asm)) ?_; k_whole); intro _ _ _ _ _ l1 _ _ _; (replace l1 := allLt_of l1; dsimp only [AllLt] at l1); (revert l1; intro _); (try k_sweep))
  k_with "newList" => (k_here; k_dflt (refine' newList_L (by k_asm) (by k_asm) ?_; k_whole); intro _ _ _ _ l1 _; (replace l1 := allLt_of l1; dsimp only [AllLt] at l1); (revert l1; intro _); (try k_sweep))
  k_with "call builtin:len" => (k_here; (with_reducible show wpAny _ _ (call (Value.builtin "len") [Value.ref _]) _ _ _); k_dflt (refine' len_row (by k_asm) (by assumption) (by first | assumption | walk_at "om") ?_; k_whole); intro _ _)
  k_with "exec For Name Name cons cons" => (k_here; k_dflt (refine for_stop (by k_asm) (by with_unfolding_all rfl) (by with_unfolding_all rfl) ?_))
  k_with "exec For Name Name cons nil" => (k_here; k_dflt (refine for_stop (by k_asm) (by with_unfolding_all rfl) (by with_unfolding_all rfl) ?_))
  k_with "exec For Name Name" => (k_here; k_dflt (refine for_stop (by k_asm) (by with_unfolding_all rfl) (by with_unfolding_all rfl) ?_))
  k_with "exec While" => (refine stop_at ?_)
  k_with "exec While Compare" => (refine stop_at ?_)
  k_with "exec While UnaryOp" => (refine stop_at ?_)
  k_with "setItem ref int" => (k_here; k_dflt (refine' setAt_any (by k_asm) (by k_asm) (by k_upd) (by walk_at "om") (by walk_at "om") (by walk_at "om") ?_; k_whole); intro _ _ _; (try k_sweep))
  k_with "c cj" => (first | assumption | exact And.left (by assumption) | exact And.right (by assumption) | exact And.left (And.right (by assumption)) | exact And.right (And.right (by assumption)) | exact And.left (And.right (And.right (by assumption))) | exact And.right (And.right (And.right (by assumption))) | exact And.left (And.right (And.right (And.right (by assumption)))) | exact And.right (And.right (And.right (And.right (by assumption)))) | exact And.left (And.right (And.right (And.right (And.right (by assumption))))) | exact And.right (And.right (And.right (And.right (And.right (by assumption))))) | exact And.left (And.right (And.right (And.right (And.right (And.right (by assumption)))))) | exact And.right (And.right (And.right (And.right (And.right (And.right (by assumption)))))) | exact And.left (And.right (And.right (And.right (And.right (And.right (And.right (by assumption))))))) | exact And.right (And.right (And.right (And.right (And.right (And.right (And.right (by assumption))))))) | exact And.left (And.right (And.right (And.right (And.right (And.right (And.right (And.right (by assumption)))))))) | exact And.right (And.right (And.right (And.right (And.right (And.right (And.right (And.right (by assumption)))))))) | exact And.left (And.right (And.right (And.right (And.right (And.right (And.right (And.right (And.right (by assumption))))))))) | exact And.right (And.right (And.right (And.right (And.right (And.right (And.right (And.right (And.right (by assumption))))))))) | exact And.left (And.right (And.right (And.right (And.right (And.right (And.right (And.right (And.right (And.right (by assumption)))))))))) | exact And.right (And.right (And.right (And.right (And.right (And.right (And.right (And.right (And.right (And.right (by assumption)))))))))))
  k_with "k_ne" => (refine neN ?_; (try dsimp only); first | assumption | exact Ne.symm (by assumption) | exact Nat.ne_of_lt (by walk_at "c cj") | exact Nat.ne_of_gt (by walk_at "c cj") | walk_at "c cj" | exact Ne.symm (by walk_at "c cj") | walk_at "om")
  k_with "execs cons" => ((try dsimp only at *); refine execs_hid ?_; intro Pst hNx)
  k_with "close" => (refine nx_go (by assumption) ?_; clear hNx; (try clear Pst))
  k_with "close" => (refine nr_go (by assumption) ?_; (try dsimp only))
  k_with "k_all" => assumption
  k_with "call ref" => (k_here; k_dflt (refine' use_dig (by k_asm) (by k_asm) (by k_asm) (by k_asm) (by assumption) (by k_updF) (by (intro _; k_updF)) (by assumption) (by first | decide | walk_at "om") (by first | decide | walk_at "om") (by first | assumption | walk_at "om") (by walk_at "c room") (by walk_at "c room") ?_; k_whole); intro _ _ _ _ _ _ _ _ _ _ _; (try k_sweep))
  k_with "call ref" => (k_here; k_dflt (refine' use_row (by k_asm) (by k_asm) (by k_asm) (by k_asm) (by assumption) (by k_updF) (by (intro _; k_updF)) (by assumption) (by first | assumption | walk_at "om") (by first | assumption | walk_at "om") (by first | assumption | walk_at "om") (by walk_at "c room") (by walk_at "c room") ?_; k_whole); (intro _ _ _ _ _ _ _ _ _ _ _ _ _ _ ho5; have hS5 := off2 ho5); (try k_sweep))
  k_with "call type:range" => (k_here; (with_unfolding_all refine range1_rows (by k_asm) (by k_asm) ?_); intro _ _ _ _ _ _ _ _ _)
  k_with "eval IfExp" => ((with_reducible show wpAny _ _ (eval (Expr.IfExp _ _ _ _) (envOfC _ _ _ _ _)) (fun _ _ => wpAny _ _ (spliced _) _ _ _) _ _); refine stop_at ?_)
  k_with "getMethod ref" => (k_here; (with_reducible show wpAny _ _ (getMethod (Value.ref _) (PySem.Str.ofString "append") _) _ _ _); k_dflt (refine' append_method (by k_asm) (by k_memK) ?_; k_whole))
  k_with "callWith" => (with_reducible refine' callWith_method1 ?_ (by with_unfolding_all rfl) (by with_unfolding_all rfl))
  trivial
theorem lin_5 {n i : Nat} (hn : n < 300) (h : i ≤ 1) : n + 1 + 5 * i < 900 := by omega
theorem lin_t {n i : Nat} : n + 1 + 5 * (i + 1) = n + 1 + 5 * i + 5 := by omega
theorem off2 {a : Addr × Obj} {b r : Addr} {o : Obj} {l : List (Addr × Obj)} (h : ∀ p ∈ a :: (b, o) :: l, p.1 ≠ r) : @Ne Nat b r := h _ (.tail _ (.head _))
theorem pull2 {m : Str → Option Value} {k1 k2 : Str} {v1 v2 : Option Value} (h1 : m k1 = v1) (h2 : m k2 = v2) : m = fun y => if y = k1 then v1 else if y = k2 then v2 else m y := by
  funext y
  by_cases e1 : y = k1
  · rw [if_pos e1, e1]; exact h1
  · rw [if_neg e1]
    exact congrFun (pull1 h2) y
section
theorem law_b (w : World) (dp un : Nat) (fr : List Env) (gd : Option (List Code)) (s : Shared) (Q : Flow → Shared → Prop) {g : Heap} {L' : Addr} {m₁ : Str → Option Value} {tail : List (Addr × Obj)} {mean : ExcName → Option Value} {mg mb : Str → Option Value}
    (X : (KD w.params).In g) (T : Top VD (looseW VD []) mean mg mb g) (hdp : dp < 302) (hun : un < 200)
    (t c S : Addr) (es n : Nat) (e1 e2 oT : Obj) (svs : List Value) (rs : Rows) (way size : Int) (kw kz : Tok)
    (F : Fr g L' s.heap (fun y => if y = Str.ofString "states" then some (.ref S) else if y = Str.ofString "way" then some (.int way kw) else if y = Str.ofString "size" then some (.int size kz) else m₁ y))
    (N : News g L' s.heap ((S, listOf (List.toArray svs) es) :: (t, e1) :: (c, e2) :: (L' + 1, oT) :: tail)) (dT : oT.data = .cell (some (.ref t))) (TR : Trug c e1 e2 n) (hn : n < 300) (lct : @LT.lt Nat _ c t) (n1 : @Ne Nat t (L' + 1)) (n2 : @Ne Nat c (L' + 1))
    (s1 : @Ne Nat S t) (s2 : @Ne Nat S c) (s3 : @Ne Nat S (L' + 1)) (ot : ∀ p ∈ tail, p.1 ≠ t) (oc : ∀ p ∈ tail, p.1 ≠ c) (oS : ∀ p ∈ tail, p.1 ≠ S) (hs : 0 ≤ size ∧ size ≤ 257)
    (hT : ∀ h, Holds tail h → RowsIn PySem.Challenge.rw_sf0018_01.row.prog w h svs rs) (fit1 : RowsFit rs 258 1)
    (ret : ∀ h' tk', (∀ b o, g.get? b = some o → h'.get? b = some o) → Q (.ret (.bool true)) { s with heap := h', toks := tk' }) :
    wpAny (model PySem.Challenge.rw_sf0018_01.row.prog w) ((AT dp un fr gd).deeper (envOfC (Str.ofString "law") (fnScope lawS) L' 390 (.ref 389)))
      (execs (lawRest 4) (envOfC (Str.ofString "law") (fnScope lawS) L' 390 (.ref 389))) Q (fun _ _ => False) s := by
  conv in (lawRest 4) => whnf
  conv in (occs := *) (fnScope lawS) => all_goals whnf
  revert X; k_fill; intro X
  k_steps
  with_reducible rename News _ _ _ _ => N1
  with_reducible rename Fr _ _ _ _ => F1
  rename_i r _ _ _ o1 o2 _ _ hr0 hr1 TR1 _ _ _ _ _ hR _
  refine Stop.mk (loop_range (by rfl) F1 N1 hR (small_one (by walk_at "om") (by walk_at "om") (by walk_at "om") (by walk_at "om")) (rangeSize_nat _ _)
    (fun i m nw => ∃ o1 o2 vs rs tl ep cv, m = (fun y => if y = Str.ofString "turn" then cv else if y = Str.ofString "states" then some (.ref S) else if y = Str.ofString "way" then some (.int way kw) else if y = Str.ofString "size" then some (.int size kz) else m₁ y) ∧
      nw = (S, listOf (List.toArray vs) ep) :: (t, o1) :: (c, o2) :: (L' + 1, oT) :: tl ∧ Trug c o1 o2 (n + 1 + 5 * i) ∧ (∀ h, Holds tl h → RowsIn PySem.Challenge.rw_sf0018_01.row.prog w h vs rs) ∧ RowsFit rs (258 + i) (1 + i) ∧ (1 ≤ i → ∃ r ∈ rs, r ≠ []) ∧ (∀ p ∈ tl, p.1 ≠ t) ∧ (∀ p ∈ tl, p.1 ≠ c) ∧ (∀ p ∈ tl, p.1 ≠ S)) ?_ ?_ ?_)
  · exact ⟨o1, o2, svs, rs, tail, es, _, upd0 _ _, rfl, TR1, hT, fit1, by walk_at "om", ot, oc, oS⟩
  · intro i tk m₂ nw I oI h6 tk6 hi hJ1 off F6 N6
    refine hideB ?_
    intro Post1 fin1 P ret1
    refine exE7 hJ1 ?_
    clear hJ1
    intro o3 o4 vs rs2 tl ep cv hE
    refine anE7 hE ?_
    clear hE
    intro hq1 hq2 TR2 hT2 fit hne hE
    refine anE3 hE ?_
    clear hE
    intro ot2 oc2 oS2
    subst hq1
    subst hq2
    refine ret1 ?_
    clear ret1 P
    rw [upd1] at F6
    replace F6 : Fr g L' h6 _ := F6
    replace N6 : News g L' h6 _ := N6
    have hvl : vs.length = rs2.length := (hT2 _ fun p hp => (N6 p (.tail _ (.tail _ (.tail _ (.tail _ (.tail _ hp)))))).1).length
    have hfl := fit.len
    have off0 : ∀ p ∈ tl, p.1 ≠ I := fun p hp => off p (.tail _ (.tail _ (.tail _ (.tail _ hp))))
    have oB : @Ne Nat S I := off _ (.head _)
    have ot3 : @Ne Nat t I := off (t, o3) (.tail _ (.head _))
    have oc3 : @Ne Nat c I := off (c, o4) (.tail _ (.tail _ (.head _)))
    have ol3 : @Ne Nat (L' + 1) I := off (L' + 1, oT) (.tail _ (.tail _ (.tail _ (.head _))))
    have hi2 := lin_i hi hr1
    have hn0 : n + 1 + 5 * i < 900 := lin_5 hn hi2
    have hvz : vs.length ≤ 16777216 := by rw [hvl]; exact Nat.le_trans hfl (Nat.le_trans (Nat.add_le_add_left hi2 _) (by decide))
    clear F1 N1 TR1 TR hi
    k_steps
    refine Stop.mk (join_int (nw := (I, oI) :: (S, listOf (List.toArray vs) ep) :: (t, o3) :: (c, o4) :: (L' + 1, oT) :: tl) F6 (if way = 2 then size else 0) ?_ ?_)
    · k_steps
      · exact Stop.mk ⟨_, _, _, by rw [if_pos (by assumption)], rfl, F6, N6⟩
      · exact Stop.mk ⟨_, _, _, by rw [if_neg (by assumption)], rfl, F6, N6⟩
    intro h7 tk7 t7 F7 N7
    have hz : 0 ≤ (if way = 2 then size else 0) ∧ (if way = 2 then size else 0) ≤ 257 := by split <;> walk_at "om"
    generalize (if way = 2 then size else 0) = z at hz ⊢
    clear F6 N6
    k_steps
    with_reducible rename News _ _ _ _ => N5
    with_reducible rename Fr _ _ _ _ => F5
    rename_i d od _ _ o5 o6 row TR5 hR5 hl1 hl2 hk5 _
    refine fin1 _ _ ?_
    refine LpEnd.mk (news' := (S, listOf (List.toArray (vs ++ [Value.ref d])) (ep + 1)) :: (t, o5) :: (c, o6) :: (L' + 1, oT) :: (d, od) :: tl) F5 (fun p hp => ?_) (fun p hp => ?_) (exI7 o5 o6 (vs ++ [.ref d]) (rs2 ++ [row]) ((d, od) :: tl) (ep + 1) _ ⟨rfl, rfl,
      by rw [lin_t]; exact TR5, fun h Hh => (hT2 h fun p hp => Hh p (.tail _ hp)).snoc (hR5 h (Hh _ (.head _))), ?_, fun _ => ⟨row, List.mem_append_right _ (.head _), List.length_pos_iff.mp (by walk_at "om")⟩, ?_, ?_, ?_⟩)
    · rw [← List.push_toArray] at hp
      simp only [List.mem_cons] at hp
      rcases hp with rfl | rfl | rfl | rfl | rfl | rfl | hp
      · exact N5 _ (.tail _ (.head _))
      · exact N5 _ (.tail _ (.tail _ (.head _)))
      · exact N5 _ (.tail _ (.tail _ (.tail _ (.head _))))
      · exact N5 _ (.tail _ (.tail _ (.tail _ (.tail _ (.head _)))))
      · exact N5 _ (.tail _ (.tail _ (.tail _ (.tail _ (.tail _ (.head _))))))
      · exact N5 _ (.head _)
      · exact N5 _ (.tail _ (.tail _ (.tail _ (.tail _ (.tail _ (.tail _ hp))))))
    · simp only [List.mem_cons] at hp
      rcases hp with rfl | rfl | rfl | rfl | rfl | hp
      · exact oB
      · exact ot3
      · exact oc3
      · exact ol3
      · exact fun e => ho5 _ (.head _) e.symm
      · exact off0 p hp
    · have := fit.snoc (r := row) ⟨.inl (by walk_at "om"), by walk_at "om"⟩ (fun p hp => by have := hk5 p hp; walk_at "om")
      exact this.mono (by walk_at "om") (by walk_at "om")
    · intro p hp
      rcases List.mem_cons.mp hp with rfl | hp
      · exact fun e => ho5 (t, o3) (.tail _ (.tail _ (.head _))) e.symm
      · exact ot2 p hp
    · intro p hp
      rcases List.mem_cons.mp hp with rfl | hp
      · exact fun e => ho5 (c, o4) (.tail _ (.tail _ (.tail _ (.head _)))) e.symm
      · exact oc2 p hp
    · intro p hp
      rcases List.mem_cons.mp hp with rfl | hp
      · exact fun e => hS5 e.symm
      · exact oS2 p hp
  · intro h6 tk6 m₂ nw F6 N6 hJ1
    refine hide ?_
    intro P ret1
    refine exE7 hJ1 ?_
    clear hJ1
    intro o3 o4 vs rs2 tl ep cv hE
    refine anE7 hE ?_
    clear hE
    intro hq1 hq2 TR2 hT2 fit hne hE
    refine anE3 hE ?_
    clear hE
    intro ot2 oc2 oS2
    subst hq1
    subst hq2
    refine ret1 ?_
    clear ret1 P
    obtain ⟨x, hx, hxn⟩ := hne (by walk_at "om")
    have hkl := keyed_le rs2
    have hkf := fit.full
    refine nx_go (by assumption) ?_
    refine law_b1 w dp un fr gd _ Q X T hdp hun t c S ep _ o3 o4 oT vs rs2 size kz (fr_eq F6 (pull2 (by rfl) (by rfl))) (tail := (S, listOf (List.toArray vs) ep) :: tl) ?_ dT TR2 (by walk_at "om") lct n1 n2 ?_ ?_ hs (.head _) (fun h Hh => hT2 h fun p hp => Hh p (.tail _ hp)) (fit.mono (by walk_at "om") (by walk_at "om")) (List.length_pos_of_mem hx) (keyed_pos ⟨x, hx, hxn⟩) (by walk_at "om") (fun h' tk' kk => ret h' tk' kk)
    · intro p hp
      simp only [List.mem_cons] at hp
      rcases hp with rfl | rfl | rfl | rfl | hp
      · exact N6 _ (.tail _ (.head _))
      · exact N6 _ (.tail _ (.tail _ (.head _)))
      · exact N6 _ (.tail _ (.tail _ (.tail _ (.head _))))
      · exact N6 _ (.head _)
      · exact N6 _ (.tail _ (.tail _ (.tail _ (.tail _ hp))))
    · intro p hp
      rcases List.mem_cons.mp hp with rfl | hp
      · exact s1
      · exact ot2 p hp
    · intro p hp
      rcases List.mem_cons.mp hp with rfl | hp
      · exact s2
      · exact oc2 p hp
end

end OR
section OI
open PySem PySem.W PyProof.Rows PySem.Calls PySem.Spec PyProof.Rows.LCg
theorem lines_OI : True := by
  k_with_none
  k_with "om" => first | ((repeat ((with_reducible rename (@LT.lt Nat _ _ _ ∧ _) => hq9); clear hq9)); (repeat ((with_reducible rename (@Ne Nat _ _) => hq9); clear hq9)); omega) | omega
  k_with "c room" => (dsimp only [AT, Around.deeper, Around.in1]; first | ((repeat refine room_up ?_); exact Nat.lt_of_lt_of_le (by assumption) (by decide)) | walk_at "om")
  k_with "setItem ref int" => (k_here; k_dflt (refine' setAt_any (by k_asm) (by k_asm) (by k_upd) (by decide) (by decide) (by decide) ?_; k_whole); intro _ _ _; (try k_sweep))
  k_with "eval ListComp" => (k_here; k_dflt (refine comp_stop (F₀ := by k_asm) (by with_unfolding_all rfl) (by decide) (by rfl) (by decide) (by rfl) ?_))
  k_with "k_all" => (refine tail_off (by assumption) ?_; (try dsimp only); first | assumption | walk_at "om")
  k_with "subscriptTail" => (k_here; (with_reducible show wpAny _ _ (subscriptTail _ _ (Value.ref _) (Value.int _ _)) _ _ _); k_dflt (refine' row_item (by k_asm) (by with_reducible assumption) (by assumption) ?_ (by with_unfolding_all rfl); k_whole); intro _)
  k_with "exec For Name Call cons nil" => (k_here; k_dflt (refine for_stop (by k_asm) (by with_unfolding_all rfl) (by with_unfolding_all rfl) ?_))
  k_with "call builtin:len" => (k_here; (with_reducible show wpAny _ _ (call (Value.builtin "len") [Value.ref _]) _ _ _); k_dflt (refine' len_base (by k_asm) (by assumption) (by first | assumption | walk_at "om") ?_; k_whole))
  k_with "call builtin:len" => (k_here; (with_reducible show wpAny _ _ (call (Value.builtin "len") [Value.ref _]) _ _ _); k_dflt (refine' len_led (by k_asm) (by k_memK) (by first | assumption | walk_at "om") ?_; k_whole))
  k_with "subscriptTail" => (k_here; (with_reducible show wpAny _ _ (subscriptTail _ _ (Value.ref _) (Value.int _ _)) _ _ _); k_dflt (refine' item_base (by k_asm) (by assumption) (by assumption) (by first | assumption | walk_at "om") (by first | assumption | walk_at "om") ?_; k_whole))
  k_with "c unit" => (dsimp only [AT, Around.deeper, Around.in1]; unfold cLine; first | exact Nat.lt_of_lt_of_le (by assumption) (by decide) | exact Nat.lt_of_lt_of_le (Nat.add_lt_add_right (by assumption) _) (by decide) | walk_at "om")
  k_with "eval Dict nil nil" => (k_here; k_dflt (refine' newDict_L (by k_asm) (by k_asm) (TopRead.nolimit (by k_asm)) ?_; k_whole); intro _ _ _ _ _ l1 _ _ _; (replace l1 := allLt_of l1; dsimp only [AllLt] at l1); (revert l1; intro _); (try k_sweep))
  k_with "newList" => (k_here; k_dflt (refine' newList_L (by k_asm) (by k_asm) ?_; k_whole); intro _ _ _ _ l1 _; (replace l1 := allLt_of l1; dsimp only [AllLt] at l1); (revert l1; intro _); (try k_sweep))
  k_with "call builtin:len" => (k_here; (with_reducible show wpAny _ _ (call (Value.builtin "len") [Value.ref _]) _ _ _); k_dflt (refine' len_row (by k_asm) (by assumption) (by first | assumption | walk_at "om") ?_; k_whole); intro _ _)
  k_with "exec For Name Name cons cons" => (k_here; k_dflt (refine for_stop (by k_asm) (by with_unfolding_all rfl) (by with_unfolding_all rfl) ?_))
  k_with "exec For Name Name cons nil" => (k_here; k_dflt (refine for_stop (by k_asm) (by with_unfolding_all rfl) (by with_unfolding_all rfl) ?_))
  k_with "exec For Name Name" => (k_here; k_dflt (refine for_stop (by k_asm) (by with_unfolding_all rfl) (by with_unfolding_all rfl) ?_))
  k_with "exec While" => (refine stop_at ?_)
  k_with "exec While Compare" => (refine stop_at ?_)
  k_with "exec While UnaryOp" => (refine stop_at ?_)
  k_with "setItem ref int" => (k_here; k_dflt (refine' setAt_any (by k_asm) (by k_asm) (by k_upd) (by walk_at "om") (by walk_at "om") (by walk_at "om") ?_; k_whole); intro _ _ _; (try k_sweep))
  k_with "c cj" => (first | assumption | exact And.left (by assumption) | exact And.right (by assumption) | exact And.left (And.right (by assumption)) | exact And.right (And.right (by assumption)) | exact And.left (And.right (And.right (by assumption))) | exact And.right (And.right (And.right (by assumption))) | exact And.left (And.right (And.right (And.right (by assumption)))) | exact And.right (And.right (And.right (And.right (by assumption)))) | exact And.left (And.right (And.right (And.right (And.right (by assumption))))) | exact And.right (And.right (And.right (And.right (And.right (by assumption))))) | exact And.left (And.right (And.right (And.right (And.right (And.right (by assumption)))))) | exact And.right (And.right (And.right (And.right (And.right (And.right (by assumption)))))) | exact And.left (And.right (And.right (And.right (And.right (And.right (And.right (by assumption))))))) | exact And.right (And.right (And.right (And.right (And.right (And.right (And.right (by assumption))))))) | exact And.left (And.right (And.right (And.right (And.right (And.right (And.right (And.right (by assumption)))))))) | exact And.right (And.right (And.right (And.right (And.right (And.right (And.right (And.right (by assumption)))))))) | exact And.left (And.right (And.right (And.right (And.right (And.right (And.right (And.right (And.right (by assumption))))))))) | exact And.right (And.right (And.right (And.right (And.right (And.right (And.right (And.right (And.right (by assumption))))))))) | exact And.left (And.right (And.right (And.right (And.right (And.right (And.right (And.right (And.right (And.right (by assumption)))))))))) | exact And.right (And.right (And.right (And.right (And.right (And.right (And.right (And.right (And.right (And.right (by assumption)))))))))))
  k_with "k_ne" => (refine neN ?_; (try dsimp only); first | assumption | exact Ne.symm (by assumption) | exact Nat.ne_of_lt (by walk_at "c cj") | exact Nat.ne_of_gt (by walk_at "c cj") | walk_at "c cj" | exact Ne.symm (by walk_at "c cj") | walk_at "om")
  k_with "execs cons" => ((try dsimp only at *); refine execs_hid ?_; intro Pst hNx)
  k_with "close" => (refine nx_go (by assumption) ?_; clear hNx; (try clear Pst))
  k_with "close" => (refine nr_go (by assumption) ?_; (try dsimp only))
  k_with "call ref" => (k_here; k_dflt (refine' use_dig (by k_asm) (by k_asm) (by k_asm) (by k_asm) (by assumption) (by k_updF) (by (intro _; k_updF)) (by assumption) (by first | decide | walk_at "om") (by first | decide | walk_at "om") (by first | assumption | walk_at "om") (by walk_at "c room") (by walk_at "c room") ?_; k_whole); intro _ _ _ _ _ _ _ _ _ _ _; (try k_sweep))
  k_with "call ref" => (k_here; k_dflt (refine' use_worth (by k_asm) (by k_asm) (by k_asm) (by k_asm) (by assumption) (by k_updF) (by (intro _; k_updF)) (by assumption) (by first | assumption | walk_at "om") (by walk_at "c room") (by walk_at "c room") ?_; k_whole); intro _ _ _ _ _ _ _ _ _; (try k_sweep))
  k_with "eval IfExp" => ((with_reducible show wpAny _ _ (eval (Expr.IfExp _ _ _ _) (envOfC _ _ _ _ _)) (fun _ _ => wpAny _ _ (spliced _) _ _ _) _ _); refine stop_at ?_)
  k_with "exec If" => ((fail_if_success (with_reducible show wpAny _ _ (exec _ _) (fun _ _ => Stop _) _ _)); refine stop_at ?_)
  k_with "exec Assign cons ListComp" => (k_here; k_dflt (refine comp_stopA (F₀ := by k_asm) (by rfl) (by with_unfolding_all rfl) (by with_unfolding_all rfl) (by decide) (by rfl) (by decide) (by rfl) (by rfl) (by rfl) ?_))
  k_with "call type:range" => (k_here; (with_unfolding_all refine range1_rows (by k_asm) (by k_asm) ?_); intro _ _ _ _ _ _ _ _ _)
  k_with "k_all" => assumption
  trivial
section
theorem C_law (w : World) (dp un : Nat) (fr : List Env) (gd : Option (List Code)) (s : Shared) (Q E : Value → Shared → Prop)
    (am : Amb w s.heap) (ax : Addr) (vs : List Value) (ns : List Int) (hl : s.heap.IsList ax vs.toArray) (hI : IntsAre vs ns) (hmx : ns.length ≤ 63)
    (hdp : dp < 302) (hun : un < 100)
    (ret : ∀ h' tk', (∀ b o, s.heap.get? b = some o → h'.get? b = some o) → Q (.bool true) { s with heap := h', toks := tk' }) :
    wpAny (model PySem.Challenge.rw_sf0018_01.row.prog w) (AT dp un fr gd) (call (.ref 390) [.ref ax]) Q E s := by
  obtain ⟨X, mean, mg, mb, T⟩ := am
  revert X; k_fill; intro X
  have st : s.heap.StaysIn s.heap := fun _ _ e => e
  refine wpAny_call ?_
  k_dflt (refine' enterC (binds := [(Str.ofString "script", .ref ax)]) ?k1 ?k2 ?k3 [] no_mods ?k6 ?k7 ?k8 ?k9 ?kB ?kD ?_ ?c2 ?c3 ?c4; (case k1 => assumption); (case k2 => assumption); (case k3 => assumption); (case k6 => k_is); (case k7 => k_is); (case k8 => ktr_room); (case k9 => exact BindsTo.of_eq rfl); (case kB => exact rfl); (case kD => decide +kernel); (case c2 => exact rfl); (case c3 => exact rfl); (case c4 => exact rfl))
  intro g L' h₁ tkk cells F N Y Xg Tg stg sgs kg lt lsz
  conv in (fnBody _) => whnf
  conv in (occs := *) (fnScope _) => all_goals whnf
  have hlg : g.IsList ax vs.toArray := hl.at fun o e => kg _ _ (by simp) e
  have hvl := hI.length
  k_steps
  refine C_trug w _ _ _ _ _ _ _ (by exact Amb.keeps ⟨Xg, _, _, _, Tg⟩ F.keep) ax vs ns (by exact hlg.at fun o e => F.keep _ o e) hI hmx (by walk_at "c room") (by walk_at "c room") ?_
  intro t c h2 tk2 a1 a2 TR gt gc ft fc lct kk
  obtain ⟨oc, rfl, dc⟩ := CellsAre.one Y
  clear Y
  replace F : Fr g L' h₁ (fun y => if y = Str.ofString "script" then some (.ref ax) else none) := by with_unfolding_all exact F
  simp only [List.cons_append, List.nil_append] at N
  obtain ⟨F2, N2⟩ := news_fresh (l := [(t, a1), (c, a2)]) N F kk (by
    intro q hq
    simp only [List.mem_cons, List.not_mem_nil, or_false] at hq
    rcases hq with rfl | rfl
    · exact ⟨ft, gt⟩
    · exact ⟨fc, gc⟩)
  simp only [List.cons_append, List.nil_append] at N2
  have n1 : @Ne Nat t (L' + 1) := fun e => by have := (N _ (.head _)).1; rw [← e, ft] at this; cases this
  have n2 : @Ne Nat c (L' + 1) := fun e => by have := (N _ (.head _)).1; rw [← e, fc] at this; cases this
  clear F N kk gt gc
  k_steps
  rename_i oT dT way _ _ kw _ _ hw0 hw1 _ ix _ _ _ e1 e2 hx0 hx1 TR2 kz D _ lD _ _ h3 F3 N3
  have hs := getD_all (P := fun z => 0 ≤ z ∧ z ≤ 257) (l := [0, 1, 126, 127, 128, 129, 254, 255, 256, 257]) (by decide) (by decide) ix.toNat
  generalize List.getD _ ix.toNat (0 : Int) = size at hs F3 N3 ⊢
  replace N3 : News g L' h3 _ := fun p hp => N3 p (.tail _ hp)
  clear hx0 hx1 lD dc
  clear ft fc TR h2
  refine Stop.mk (join_int (nw := [(t, e1), (c, e2), (L' + 1, oT)]) F3 (if way = 0 then size else 0) ?_ ?_)
  · k_steps
    · exact Stop.mk ⟨_, _, _, by rw [if_pos (by assumption)], rfl, F3, N3⟩
    · exact Stop.mk ⟨_, _, _, by rw [if_neg (by assumption)], rfl, F3, N3⟩
  clear F3 N3
  intro h4 tk4 t4 F3 N3
  have hs' : 0 ≤ (if way = 0 then size else 0) ∧ (if way = 0 then size else 0) ≤ 257 := by split <;> walk_at "om"
  generalize (if way = 0 then size else 0) = z at hs' ⊢
  k_steps
  with_reducible rename News _ _ _ _ => N1
  with_reducible rename Fr _ _ _ _ => F1
  refine Stop.mk (CompSrc.range (by rfl) F1 N1 (by assumption) (small_one (by walk_at "om") (by walk_at "om") (by walk_at "om") (by walk_at "om")) (rangeSize_nat _ _) (by rw [sizeLine_eq]; walk_at "om") ?_)
  clear F1 N1
  obtain ⟨Z, hZ, hZ1, hZ2, hZ3⟩ : ∃ Z : Nat, (∀ D : Nat, @LT.lt Nat _ t D → @LT.lt Nat _ (L' + 1) D → @LT.lt Nat _ Z D) ∧ @LE.le Nat _ t Z ∧ @LE.le Nat _ (L' + 1) Z ∧ @LE.le Nat _ c Z := by
    rcases Nat.le_total t (L' + 1) with q | q
    · exact ⟨L' + 1, fun D _ h => h, q, Nat.le_refl _, Nat.le_trans (Nat.le_of_lt lct) q⟩
    · exact ⟨t, fun D h _ => h, Nat.le_refl _, q, Nat.le_of_lt lct⟩
  intro gg
  refine rest_ind (fun i ys nw => ∃ tail, nw = [(t, e1), (c, e2), (L' + 1, oT)] ++ tail ∧ (∀ h, Holds tail h → RowsIn PySem.Challenge.rw_sf0018_01.row.prog w h ys (List.replicate i [])) ∧ (∀ q ∈ tail, @LT.lt Nat _ Z q.1)) ?_ ?_ ?_
  · exact ⟨[], rfl, fun _ _ => .nil, by simp⟩
  · intro i ys nw v I oI C oC D m₂ h tk E' hi hJ1 hv hC hx F9 N9 off ne
    refine hideB ?_
    intro Post1 fin1 P ret1
    refine Exists.elim hJ1 ?_
    clear hJ1
    intro tail hE
    refine anE3 hE ?_
    clear hE
    intro hq1 hR hlt
    subst hq1
    refine ret1 ?_
    clear ret1 P
    simp only [Off3, List.cons_append, List.nil_append] at off N9
    k_steps
    rename_i D2 h5 o5 F5 N5 lo5 hi5 ll5 l5
    refine fin1 _ _ ?_
    refine Stop.mk (CompEnd.intro F5 N5 ([(t, e1), (c, e2), (L' + 1, oT)] ++ (D2, o5) :: tail) ?_ ?_ trivial ⟨_, rfl, fun h Hh => ?_, ?_⟩)
    · simp only [List.cons_append, List.nil_append]; kcf_all
    · simp only [Off3, List.cons_append, List.nil_append]
      exact ⟨off.1, off.2.1, off.2.2.1, ⟨Nat.ne_of_gt l5.1, Nat.ne_of_gt l5.2.1, Nat.ne_of_gt l5.2.2.1⟩, off.2.2.2⟩
    · rw [List.replicate_succ']
      exact (hR h fun p hp => Hh p (.tail _ hp)).snoc ⟨lo5, [], Heap.dictOf_iff.mpr ⟨o5, Hh _ (.head _), hi5⟩, .nil⟩
    · intro q hq
      rcases List.mem_cons.mp hq with rfl | hq
      · exact hZ _ l5.2.2.2.1 l5.2.2.2.2.2.1
      · exact hlt q hq
  · intro ys nw hJ1
    refine hide ?_
    intro P ret1
    refine Exists.elim hJ1 ?_
    clear hJ1
    intro tail hE
    refine anE3 hE ?_
    clear hE
    intro hq1 hR hlt
    subst hq1
    refine ret1 ?_
    clear ret1 P
    intro B h tk F9 N9 off
    simp only [Off1, List.cons_append, List.nil_append] at off N9
    k_steps
    have hB := off1_all off.2.2.2
    refine Stop.mk (midway (fun s₂ => ∃ h' tk' ys rs tail ep, s₂ = { s with heap := h', toks := tk' } ∧ (Fr g L' h' fun y => if y = Str.ofString "states" then some (Value.ref B) else if y = Str.ofString "way" then some (Value.int way kw) else if y = Str.ofString "size" then some (Value.int size kz) else if y = Str.ofString "script" then some (Value.ref ax) else none) ∧
      News g L' h' ((B, listOf (List.toArray ys) ep) :: (t, e1) :: (c, e2) :: (L' + 1, oT) :: tail) ∧ (∀ h, Holds tail h → RowsIn PySem.Challenge.rw_sf0018_01.row.prog w h ys rs) ∧ RowsFit rs 258 1 ∧ (∀ q ∈ tail, @LT.lt Nat _ Z q.1) ∧ (∀ p ∈ tail, p.1 ≠ B)) ?_ ?_)
    · k_steps
      · with_reducible rename News _ _ _ _ => N1
        with_reducible rename Fr _ _ _ _ => F1
        refine Stop.mk (CompSrc.range (by rfl) F1 N1 (by assumption) (small_one (by walk_at "om") (by walk_at "om") (by walk_at "om") (by walk_at "om")) (rangeSize_nat _ _) (by rw [sizeLine_eq]; walk_at "om") ?_)
        clear F1 N1
        intro gg2
        refine rest_ind (fun i zs nw => ∃ tt ps qs, nw = [(B, lst ys), (t, e1), (c, e2), (L' + 1, oT)] ++ tt ∧ (∀ p ∈ tail, p ∈ tt) ∧ TupsIn tt zs ps ∧ RowVals ps qs ∧ qs.map (·.1) = (List.range i).map (fun (j : Nat) => (j : Int)) ∧ (∀ q ∈ tt, @LT.lt Nat _ Z q.1) ∧ (∀ p ∈ tt, p.1 ≠ B)) ?_ ?_ ?_
        · exact ⟨tail, [], [], rfl, fun _ h => h, .nil, .nil, rfl, hlt, hB⟩
        · intro i zs nw v I oI C oC D2 m₂ h5 tk5 E' hi hJ1 hJ2 hC hx F9 N9 off ne
          refine hideB ?_
          intro Post3 fin3 P ret1
          refine exE3 hJ1 ?_
          clear hJ1
          intro tt ps qs hE
          refine anE7 hE ?_
          clear hE
          intro hq1 hsub hT hV hq hlt2 hB2
          subst hq1
          obtain ⟨tv, rfl⟩ := hJ2
          refine ret1 ?_
          clear ret1 P
          simp only [Off3, List.cons_append, List.nil_append] at off N9
          k_steps
          rename_i D3 h6 F6 N6 l6
          refine fin3 _ _ ?_
          refine Stop.mk (CompEnd.intro F6 N6 ([(B, lst ys), (t, e1), (c, e2), (L' + 1, oT)] ++ (D3, { cls := Value.type "tuple", data := Data.seq #[Value.int (0 + (i : Int)) tv, Value.int (1 + (0 + (i : Int)).fmod 3) (tk5 + 1 + 1 + 1)] }) :: tt) ?_ ?_ trivial (exI3 _ _ _ ⟨rfl, fun p hp => .tail _ (hsub p hp), (hT.mono (fun _ hp => .tail _ hp)).snoc (.head _), hV.append (.cons .nil), ?_, ?_, ?_⟩))
          · simp only [List.cons_append, List.nil_append]; kcf_all
          · simp only [Off3, List.cons_append, List.nil_append]
            exact ⟨off.1, off.2.1, off.2.2.1, off.2.2.2.1, ⟨Nat.ne_of_gt l6.1, Nat.ne_of_gt l6.2.1, Nat.ne_of_gt l6.2.2.1⟩, off.2.2.2.2⟩
          · rw [List.map_append, hq, List.range_succ, List.map_append, Int.zero_add]; rfl
          · intro q hq
            rcases List.mem_cons.mp hq with rfl | hq
            · exact hZ _ l6.2.2.2.2.1 l6.2.2.2.2.2.2.1
            · exact hlt2 q hq
          · intro q hq
            rcases List.mem_cons.mp hq with rfl | hq
            · exact Nat.ne_of_gt l6.2.2.2.1
            · exact hB2 q hq
        · intro zs nw hJ1
          refine hide ?_
          intro P ret1
          refine exE3 hJ1 ?_
          clear hJ1
          intro tt ps qs hE
          refine anE7 hE ?_
          clear hE
          intro hq1 hsub hT hV hq hlt2 hB2
          subst hq1
          refine ret1 ?_
          clear ret1 P
          intro D2 h5 tk5 F9 N9 off
          simp only [Off1, List.cons_append, List.nil_append] at off N9
          k_steps
          have hpl := hV.length
          have hql : qs.length = (size - 0).toNat := by have := congrArg List.length hq; simpa using this
          have hNt := hT.pairs (prog := PySem.Challenge.rw_sf0018_01.row.prog) (w := w) (fun p hp => (N9 p (.tail _ (.tail _ (.tail _ (.tail _ (.tail _ hp)))))).1)
          refine dict_of_pairs (by rfl) (News.get N9 (.head _)) hNt (by walk_at "om") ?_
          intro d h6 tk6 hd0 kk hD
          have hyl := (hR h5 fun p hp => (N9 p (.tail _ (.tail _ (.tail _ (.tail _ (.tail _ (hsub p hp))))))).1).length
          rw [List.length_replicate] at hyl
          obtain ⟨od, es, epd, hod, hrd⟩ := hD
          obtain ⟨F6, N6, l6, ll6⟩ := news_add N9 F9 kk hd0 hod
          have lBd : @LT.lt Nat _ B d := l6 (B, lst ys) (.tail _ (.head _))
          have hlow : (d == sysModules) = false := beq_eq_false_iff_ne.mpr (Nat.ne_of_gt (Nat.lt_trans (Nat.lt_of_lt_of_le (modules_low Tg.nolimit) F6.above) ll6))
          have htd : @LT.lt Nat _ t d := l6 (t, e1) (.tail _ (.tail _ (.head _)))
          have hld : @LT.lt Nat _ (L' + 1) d := l6 (L' + 1, oT) (.tail _ (.tail _ (.tail _ (.tail _ (.head _)))))
          have hDd : @LT.lt Nat _ D2 d := l6 (D2, lst zs) (.head _)
          replace N6 : News g L' h6 ((d, od) :: (B, lst ys) :: (t, e1) :: (c, e2) :: (L' + 1, oT) :: tt) := fun p hp => by
            rcases List.mem_cons.mp hp with rfl | hp
            · exact N6 _ (.head _)
            · exact N6 _ (.tail _ (.tail _ hp))
          clear F9 N9 hNt kk hd0 l6 ll6
          k_steps
          with_reducible rename News _ _ _ _ => N7
          with_reducible rename Fr _ _ _ _ => F7
          rw [List.push_toArray] at N7
          refine Stop.mk ⟨rfl, _, _, ys ++ [.ref d], _ ++ [putAll [] qs], (d, od) :: tt, ys.length + 1, rfl, F7, fun p hp => ?_, fun h Hh => (hR h fun p hp => Hh p (.tail _ (hsub p hp))).snoc ⟨hlow, _, ⟨od, es, epd, Hh _ (.head _), hrd⟩, hV.storedAll .nil⟩, (RowsFit.snoc (RowsFit.empty _) ?_ ?_).mono (by walk_at "om") (by walk_at "om"), ?_, ?_⟩
          · simp only [List.mem_cons] at hp
            rcases hp with rfl | rfl | rfl | rfl | rfl | hp
            · exact N7 _ (.tail _ (.head _))
            · exact N7 _ (.tail _ (.tail _ (.head _)))
            · exact N7 _ (.tail _ (.tail _ (.tail _ (.head _))))
            · exact N7 _ (.tail _ (.tail _ (.tail _ (.tail _ (.head _)))))
            · exact N7 _ (.head _)
            · exact N7 _ (.tail _ (.tail _ (.tail _ (.tail _ (.tail _ hp)))))
          · rw [range_ok hq]; exact ⟨.inr (range_sorted hq), by walk_at "om"⟩
          · rw [range_ok hq]
            intro p hp
            have hm : p.1 ∈ qs.map (·.1) := List.mem_map_of_mem hp
            rw [hq] at hm
            obtain ⟨j, hj, e⟩ := List.mem_map.mp hm
            rw [List.mem_range] at hj
            rw [← e]
            walk_at "om"
          · intro q hq2
            rcases List.mem_cons.mp hq2 with rfl | hq2
            · exact hZ _ htd hld
            · exact hlt2 q hq2
          · intro q hq2
            rcases List.mem_cons.mp hq2 with rfl | hq2
            · exact Nat.ne_of_gt lBd
            · exact hB2 q hq2
      · exact Stop.mk ⟨rfl, _, _, ys, _, tail, _, rfl, F9, N9, hR, (RowsFit.empty _).mono (by walk_at "om") (by walk_at "om"), hlt, hB⟩
    · intro _ hJ1
      refine hide ?_
      intro P ret1
      refine exE6 hJ1 ?_
      clear hJ1
      intro h' tk' ys rs tail ep hE
      refine anE7 hE ?_
      clear hE
      intro hq1 F N hR fit hlt hB
      subst hq1
      refine ret1 ?_
      clear ret1 P
      refine nx_go (by assumption) ?_
      refine law_b w dp un fr gd _ _ Xg Tg (by walk_at "om") (by walk_at "om") t c B ep _ e1 e2 oT ys rs way size kw kz (fr_eq F (pull3 (by rfl) (by rfl) (by rfl))) N (by assumption) TR2 (by walk_at "om") lct n1 n2 (Ne.symm off.1) (Ne.symm off.2.1) (Ne.symm off.2.2.1) (tail_off hlt hZ1) (tail_off hlt hZ3) hB hs hR fit (fun h' tk' kk => ret h' tk' fun b o e => kk b o (kg b o (by simp) e))
end

end OI
end Walks
end Mine
namespace Mine
open PySem PySem.W PyProof.Rows PySem.Calls PySem.Spec PyProof.Rows.LCg
theorem lookup_mem {a : Addr} {o : Obj} : ∀ {l : Frag}, l.lookup a = some o → (a, o) ∈ l
  | [], h => by cases h
  | (b, x) :: l, h => by
    rw [List.lookup_cons] at h
    by_cases e : (a == b) = true
    · rw [e] at h
      cases h
      rw [show a = b from by simpa using e]
      exact .head _
    · rw [Bool.not_eq_true] at e
      rw [e] at h
      exact .tail _ (lookup_mem h)
/-- a piece of the heap that another bears too -/
theorem frag_sub {K K' : Frag} {h : Heap} (e : K.map (fun p => K'.lookup p.1) = K.map (fun p => some p.2)) (x : K'.In h) : K.In h :=
  fun a o ho => x a o (List.map_inj_left.mp e _ (lookup_mem ho))
theorem top_eq {p p' : Program} {mean : ExcName → Option Value} {mg mb : Str → Option Value} {h : Heap} (e : p = p') (T : Top p (looseW p []) mean mg mb h) : Top p' (looseW p' []) mean mg mb h := e ▸ T
theorem lines_none : True := by
  k_with_none
  trivial
theorem fin.tw17963964198891936676 : True := trivial
theorem fin.tw6667815254911646788 : True := trivial
theorem fin.tw14345562132136545540 : True := trivial
theorem fin.tw10567028658651823492 : True := trivial
theorem fin.tw2775396313129547428 : True := trivial
theorem fin.tw11615019562542576733 : True := trivial
theorem fin.tw544173102793226557 : True := trivial
theorem fin.tw6144012678527597917 : True := trivial
theorem fin.tw3456623496861543869 : True := trivial
theorem fin.tw1012361349325877821 : True := trivial
theorem fin.tw11061592194353771069 : True := trivial
theorem fin.tw5115476493328737885 : True := trivial
theorem fin.tw895571856199123645 : True := trivial
theorem fin.tw12649782002744950493 : True := trivial
theorem fin.tw17260493314774615805 : True := trivial
theorem fin.tw6068950659093879613 : True := trivial
theorem fin.tw16307707646766795581 : True := trivial
theorem fin.tw7995362448368537469 : True := trivial
theorem fin.tw4719063310657182621 : True := trivial
theorem fin.tw3105451386036433885 : True := trivial
theorem fin.tw15688172546075569117 : True := trivial
theorem fin.tw12669758225909598566 : True := trivial
theorem fin.tw1951045429614898598 : True := trivial
theorem fin.tw17637551073024348614 : True := trivial
theorem fin.tw3199103547748192838 : True := trivial
theorem fin.tw17130245016438642246 : True := trivial
theorem fin.tw4924110625330727750 : True := trivial
theorem fin.tw10807920368746810246 : True := trivial
theorem fin.tw4171678462856256454 : True := trivial
theorem fin.tw11273041486466551846 : True := trivial
theorem fin.tw10895054467252067526 : True := trivial
theorem fin.tw16275787546110486726 : True := trivial
theorem fin.tw12833947400113492166 : True := trivial
theorem fin.tw12237877928780879103 : True := trivial
theorem fin.tw17628183408451194143 : True := trivial
theorem fin.tw7547296005191728479 : True := trivial
theorem fin.tw6707113841082798463 : True := trivial
theorem fin.tw4754365596532378047 : True := trivial
theorem fin.tw2608567993692976607 : True := trivial
theorem fin.tw17784850919643140607 : True := trivial
theorem fin.tw16175276709679454751 : True := trivial
theorem fin.tw15830942623838425631 : True := trivial
theorem fin.tw4099142471793051199 : True := trivial
theorem fin.tw2236755162388048479 : True := trivial
theorem fin.tw4265850918314828415 : True := trivial
theorem fin.tw12829507556594621215 : True := trivial
theorem fin.tw3459265974087741279 : True := trivial
theorem fin.tw14497727239971306367 : True := trivial
theorem fin.tw16510490156224867327 : True := trivial
theorem fin.tw12740692763255036000 : True := trivial
theorem fin.tw18105285910621931680 : True := trivial
theorem fin.tw6435670951450185984 : True := trivial
theorem fin.tw4209717502836232480 : True := trivial
theorem fin.tw10599938827571368224 : True := trivial
theorem fin.tw1544503264643628384 : True := trivial
theorem fin.tw828056024939588000 : True := trivial
theorem fin.tw4640724917100965312 : True := trivial
theorem fin.tw17801579834951734752 : True := trivial
theorem fin.tw14109310954907245088 : True := trivial
theorem fin.tw799341379326975648 : True := trivial
theorem fin.tw6515953530934532768 : True := trivial
theorem fin.tw8656503046869711584 : True := trivial
theorem fin.tw11298980531735778240 : True := trivial
theorem fin.tw15533503492667675913 : True := trivial
theorem fin.tw1921391257341544841 : True := trivial
theorem fin.tw16656299143469825513 : True := trivial
theorem fin.tw4684940682943077961 : True := trivial
theorem fin.tw3004984022683251337 : True := trivial
theorem fin.tw17570709534508481193 : True := trivial
theorem fin.tw8352470293576582857 : True := trivial
theorem fin.tw9387745189664136937 : True := trivial
theorem fin.tw16196181902256332553 : True := trivial
theorem fin.tw7830629276484211593 : True := trivial
theorem fin.tw1422313219903470601 : True := trivial
theorem fin.tw12946824338688289833 : True := trivial
theorem fin.tw3343445320678177929 : True := trivial
theorem fin.tw18255404467826089762 : True := trivial
theorem fin.tw12180539936304867106 : True := trivial
theorem fin.tw4769821431679368130 : True := trivial
theorem fin.tw12962497063298326498 : True := trivial
theorem fin.tw5486226609284752418 : True := trivial
theorem fin.tw17717364068325071970 : True := trivial
theorem fin.tw9357874355931990178 : True := trivial
theorem fin.tw15675102808854859970 : True := trivial
theorem fin.tw12448240930570709186 : True := trivial
theorem fin.tw8018989035897545986 : True := trivial
theorem fin.tw17790579636069175650 : True := trivial
theorem fin.tw13337293482115323266 : True := trivial
theorem fin.tw10829458402184033698 : True := trivial
theorem fin.tw10699407837109476802 : True := trivial
theorem fin.tw2824846461999071874 : True := trivial
theorem fin.tw10242451874928486539 : True := trivial
theorem fin.tw13870153662132920491 : True := trivial
theorem fin.tw8399098705505230059 : True := trivial
theorem fin.tw17821466097196317003 : True := trivial
theorem fin.tw14210890002308233579 : True := trivial
theorem fin.tw7661832156752021035 : True := trivial
theorem fin.tw16285329926789087883 : True := trivial
theorem fin.tw15741700470354863883 : True := trivial
theorem fin.tw5962627729488381771 : True := trivial
theorem fin.tw17416127249078093707 : True := trivial
theorem fin.tw6449190631224713292 : True := trivial
theorem fin.tw8569027658895312972 : True := trivial
theorem fin.tw1963134401048803436 : True := trivial
theorem fin.tw17347454772498655404 : True := trivial
theorem fin.tw16496857829328116044 : True := trivial
theorem fin.tw6207176494656529804 : True := trivial
theorem fin.tw5734618986648460908 : True := trivial
theorem fin.tw803859442106103436 : True := trivial
theorem fin.tw10070804522480449196 : True := trivial
theorem fin.tw6634307039904815820 : True := trivial
theorem fin.tw10196768644732416780 : True := trivial
theorem fin.tw18295790063311454060 : True := trivial
theorem fin.tw2305881189932309285 : True := trivial
theorem fin.tw7613857476909055813 : True := trivial
theorem fin.tw17519925290374975397 : True := trivial
theorem fin.tw7613945582906998725 : True := trivial
theorem fin.tw13925877587632400325 : True := trivial
theorem fin.tw9260378047223084069 : True := trivial
theorem fin.tw1560641971993327685 : True := trivial
theorem fin.tw7716820226725407877 : True := trivial
theorem fin.tw14563970920090943685 : True := trivial
theorem fin.tw7929640520542984453 : True := trivial
theorem fin.tw16980078003425100165 : True := trivial
theorem fin.tw8269367382603917829 : True := trivial
theorem fin.tw612862322836996645 : True := trivial
theorem fin.tw6956187926921108005 : True := trivial
theorem fin.tw14578271805448956485 : True := trivial
theorem fin.tw5102460946473063141 : True := trivial
theorem fin.tw17197158672614542318 : True := trivial
theorem fin.tw14728723275428758510 : True := trivial
theorem fin.tw4950403968356008110 : True := trivial
theorem fin.tw2304379251839397102 : True := trivial
theorem fin.tw12557769604369416430 : True := trivial
theorem fin.tw9913140749668108558 : True := trivial
theorem fin.tw6381419901266130222 : True := trivial
theorem fin.tw17656766251404061198 : True := trivial
theorem fin.tw1982079694162106894 : True := trivial
theorem fin.tw5071919506433949198 : True := trivial
theorem fin.tw6566618420281934 : True := trivial
theorem fin.tw7684487725183542926 : True := trivial
theorem fin.tw14166196953294261902 : True := trivial
theorem fin.tw17743408960866722510 : True := trivial
theorem fin.tw7675655780812522254 : True := trivial
theorem fin.tw5897612983314593646 : True := trivial
theorem fin.tw2512408688544751470 : True := trivial
theorem fin.tw8577089030196625639 : True := trivial
theorem fin.tw12696600883282566439 : True := trivial
theorem fin.tw8330952907988395303 : True := trivial
theorem fin.tw12118000046449163591 : True := trivial
theorem fin.tw9218923581257491847 : True := trivial
theorem fin.tw17123178472405020103 : True := trivial
theorem fin.tw12409915417874342407 : True := trivial
theorem fin.tw3112429581023547943 : True := trivial
theorem fin.tw10383673109516279431 : True := trivial
theorem fin.tw13360279666012451719 : True := trivial
theorem fin.tw14856888987745899463 : True := trivial
theorem fin.tw1976505206021243879 : True := trivial
theorem fin.tw7380833856163905736 : True := trivial
theorem fin.tw14679806638718605512 : True := trivial
theorem fin.tw11466478281803324712 : True := trivial
theorem fin.tw12494888245299231016 : True := trivial
theorem fin.tw4040260094072895976 : True := trivial
theorem fin.tw10925335251469727208 : True := trivial
theorem fin.tw2976117146107443816 : True := trivial
theorem fin.tw14431720936831517352 : True := trivial
theorem fin.tw1625080806587739848 : True := trivial
theorem fin.tw11897717083992391400 : True := trivial
theorem fin.tw15149952090015108872 : True := trivial
theorem fin.tw8919302590299486024 : True := trivial
theorem fin.tw3974152918291533672 : True := trivial
theorem fin.tw428092273266315144 : True := trivial
theorem fin.tw3125960719983571848 : True := trivial
theorem fin.tw999798209818781672 : True := trivial
theorem fin.tw5098551885099359569 : True := trivial
theorem fin.tw18387650150990424433 : True := trivial
theorem fin.tw17869975865946814897 : True := trivial
theorem fin.tw480829909506669009 : True := trivial
theorem fin.tw15832999045522443761 : True := trivial
theorem fin.tw3404873503106905745 : True := trivial
theorem fin.tw14075178694198228753 : True := trivial
theorem fin.tw14055123535094080273 : True := trivial
theorem fin.tw5320702786494000081 : True := trivial
theorem fin.tw2656788454239962097 : True := trivial
theorem fin.tw1252854909445205041 : True := trivial
theorem fin.tw4312942655851389009 : True := trivial
theorem fin.tw3173534031939492945 : True := trivial
theorem fin.tw2462912638960843985 : True := trivial
theorem fin.tw10852849658779182186 : True := trivial
theorem fin.tw16906536467411238026 : True := trivial
theorem fin.tw757079261281740938 : True := trivial
theorem fin.tw884059145510264010 : True := trivial
theorem fin.tw6081921254191324426 : True := trivial
theorem fin.tw8559517257967667466 : True := trivial
theorem fin.tw13898374239775968522 : True := trivial
theorem fin.tw12149302876761508202 : True := trivial
theorem fin.tw4868334931027891882 : True := trivial
theorem fin.tw2866121171748074186 : True := trivial
theorem fin.tw12711679700452659978 : True := trivial
theorem fin.tw14139026862911339306 : True := trivial
theorem fin.tw14568449535678555946 : True := trivial
theorem fin.tw4588413851689716618 : True := trivial
theorem fin.tw10874316729293906858 : True := trivial
theorem fin.tw14560573928864763818 : True := trivial
theorem fin.tw12284014389350100970 : True := trivial
theorem fin.tw16502652511500755 : True := trivial
theorem fin.tw891787732878383699 : True := trivial
theorem fin.tw4768634762848416435 : True := trivial
theorem fin.tw16540275574145912595 : True := trivial
theorem fin.tw17974384156558142227 : True := trivial
theorem fin.tw17933470926392208243 : True := trivial
theorem fin.tw14574801432027512755 : True := trivial
theorem fin.tw18373065035072037172 : True := trivial
theorem fin.tw17430205856086898164 : True := trivial
theorem fin.tw12212933522069011988 : True := trivial
theorem fin.tw6567050819087999508 : True := trivial
theorem fin.tw14814673180317915700 : True := trivial
theorem fin.tw888132650186811988 : True := trivial
theorem fin.tw11079828417688620724 : True := trivial
theorem fin.tw10936777179133785780 : True := trivial
theorem fin.tw12464766053444552404 : True := trivial
theorem fin.tw9247658263007524724 : True := trivial
theorem fin.tw3998398428148030388 : True := trivial
theorem fin.tw7321584467024264148 : True := trivial
theorem fin.tw6718411051458867188 : True := trivial
theorem fin.tw3598329298470268980 : True := trivial
theorem fin.tw15344004072050561172 : True := trivial
theorem fin.tw1080700006314346644 : True := trivial
theorem fin.tw7282745182861764756 : True := trivial
theorem fin.tw5011121235533021005 : True := trivial
theorem fin.tw16229209127682248589 : True := trivial
theorem fin.tw6531376189190222733 : True := trivial
theorem fin.tw17698704350827878285 : True := trivial
theorem fin.tw9001875181463519149 : True := trivial
theorem fin.tw12629903358213643309 : True := trivial
theorem fin.tw12876116671307685997 : True := trivial
theorem fin.tw8289400949097046189 : True := trivial
theorem fin.tw16109372258727991565 : True := trivial
theorem fin.tw16530489862217454893 : True := trivial
theorem fin.tw2617349483901765261 : True := trivial
theorem fin.tw13093503161671486093 : True := trivial
theorem fin.tw7845872953664198349 : True := trivial
theorem fin.tw5680927227877331926 : True := trivial
theorem fin.tw9544026089342320630 : True := trivial
theorem fin.tw4759752924163587094 : True := trivial
theorem fin.tw6712194924023145494 : True := trivial
theorem fin.tw4598667867955821814 : True := trivial
theorem fin.tw9806666330580929782 : True := trivial
theorem fin.tw17449020081951674710 : True := trivial
theorem fin.tw4162185377826839926 : True := trivial
theorem fin.tw783483362715066742 : True := trivial
theorem fin.tw333583748066197110 : True := trivial
theorem fin.tw6127190174262240918 : True := trivial
theorem fin.tw15399907426655090358 : True := trivial
theorem fin.tw3263211703599914710 : True := trivial
theorem fin.tw10147658903529517814 : True := trivial
theorem fin.tw2910385600587045654 : True := trivial
theorem fin.tw13021059552284102479 : True := trivial
theorem fin.tw11154830654865731599 : True := trivial
theorem fin.tw13929302177132474383 : True := trivial
theorem fin.tw10391319463526535247 : True := trivial
theorem fin.tw1535588207084551279 : True := trivial
theorem fin.tw2415902012162501839 : True := trivial
theorem fin.tw7000300075881102575 : True := trivial
theorem fin.tw13986207377985139951 : True := trivial
theorem fin.tw3268265519342814607 : True := trivial
theorem fin.tw6323506392446703087 : True := trivial
theorem fin.tw8581152291734615759 : True := trivial
theorem fin.tw12751662967071866640 : True := trivial
theorem fin.tw2321816554428607280 : True := trivial
theorem fin.tw1635022588487117616 : True := trivial
theorem fin.tw13383306551100868464 : True := trivial
theorem fin.tw16958243865122950064 : True := trivial
theorem fin.tw11336253725339858928 : True := trivial
theorem fin.tw6454446336052903152 : True := trivial
theorem fin.tw13790858721211988464 : True := trivial
theorem fin.tw12996517811204074000 : True := trivial
theorem fin.tw3222278782482380304 : True := trivial
theorem fin.tw982560976839675504 : True := trivial
theorem fin.tw13815853411582834384 : True := trivial
theorem fin.tw16252508478716706905 : True := trivial
theorem fin.tw8272817396058243321 : True := trivial
theorem fin.tw17041991840579044601 : True := trivial
theorem fin.tw5805905742469029177 : True := trivial
theorem fin.tw18230178534529381785 : True := trivial
theorem fin.tw3028926083550364057 : True := trivial
theorem fin.tw17896612028031085017 : True := trivial
theorem fin.tw12550770813317053977 : True := trivial
theorem fin.tw3975253019698251321 : True := trivial
theorem fin.tw5293390819737331289 : True := trivial
theorem fin.tw6455845175183424153 : True := trivial
theorem fin.tw14347400895652799225 : True := trivial
theorem fin.tw8416529770105884409 : True := trivial
theorem fin.tw9722632081671974098 : True := trivial
theorem fin.tw11587955951900863698 : True := trivial
theorem fin.tw10907391636593693970 : True := trivial
theorem fin.tw1887099378405440850 : True := trivial
theorem fin.tw12105171945263650130 : True := trivial
theorem fin.tw5073790198343104882 : True := trivial
theorem fin.tw8643116662766533202 : True := trivial
theorem fin.tw11875381402373810866 : True := trivial
theorem fin.tw3837020019201816242 : True := trivial
theorem fin.tw9363291351745731410 : True := trivial
theorem fin.tw17971676594858020690 : True := trivial
theorem fin.tw6766580051018981234 : True := trivial
theorem fin.tw4570111826955561243 : True := trivial
theorem fin.tw807531904560671035 : True := trivial
theorem fin.tw13724452099449386491 : True := trivial
theorem fin.tw11039862389202566683 : True := trivial
theorem fin.tw17164383140453370395 : True := trivial
theorem fin.tw15564276425815640635 : True := trivial
theorem fin.tw3243682811363688027 : True := trivial
theorem fin.tw15201286185872193147 : True := trivial
theorem fin.tw2226738975062844091 : True := trivial
theorem fin.tw7055459427971326715 : True := trivial
theorem fin.tw9997704412844104603 : True := trivial
theorem fin.tw8947099994592609211 : True := trivial
theorem fin.tw10875463905939285979 : True := trivial
theorem fin.tw16103849850496634939 : True := trivial
theorem fin.tw10511823565363050587 : True := trivial
theorem fin.tw5796354222422608987 : True := trivial
theorem fin.tw1666694428299288667 : True := trivial
theorem fin.tw3812028171767442716 : True := trivial
theorem fin.tw15309079848183770524 : True := trivial
theorem fin.tw3955986520655104412 : True := trivial
theorem fin.tw3314143786362844604 : True := trivial
theorem fin.tw7779959011674639804 : True := trivial
theorem fin.tw7976502392129159676 : True := trivial
theorem fin.tw17861066769153400444 : True := trivial
theorem fin.tw9746901515087519452 : True := trivial
theorem fin.tw6232080684201472732 : True := trivial
theorem fin.tw16237762584071213788 : True := trivial
theorem fin.tw16256441300576474876 : True := trivial
theorem fin.tw251868834278440796 : True := trivial
theorem fin.tw12355744275394475900 : True := trivial
theorem fin.tw6650461044873433052 : True := trivial
theorem fin.tw14333544728242365436 : True := trivial
theorem fin.tw111200028466390044 : True := trivial
theorem fin.tw7890596953891613788 : True := trivial
theorem fin.tw216489041496292469 : True := trivial
theorem fin.tw11040825799340251285 : True := trivial
theorem fin.tw8025084765662995669 : True := trivial
theorem fin.tw14517287926952318261 : True := trivial
theorem fin.tw380778119907437045 : True := trivial
theorem fin.tw2537931557510868981 : True := trivial
theorem fin.tw17719728818120068181 : True := trivial
theorem fin.tw12221555665107904926 : True := trivial
theorem fin.tw6968583824967984638 : True := trivial
theorem fin.tw10580198807604790814 : True := trivial
theorem fin.tw4326780796455107134 : True := trivial
theorem fin.tw13294311002278339166 : True := trivial
theorem fin.tw846297522682114974 : True := trivial
theorem fin.tw7470013935711676318 : True := trivial
theorem fin.tw1014637456484912126 : True := trivial
theorem fin.tw1613116972386908190 : True := trivial
theorem fin.tw15373703851562958014 : True := trivial
theorem fin.tw1819255440876223710 : True := trivial
theorem fin.tw14245171486683049214 : True := trivial
theorem fin.tw1397303283331804279 : True := trivial
theorem fin.tw1717465138777567415 : True := trivial
theorem fin.tw3810338749695602999 : True := trivial
theorem fin.tw18195182924450695511 : True := trivial
theorem fin.tw8383268338085895543 : True := trivial
theorem fin.tw7415010568414044599 : True := trivial
theorem fin.tw8668149382578428375 : True := trivial
theorem fin.tw3683778510129048087 : True := trivial
theorem fin.tw7077020645477063223 : True := trivial
theorem fin.tw13199158710529813207 : True := trivial
theorem fin.tw12977279227502587607 : True := trivial
theorem fin.tw10751089155417173751 : True := trivial
theorem fin.tw4218790737952374519 : True := trivial
theorem fin.tw4878226113927451544 : True := trivial
theorem fin.tw17204297501091165112 : True := trivial
theorem fin.tw4898026214463823928 : True := trivial
theorem fin.tw13516622038369049944 : True := trivial
theorem fin.tw10329872625359487480 : True := trivial
theorem fin.tw13177410634674063896 : True := trivial
theorem fin.tw15621619335703214680 : True := trivial
theorem fin.tw17362494058136835672 : True := trivial
theorem fin.tw4788878847521262168 : True := trivial
theorem fin.tw5776136370200156792 : True := trivial
theorem fin.tw876206183137641144 : True := trivial
theorem fin.tw9746214513668125432 : True := trivial
theorem fin.tw4928979718650693569 : True := trivial
theorem fin.tw8119881530291889089 : True := trivial
theorem fin.tw5678346346211369953 : True := trivial
theorem fin.tw16926796629830329345 : True := trivial
theorem fin.tw11192643925408225281 : True := trivial
theorem fin.tw7522001649326652513 : True := trivial
theorem fin.tw11575174756993882273 : True := trivial
theorem fin.tw7249652514872940865 : True := trivial
theorem fin.tw15566928917628492161 : True := trivial
theorem fin.tw15815952407149668801 : True := trivial
theorem fin.tw4443050520305737185 : True := trivial
theorem fin.tw452842511749404161 : True := trivial
theorem fin.tw5647864574477489665 : True := trivial
theorem fin.tw14838103818555229697 : True := trivial
theorem fin.tw15205425988870721313 : True := trivial
theorem fin.tw8408514402456403777 : True := trivial
theorem fin.tw18105942590061964161 : True := trivial
theorem fin.tw6058378993454661626 : True := trivial
theorem fin.tw16205109500356779066 : True := trivial
theorem fin.tw7803649310394182010 : True := trivial
theorem fin.tw12869217540446652890 : True := trivial
theorem fin.tw12567809125941998234 : True := trivial
theorem fin.tw12876064707754696378 : True := trivial
theorem fin.tw16401934584784274106 : True := trivial
theorem fin.tw9725021084223525626 : True := trivial
theorem fin.tw11151619158091525091 : True := trivial
theorem fin.tw18082680734076937219 : True := trivial
theorem fin.tw13467322939085005891 : True := trivial
theorem fin.tw670465573061467203 : True := trivial
theorem fin.tw8590288500278120515 : True := trivial
theorem fin.tw9966731872082626627 : True := trivial
theorem fin.tw4170516301191304579 : True := trivial
theorem fin.tw7930893340574950883 : True := trivial
theorem fin.tw9113340658982188547 : True := trivial
theorem fin.tw16115155874713506467 : True := trivial
theorem fin.tw5402249366112354979 : True := trivial
theorem fin.tw11454252539852477091 : True := trivial
theorem fin.tw3762306804915933987 : True := trivial
theorem fin.tw15989303212955285315 : True := trivial
theorem fin.tw12135189313929291683 : True := trivial
theorem fin.tw13533171890681512783 : True := trivial
theorem fin.tw13397893168249242424 : True := trivial
set_option Elab.async true in
set_option maxHeartbeats 8000000 in
theorem fin : PySem.Challenge.rw_sf0018_01.Holds := by
  w_on; o_law; k_head
  case hw => w_witness2
  case hc =>
    intro w s₀ s₁ mg mb G Y fa o pm cd doc dV kV ho hdd hcd hD hmg hg args vals as hpre hlay hrd hwl hlo
    have KX : (KD w.params).In s₁.heap := frag_sub (by kernel_rfl) (kIn_of Y)
    refine Ground.open G ?_
    intro T B D TE TW
    have T' : Top VD (looseW VD []) (ExcName.means s₀.heap) mg mb s₁.heap := top_eq (by kernel_rfl) T
    have hfa : fa = 390 := by
      have e := mg_of (n := Str.ofString "law") KX T'.g (v := .ref 390) (by kernel_rfl)
      have e2 := e.symm.trans hmg
      cases e2
      rfl
    subst hfa
    clear D TE TW B ho hdd hcd hD hmg T Y
    wrow_args hpre hlay hrd hwl hlo
    with_reducible rename Heap.IsList _ _ _ => hL
    with_reducible rename IntsAre _ _ => hI
    refine C_law w _ _ _ _ s₁ _ _ ⟨KX, _, _, _, T'⟩ _ _ _ hL hI (by omega) (by decide) (by decide) ?_
    intro h' tk' keep
    exact GoodW.toG ⟨.inl ⟨_, _, _, rfl, fun _ => rfl, .bool true, by kernel_rfl, unshared_nil⟩, keep, rfl, hg⟩

end Mine
theorem PySem.Challenge.cw_sf0018_01_holds : PySem.Challenge.rw_sf0018_01.Holds :=
  Mine.fin
