import PyProof.Rows.All
import Wide.All
import OpenK.AllK
import Wide.FinOn
import PySem.Challenge.RW_pb0248_01
open PySem PySem.W PyProof.Rows
set_option Elab.async false
set_option maxRecDepth 100000
set_option maxHeartbeats 8000000
namespace Mine
open PySem.Calls PySem.Spec
abbrev PG : Program := PySem.Challenge.rw_pb0248_01.row.prog
abbrev pw : Program := PySem.Challenge.pw_pb0248_01
def st : List Stmt → Nat → Stmt
  | s :: _, 0 => s
  | _ :: r, n + 1 => st r n
  | [], _ => .Pass default
def members : Stmt → List Stmt
  | .ClassDef _ _ _ b _ _ _ _ _ _ _ => b
  | _ => []
def fArgs : Stmt → Arguments
  | .FunctionDef _ a _ _ _ _ _ _ _ _ => a
  | _ => default
def fBody : Stmt → List Stmt
  | .FunctionDef _ _ b _ _ _ _ _ _ _ => b
  | _ => []
def fScope : Stmt → Scope
  | .FunctionDef _ _ _ _ _ _ s _ _ _ => s
  | _ => default
noncomputable def vwOf (p : Program) : Program := { p with main := { p.main with body := [st p.main.body 0, st p.main.body 2, st p.main.body 4, st p.main.body 5, st p.main.body 7, st p.main.body 9, st p.main.body 11, st p.main.body 12, st p.main.body 13, st p.main.body 14] } }
noncomputable def vw : Program := vwOf pw
noncomputable def o_2 (P : Params) : Obj := { cls := Value.none, data := Data.dict #[{ hash := PyData.keyHash P (⟨#[116, 121, 112, 101, 46, 95, 95, 115, 117, 98, 99, 108, 97, 115, 115, 101, 115, 95, 95, 46, 69, 120, 99, 101, 112, 116, 105, 111, 110, 46, 48]⟩), key := Value.str (⟨#[116, 121, 112, 101, 46, 95, 95, 115, 117, 98, 99, 108, 97, 115, 115, 101, 115, 95, 95, 46, 69, 120, 99, 101, 112, 116, 105, 111, 110, 46, 48]⟩) 243, val := Value.int 54 0 }, { hash := PyData.keyHash P (⟨#[116, 121, 112, 101, 46, 95, 95, 115, 117, 98, 99, 108, 97, 115, 115, 101, 115, 95, 95, 46, 69, 120, 99, 101, 112, 116, 105, 111, 110, 46, 110]⟩), key := Value.str (⟨#[116, 121, 112, 101, 46, 95, 95, 115, 117, 98, 99, 108, 97, 115, 115, 101, 115, 95, 95, 46, 69, 120, 99, 101, 112, 116, 105, 111, 110, 46, 110]⟩) 244, val := Value.int 1 0 }] 2 }
noncomputable def o_3 (P : Params) : Obj := { cls := Value.type "dict", data := Data.dict #[{ hash := PyData.keyHash P (⟨#[95, 95, 110, 97, 109, 101, 95, 95]⟩), key := Value.str (⟨#[95, 95, 110, 97, 109, 101, 95, 95]⟩) 165, val := Value.str (⟨#[108, 97, 119, 95, 112, 98, 48, 50, 52, 56, 95, 48, 49]⟩) 510 }, { hash := PyData.keyHash P (⟨#[95, 95, 100, 111, 99, 95, 95]⟩), key := Value.str (⟨#[95, 95, 100, 111, 99, 95, 95]⟩) 166, val := Value.none }, { hash := PyData.keyHash P (⟨#[95, 95, 112, 97, 99, 107, 97, 103, 101, 95, 95]⟩), key := Value.str (⟨#[95, 95, 112, 97, 99, 107, 97, 103, 101, 95, 95]⟩) 167, val := Value.none }, { hash := PyData.keyHash P (⟨#[95, 95, 108, 111, 97, 100, 101, 114, 95, 95]⟩), key := Value.str (⟨#[95, 95, 108, 111, 97, 100, 101, 114, 95, 95]⟩) 168, val := Value.builtin "__main__.__loader__#opaque" }, { hash := PyData.keyHash P (⟨#[95, 95, 115, 112, 101, 99, 95, 95]⟩), key := Value.str (⟨#[95, 95, 115, 112, 101, 99, 95, 95]⟩) 169, val := Value.none }, { hash := PyData.keyHash P (⟨#[95, 95, 97, 110, 110, 111, 116, 97, 116, 105, 111, 110, 115, 95, 95]⟩), key := Value.str (⟨#[95, 95, 97, 110, 110, 111, 116, 97, 116, 105, 111, 110, 115, 95, 95]⟩) 170, val := Value.ref 6 }, { hash := PyData.keyHash P (⟨#[95, 95, 98, 117, 105, 108, 116, 105, 110, 115, 95, 95]⟩), key := Value.str (⟨#[95, 95, 98, 117, 105, 108, 116, 105, 110, 115, 95, 95]⟩) 171, val := Value.ref 4 }, { hash := PyData.keyHash P (⟨#[95, 95, 102, 105, 108, 101, 95, 95]⟩), key := Value.str (⟨#[95, 95, 102, 105, 108, 101, 95, 95]⟩) 173, val := Value.str (⟨#[47, 99, 108, 97, 105, 109, 47, 99, 117, 116, 46, 112, 121]⟩) 172 }, { hash := PyData.keyHash P (⟨#[95, 95, 99, 97, 99, 104, 101, 100, 95, 95]⟩), key := Value.str (⟨#[95, 95, 99, 97, 99, 104, 101, 100, 95, 95]⟩) 174, val := Value.none }, { hash := PyData.keyHash P (⟨#[95, 119, 97, 108, 108]⟩), key := Value.str (⟨#[95, 119, 97, 108, 108]⟩) 193, val := Value.ref 21 }, { hash := PyData.keyHash P (⟨#[105, 115, 95, 112, 97, 114, 116, 95, 110, 101, 120, 116]⟩), key := Value.str (⟨#[105, 115, 95, 112, 97, 114, 116, 95, 110, 101, 120, 116]⟩) 204, val := Value.ref 28 }, { hash := PyData.keyHash P (⟨#[76, 101, 100, 103, 101, 114, 69, 114, 114, 111, 114]⟩), key := Value.str (⟨#[76, 101, 100, 103, 101, 114, 69, 114, 114, 111, 114]⟩) 246, val := Value.ref 54 }, { hash := PyData.keyHash P (⟨#[71, 114, 97, 109, 109, 97, 114, 70, 97, 117, 108, 116]⟩), key := Value.str (⟨#[71, 114, 97, 109, 109, 97, 114, 70, 97, 117, 108, 116]⟩) 262, val := Value.ref 67 }, { hash := PyData.keyHash P (⟨#[82, 101, 97, 100, 101, 114]⟩), key := Value.str (⟨#[82, 101, 97, 100, 101, 114]⟩) 463, val := Value.ref 238 }, { hash := PyData.keyHash P (⟨#[84, 111, 107, 101, 110]⟩), key := Value.str (⟨#[84, 111, 107, 101, 110]⟩) 509, val := Value.ref 268 }, { hash := PyData.keyHash P (⟨#[95, 108, 97, 119, 95, 100, 114, 97, 119]⟩), key := Value.str (⟨#[95, 108, 97, 119, 95, 100, 114, 97, 119]⟩) 522, val := Value.ref 279 }, { hash := PyData.keyHash P (⟨#[95, 108, 97, 119, 95, 116, 111, 107, 101, 110, 115]⟩), key := Value.str (⟨#[95, 108, 97, 119, 95, 116, 111, 107, 101, 110, 115]⟩) 539, val := Value.ref 288 }, { hash := PyData.keyHash P (⟨#[95, 108, 97, 119, 95, 100, 117, 101]⟩), key := Value.str (⟨#[95, 108, 97, 119, 95, 100, 117, 101]⟩) 545, val := Value.ref 293 }, { hash := PyData.keyHash P (⟨#[108, 97, 119]⟩), key := Value.str (⟨#[108, 97, 119]⟩) 551, val := Value.ref 298 }] 19 }
noncomputable def o_27 (_P : Params) : Obj := { cls := Value.type "code", data := Data.fields #[Value.str (⟨#[105, 115, 95, 112, 97, 114, 116, 95, 110, 101, 120, 116]⟩) 196, Value.str (⟨#[105, 115, 95, 112, 97, 114, 116, 95, 110, 101, 120, 116]⟩) 197, Value.str (⟨#[47, 99, 108, 97, 105, 109, 47, 99, 117, 116, 46, 112, 121]⟩) 198, Value.int 5 0, Value.int 1 0, Value.int 0 0, Value.int 0 0, Value.int 3 0, Value.ref 22, Value.bool true, Value.int 181 0, Value.ref 23, Value.none, Value.ref 24, Value.ref 25, Value.ref 26, Value.int 202 0, Value.int 5 0, Value.str (⟨#[47, 99, 108, 97, 105, 109, 47, 99, 117, 116, 46, 112, 121]⟩) 203] }
noncomputable def d_28 (p : Program) : Stmt := (st p.main.body 2)
noncomputable def o_28 (p : Program) (_P : Params) : Obj := { cls := .type "function", data := .func (fnOf (Str.ofString "is_part_next") (Str.ofString "is_part_next") (fArgs (d_28 p)) (fBody (d_28 p)) (fScope (d_28 p)) (Value.none) .none .none (Value.str (Str.ofString "ledgerspeak.references") 194) none (Value.ref 27) .none) }
noncomputable def o_77 (_P : Params) : Obj := { cls := Value.type "tuple", data := Data.seq #[Value.int 0 277] }
noncomputable def o_83 (_P : Params) : Obj := { cls := Value.type "code", data := Data.fields #[Value.str (⟨#[95, 95, 105, 110, 105, 116, 95, 95]⟩) 278, Value.str (⟨#[82, 101, 97, 100, 101, 114, 46, 95, 95, 105, 110, 105, 116, 95, 95]⟩) 279, Value.str (⟨#[47, 99, 108, 97, 105, 109, 47, 99, 117, 116, 46, 112, 121]⟩) 280, Value.int 33 0, Value.int 3 0, Value.int 0 0, Value.int 0 0, Value.int 3 0, Value.ref 78, Value.bool true, Value.int 181 0, Value.ref 79, Value.none, Value.ref 80, Value.ref 81, Value.ref 82, Value.int 284 0, Value.int 33 0, Value.str (⟨#[47, 99, 108, 97, 105, 109, 47, 99, 117, 116, 46, 112, 121]⟩) 285] }
noncomputable def d_84 (p : Program) : Stmt := (st (members (st p.main.body 7)) 0)
noncomputable def o_84 (p : Program) (_P : Params) : Obj := { cls := .type "function", data := .func (fnOf (Str.ofString "__init__") (Str.ofString "Reader.__init__") (fArgs (d_84 p)) (fBody (d_84 p)) (fScope (d_84 p)) (Value.ref 77) .none .none (Value.str (Str.ofString "ledgerspeak.reader") 263) none (Value.ref 83) .none) }
noncomputable def o_85 (_P : Params) : Obj := { cls := Value.type "tuple", data := Data.seq #[Value.int 0 287] }
noncomputable def o_91 (_P : Params) : Obj := { cls := Value.type "code", data := Data.fields #[Value.str (⟨#[112, 101, 101, 107]⟩) 288, Value.str (⟨#[82, 101, 97, 100, 101, 114, 46, 112, 101, 101, 107]⟩) 289, Value.str (⟨#[47, 99, 108, 97, 105, 109, 47, 99, 117, 116, 46, 112, 121]⟩) 290, Value.int 38 0, Value.int 2 0, Value.int 0 0, Value.int 0 0, Value.int 3 0, Value.ref 86, Value.bool true, Value.int 181 0, Value.ref 87, Value.none, Value.ref 88, Value.ref 89, Value.ref 90, Value.int 293 0, Value.int 38 0, Value.str (⟨#[47, 99, 108, 97, 105, 109, 47, 99, 117, 116, 46, 112, 121]⟩) 294] }
noncomputable def d_92 (p : Program) : Stmt := (st (members (st p.main.body 7)) 1)
noncomputable def o_92 (p : Program) (_P : Params) : Obj := { cls := .type "function", data := .func (fnOf (Str.ofString "peek") (Str.ofString "Reader.peek") (fArgs (d_92 p)) (fBody (d_92 p)) (fScope (d_92 p)) (Value.ref 85) .none .none (Value.str (Str.ofString "ledgerspeak.reader") 263) none (Value.ref 91) .none) }
noncomputable def o_114 (_P : Params) : Obj := { cls := Value.type "tuple", data := Data.seq #[Value.int 0 319] }
noncomputable def o_120 (_P : Params) : Obj := { cls := Value.type "code", data := Data.fields #[Value.str (⟨#[105, 115, 95, 107, 105, 110, 100]⟩) 320, Value.str (⟨#[82, 101, 97, 100, 101, 114, 46, 105, 115, 95, 107, 105, 110, 100]⟩) 321, Value.str (⟨#[47, 99, 108, 97, 105, 109, 47, 99, 117, 116, 46, 112, 121]⟩) 322, Value.int 58 0, Value.int 3 0, Value.int 0 0, Value.int 0 0, Value.int 3 0, Value.ref 115, Value.bool true, Value.int 181 0, Value.ref 116, Value.none, Value.ref 117, Value.ref 118, Value.ref 119, Value.int 327 0, Value.int 58 0, Value.str (⟨#[47, 99, 108, 97, 105, 109, 47, 99, 117, 116, 46, 112, 121]⟩) 328] }
noncomputable def d_121 (p : Program) : Stmt := (st (members (st p.main.body 7)) 5)
noncomputable def o_121 (p : Program) (_P : Params) : Obj := { cls := .type "function", data := .func (fnOf (Str.ofString "is_kind") (Str.ofString "Reader.is_kind") (fArgs (d_121 p)) (fBody (d_121 p)) (fScope (d_121 p)) (Value.ref 114) .none .none (Value.str (Str.ofString "ledgerspeak.reader") 263) none (Value.ref 120) .none) }
noncomputable def o_179 (_P : Params) : Obj := { cls := Value.type "tuple", data := Data.seq #[Value.int 0 392] }
noncomputable def o_185 (_P : Params) : Obj := { cls := Value.type "code", data := Data.fields #[Value.str (⟨#[105, 115, 95, 115, 105, 103, 110]⟩) 393, Value.str (⟨#[82, 101, 97, 100, 101, 114, 46, 105, 115, 95, 115, 105, 103, 110]⟩) 394, Value.str (⟨#[47, 99, 108, 97, 105, 109, 47, 99, 117, 116, 46, 112, 121]⟩) 395, Value.int 88 0, Value.int 3 0, Value.int 0 0, Value.int 0 0, Value.int 3 0, Value.ref 180, Value.bool true, Value.int 181 0, Value.ref 181, Value.none, Value.ref 182, Value.ref 183, Value.ref 184, Value.int 399 0, Value.int 88 0, Value.str (⟨#[47, 99, 108, 97, 105, 109, 47, 99, 117, 116, 46, 112, 121]⟩) 400] }
noncomputable def d_186 (p : Program) : Stmt := (st (members (st p.main.body 7)) 14)
noncomputable def o_186 (p : Program) (_P : Params) : Obj := { cls := .type "function", data := .func (fnOf (Str.ofString "is_sign") (Str.ofString "Reader.is_sign") (fArgs (d_186 p)) (fBody (d_186 p)) (fScope (d_186 p)) (Value.ref 179) .none .none (Value.str (Str.ofString "ledgerspeak.reader") 263) none (Value.ref 185) .none) }
noncomputable def o_237 (P : Params) : Obj := { cls := Value.type "dict", data := Data.dict #[{ hash := PyData.keyHash P (⟨#[95, 95, 109, 111, 100, 117, 108, 101, 95, 95]⟩), key := Value.str (⟨#[95, 95, 109, 111, 100, 117, 108, 101, 95, 95]⟩) 272, val := Value.str (⟨#[108, 101, 100, 103, 101, 114, 115, 112, 101, 97, 107, 46, 114, 101, 97, 100, 101, 114]⟩) 263 }, { hash := PyData.keyHash P (⟨#[95, 95, 102, 105, 114, 115, 116, 108, 105, 110, 101, 110, 111, 95, 95]⟩), key := Value.str (⟨#[95, 95, 102, 105, 114, 115, 116, 108, 105, 110, 101, 110, 111, 95, 95]⟩) 276, val := Value.int 31 275 }, { hash := PyData.keyHash P (⟨#[95, 95, 105, 110, 105, 116, 95, 95]⟩), key := Value.str (⟨#[95, 95, 105, 110, 105, 116, 95, 95]⟩) 286, val := Value.ref 84 }, { hash := PyData.keyHash P (⟨#[112, 101, 101, 107]⟩), key := Value.str (⟨#[112, 101, 101, 107]⟩) 295, val := Value.ref 92 }, { hash := PyData.keyHash P (⟨#[105, 115, 95, 100, 111, 110, 101]⟩), key := Value.str (⟨#[105, 115, 95, 100, 111, 110, 101]⟩) 302, val := Value.ref 99 }, { hash := PyData.keyHash P (⟨#[102, 97, 117, 108, 116]⟩), key := Value.str (⟨#[102, 97, 117, 108, 116]⟩) 310, val := Value.ref 106 }, { hash := PyData.keyHash P (⟨#[116, 97, 107, 101]⟩), key := Value.str (⟨#[116, 97, 107, 101]⟩) 318, val := Value.ref 113 }, { hash := PyData.keyHash P (⟨#[105, 115, 95, 107, 105, 110, 100]⟩), key := Value.str (⟨#[105, 115, 95, 107, 105, 110, 100]⟩) 329, val := Value.ref 121 }, { hash := PyData.keyHash P (⟨#[105, 115, 95, 119, 111, 114, 100]⟩), key := Value.str (⟨#[105, 115, 95, 119, 111, 114, 100]⟩) 337, val := Value.ref 128 }, { hash := PyData.keyHash P (⟨#[115, 107, 105, 112]⟩), key := Value.str (⟨#[115, 107, 105, 112]⟩) 345, val := Value.ref 135 }, { hash := PyData.keyHash P (⟨#[110, 101, 101, 100]⟩), key := Value.str (⟨#[110, 101, 101, 100]⟩) 353, val := Value.ref 142 }, { hash := PyData.keyHash P (⟨#[111, 110, 101, 95, 111, 102]⟩), key := Value.str (⟨#[111, 110, 101, 95, 111, 102]⟩) 361, val := Value.ref 149 }, { hash := PyData.keyHash P (⟨#[119, 111, 114, 100]⟩), key := Value.str (⟨#[119, 111, 114, 100]⟩) 368, val := Value.ref 156 }, { hash := PyData.keyHash P (⟨#[105, 115, 95, 110, 97, 109, 101]⟩), key := Value.str (⟨#[105, 115, 95, 110, 97, 109, 101]⟩) 377, val := Value.ref 164 }, { hash := PyData.keyHash P (⟨#[110, 97, 109, 101]⟩), key := Value.str (⟨#[110, 97, 109, 101]⟩) 384, val := Value.ref 171 }, { hash := PyData.keyHash P (⟨#[110, 97, 109, 101, 115]⟩), key := Value.str (⟨#[110, 97, 109, 101, 115]⟩) 391, val := Value.ref 178 }, { hash := PyData.keyHash P (⟨#[105, 115, 95, 115, 105, 103, 110]⟩), key := Value.str (⟨#[105, 115, 95, 115, 105, 103, 110]⟩) 401, val := Value.ref 186 }, { hash := PyData.keyHash P (⟨#[115, 107, 105, 112, 95, 115, 105, 103, 110]⟩), key := Value.str (⟨#[115, 107, 105, 112, 95, 115, 105, 103, 110]⟩) 409, val := Value.ref 193 }, { hash := PyData.keyHash P (⟨#[110, 101, 101, 100, 95, 115, 105, 103, 110]⟩), key := Value.str (⟨#[110, 101, 101, 100, 95, 115, 105, 103, 110]⟩) 417, val := Value.ref 200 }, { hash := PyData.keyHash P (⟨#[105, 115, 95, 110, 117, 109, 98, 101, 114]⟩), key := Value.str (⟨#[105, 115, 95, 110, 117, 109, 98, 101, 114]⟩) 424, val := Value.ref 207 }, { hash := PyData.keyHash P (⟨#[115, 105, 103, 110, 101, 100]⟩), key := Value.str (⟨#[115, 105, 103, 110, 101, 100]⟩) 431, val := Value.ref 214 }, { hash := PyData.keyHash P (⟨#[119, 104, 111, 108, 101]⟩), key := Value.str (⟨#[119, 104, 111, 108, 101]⟩) 438, val := Value.ref 221 }, { hash := PyData.keyHash P (⟨#[108, 105, 116, 101, 114, 97, 108]⟩), key := Value.str (⟨#[108, 105, 116, 101, 114, 97, 108]⟩) 445, val := Value.ref 228 }, { hash := PyData.keyHash P (⟨#[111, 99, 116, 101, 116, 115]⟩), key := Value.str (⟨#[111, 99, 116, 101, 116, 115]⟩) 452, val := Value.ref 235 }, { hash := PyData.keyHash P (⟨#[95, 95, 115, 116, 97, 116, 105, 99, 95, 97, 116, 116, 114, 105, 98, 117, 116, 101, 115, 95, 95]⟩), key := Value.str (⟨#[95, 95, 115, 116, 97, 116, 105, 99, 95, 97, 116, 116, 114, 105, 98, 117, 116, 101, 115, 95, 95]⟩) 456, val := Value.ref 236 }, { hash := PyData.keyHash P (⟨#[95, 95, 100, 105, 99, 116, 95, 95]⟩), key := Value.str (⟨#[95, 95, 100, 105, 99, 116, 95, 95]⟩) 458, val := Value.ref 239 }, { hash := PyData.keyHash P (⟨#[95, 95, 119, 101, 97, 107, 114, 101, 102, 95, 95]⟩), key := Value.str (⟨#[95, 95, 119, 101, 97, 107, 114, 101, 102, 95, 95]⟩) 460, val := Value.ref 240 }, { hash := PyData.keyHash P (⟨#[95, 95, 100, 111, 99, 95, 95]⟩), key := Value.str (⟨#[95, 95, 100, 111, 99, 95, 95]⟩) 461, val := Value.none }] 4 }
noncomputable def o_238 (_P : Params) : Obj := { cls := Value.type "type", data := Data.cls { name := ⟨#[82, 101, 97, 100, 101, 114]⟩, bases := [Value.type "object"], mro := [Value.ref 238, Value.type "object"], ns := 237, qualname := ⟨#[82, 101, 97, 100, 101, 114]⟩ }, slots := #[none, none, some (Value.str (⟨#[82, 101, 97, 100, 101, 114]⟩) 265), some (Value.str (⟨#[82, 101, 97, 100, 101, 114]⟩) 273), some (Value.builtin "object.__new__"), some (Value.bool true)] }
noncomputable def o_239 (_P : Params) : Obj := { cls := Value.type "getset_descriptor", data := Data.fields #[Value.str (⟨#[95, 95, 100, 105, 99, 116, 95, 95]⟩) 457, Value.ref 238, Value.builtin "function.__dict__", Value.builtin "function.__dict__#set"] }
noncomputable def o_240 (_P : Params) : Obj := { cls := Value.type "getset_descriptor", data := Data.fields #[Value.str (⟨#[95, 95, 119, 101, 97, 107, 114, 101, 102, 95, 95]⟩) 459, Value.ref 238, Value.builtin "ExceptionGroup.__weakref__", Value.none] }
noncomputable def o_250 (_P : Params) : Obj := { cls := Value.type "tuple", data := Data.seq #[Value.int 0 478, Value.int 0 479] }
noncomputable def o_251 (_P : Params) : Obj := { cls := Value.type "tuple", data := Data.seq #[Value.ref 250, Value.bool false] }
noncomputable def o_257 (_P : Params) : Obj := { cls := Value.type "code", data := Data.fields #[Value.str (⟨#[95, 95, 105, 110, 105, 116, 95, 95]⟩) 480, Value.str (⟨#[84, 111, 107, 101, 110, 46, 95, 95, 105, 110, 105, 116, 95, 95]⟩) 481, Value.str (⟨#[47, 99, 108, 97, 105, 109, 47, 99, 117, 116, 46, 112, 121]⟩) 482, Value.int 116 0, Value.int 5 0, Value.int 0 0, Value.int 0 0, Value.int 3 0, Value.ref 252, Value.bool true, Value.int 181 0, Value.ref 253, Value.none, Value.ref 254, Value.ref 255, Value.ref 256, Value.int 488 0, Value.int 116 0, Value.str (⟨#[47, 99, 108, 97, 105, 109, 47, 99, 117, 116, 46, 112, 121]⟩) 489] }
noncomputable def d_258 (p : Program) : Stmt := (st (members (st p.main.body 9)) 0)
noncomputable def o_258 (p : Program) (_P : Params) : Obj := { cls := .type "function", data := .func (fnOf (Str.ofString "__init__") (Str.ofString "Token.__init__") (fArgs (d_258 p)) (fBody (d_258 p)) (fScope (d_258 p)) (Value.ref 251) .none .none (Value.str (Str.ofString "ledgerspeak.tokens") 464) none (Value.ref 257) .none) }
noncomputable def o_267 (P : Params) : Obj := { cls := Value.type "dict", data := Data.dict #[{ hash := PyData.keyHash P (⟨#[95, 95, 109, 111, 100, 117, 108, 101, 95, 95]⟩), key := Value.str (⟨#[95, 95, 109, 111, 100, 117, 108, 101, 95, 95]⟩) 473, val := Value.str (⟨#[108, 101, 100, 103, 101, 114, 115, 112, 101, 97, 107, 46, 116, 111, 107, 101, 110, 115]⟩) 464 }, { hash := PyData.keyHash P (⟨#[95, 95, 102, 105, 114, 115, 116, 108, 105, 110, 101, 110, 111, 95, 95]⟩), key := Value.str (⟨#[95, 95, 102, 105, 114, 115, 116, 108, 105, 110, 101, 110, 111, 95, 95]⟩) 477, val := Value.int 114 476 }, { hash := PyData.keyHash P (⟨#[95, 95, 105, 110, 105, 116, 95, 95]⟩), key := Value.str (⟨#[95, 95, 105, 110, 105, 116, 95, 95]⟩) 490, val := Value.ref 258 }, { hash := PyData.keyHash P (⟨#[116, 111, 108, 100]⟩), key := Value.str (⟨#[116, 111, 108, 100]⟩) 497, val := Value.ref 265 }, { hash := PyData.keyHash P (⟨#[95, 95, 115, 116, 97, 116, 105, 99, 95, 97, 116, 116, 114, 105, 98, 117, 116, 101, 115, 95, 95]⟩), key := Value.str (⟨#[95, 95, 115, 116, 97, 116, 105, 99, 95, 97, 116, 116, 114, 105, 98, 117, 116, 101, 115, 95, 95]⟩) 502, val := Value.ref 266 }, { hash := PyData.keyHash P (⟨#[95, 95, 100, 105, 99, 116, 95, 95]⟩), key := Value.str (⟨#[95, 95, 100, 105, 99, 116, 95, 95]⟩) 504, val := Value.ref 269 }, { hash := PyData.keyHash P (⟨#[95, 95, 119, 101, 97, 107, 114, 101, 102, 95, 95]⟩), key := Value.str (⟨#[95, 95, 119, 101, 97, 107, 114, 101, 102, 95, 95]⟩) 506, val := Value.ref 270 }, { hash := PyData.keyHash P (⟨#[95, 95, 100, 111, 99, 95, 95]⟩), key := Value.str (⟨#[95, 95, 100, 111, 99, 95, 95]⟩) 507, val := Value.none }] 4 }
noncomputable def o_268 (_P : Params) : Obj := { cls := Value.type "type", data := Data.cls { name := ⟨#[84, 111, 107, 101, 110]⟩, bases := [Value.type "object"], mro := [Value.ref 268, Value.type "object"], ns := 267, qualname := ⟨#[84, 111, 107, 101, 110]⟩ }, slots := #[none, none, some (Value.str (⟨#[84, 111, 107, 101, 110]⟩) 466), some (Value.str (⟨#[84, 111, 107, 101, 110]⟩) 474), some (Value.builtin "object.__new__"), some (Value.bool true)] }
noncomputable def o_269 (_P : Params) : Obj := { cls := Value.type "getset_descriptor", data := Data.fields #[Value.str (⟨#[95, 95, 100, 105, 99, 116, 95, 95]⟩) 503, Value.ref 268, Value.builtin "function.__dict__", Value.builtin "function.__dict__#set"] }
noncomputable def o_270 (_P : Params) : Obj := { cls := Value.type "getset_descriptor", data := Data.fields #[Value.str (⟨#[95, 95, 119, 101, 97, 107, 114, 101, 102, 95, 95]⟩) 505, Value.ref 268, Value.builtin "ExceptionGroup.__weakref__", Value.none] }
noncomputable def o_278 (_P : Params) : Obj := { cls := Value.type "code", data := Data.fields #[Value.str (⟨#[95, 108, 97, 119, 95, 100, 114, 97, 119]⟩) 512, Value.str (⟨#[95, 108, 97, 119, 95, 100, 114, 97, 119]⟩) 513, Value.str (⟨#[47, 99, 108, 97, 105, 109, 47, 99, 117, 116, 46, 112, 121]⟩) 514, Value.int 125 0, Value.int 2 0, Value.int 0 0, Value.int 0 0, Value.int 3 0, Value.ref 273, Value.bool true, Value.int 181 0, Value.ref 274, Value.none, Value.ref 275, Value.ref 276, Value.ref 277, Value.int 520 0, Value.int 125 0, Value.str (⟨#[47, 99, 108, 97, 105, 109, 47, 99, 117, 116, 46, 112, 121]⟩) 521] }
noncomputable def d_279 (p : Program) : Stmt := (st p.main.body 11)
noncomputable def o_279 (p : Program) (_P : Params) : Obj := { cls := .type "function", data := .func (fnOf (Str.ofString "_law_draw") (Str.ofString "_law_draw") (fArgs (d_279 p)) (fBody (d_279 p)) (fScope (d_279 p)) (Value.none) .none .none (Value.str (Str.ofString "law_pb0248_01") 510) none (Value.ref 278) .none) }
noncomputable def o_280 (_P : Params) : Obj := { cls := Value.type "tuple", data := Data.seq #[Value.str (Str.ofString "sign") 523, Value.str (Str.ofString "(") 524] }
noncomputable def o_281 (_P : Params) : Obj := { cls := Value.type "tuple", data := Data.seq #[Value.str (Str.ofString "sign") 525, Value.str (Str.ofString ")") 526] }
noncomputable def o_282 (_P : Params) : Obj := { cls := Value.type "tuple", data := Data.seq #[Value.str (Str.ofString "sign") 527, Value.str (Str.ofString ":") 528] }
noncomputable def o_283 (_P : Params) : Obj := { cls := Value.type "tuple", data := Data.seq #[Value.str (Str.ofString "word") 529, Value.str (Str.ofString "A") 530] }
noncomputable def o_284 (_P : Params) : Obj := { cls := Value.type "tuple", data := Data.seq #[Value.str (Str.ofString "sign") 531, Value.str (Str.ofString "(") 532] }
noncomputable def o_285 (_P : Params) : Obj := { cls := Value.type "tuple", data := Data.seq #[Value.str (Str.ofString "sign") 533, Value.str (Str.ofString ")") 534] }
noncomputable def o_286 (_P : Params) : Obj := { cls := Value.type "tuple", data := Data.seq #[Value.str (Str.ofString "literal") 535, Value.str (Str.ofString ":") 536] }
noncomputable def o_287 (_P : Params) : Obj := { cls := Value.type "tuple", data := Data.seq #[Value.str (Str.ofString "literal") 537, Value.str (Str.ofString "(") 538] }
noncomputable def o_288 (_P : Params) : Obj := { cls := Value.type "tuple", data := Data.seq #[Value.ref 280, Value.ref 281, Value.ref 282, Value.ref 283, Value.ref 284, Value.ref 285, Value.ref 286, Value.ref 287] }
noncomputable def o_292 (_P : Params) : Obj := { cls := Value.type "code", data := Data.fields #[Value.str (⟨#[95, 108, 97, 119, 95, 100, 117, 101]⟩) 540, Value.str (⟨#[95, 108, 97, 119, 95, 100, 117, 101]⟩) 541, Value.str (⟨#[47, 99, 108, 97, 105, 109, 47, 99, 117, 116, 46, 112, 121]⟩) 542, Value.int 133 0, Value.int 1 0, Value.int 0 0, Value.int 0 0, Value.int 3 0, Value.ref 289, Value.bool true, Value.int 181 0, Value.ref 290, Value.none, Value.none, Value.none, Value.ref 291, Value.int 543 0, Value.int 133 0, Value.str (⟨#[47, 99, 108, 97, 105, 109, 47, 99, 117, 116, 46, 112, 121]⟩) 544] }
noncomputable def d_293 (p : Program) : Stmt := (st p.main.body 13)
noncomputable def o_293 (p : Program) (_P : Params) : Obj := { cls := .type "function", data := .func (fnOf (Str.ofString "_law_due") (Str.ofString "_law_due") (fArgs (d_293 p)) (fBody (d_293 p)) (fScope (d_293 p)) (Value.none) .none .none (Value.str (Str.ofString "law_pb0248_01") 510) none (Value.ref 292) .none) }
noncomputable def o_297 (_P : Params) : Obj := { cls := Value.type "code", data := Data.fields #[Value.str (⟨#[108, 97, 119]⟩) 546, Value.str (⟨#[108, 97, 119]⟩) 547, Value.str (⟨#[47, 99, 108, 97, 105, 109, 47, 99, 117, 116, 46, 112, 121]⟩) 548, Value.int 149 0, Value.int 1 0, Value.int 0 0, Value.int 0 0, Value.int 3 0, Value.ref 294, Value.bool true, Value.int 181 0, Value.ref 295, Value.none, Value.none, Value.none, Value.ref 296, Value.int 549 0, Value.int 149 0, Value.str (⟨#[47, 99, 108, 97, 105, 109, 47, 99, 117, 116, 46, 112, 121]⟩) 550] }
noncomputable def d_298 (p : Program) : Stmt := (st p.main.body 14)
noncomputable def o_298 (p : Program) (_P : Params) : Obj := { cls := .type "function", data := .func (fnOf (Str.ofString "law") (Str.ofString "law") (fArgs (d_298 p)) (fBody (d_298 p)) (fScope (d_298 p)) (Value.none) .none .none (Value.str (Str.ofString "law_pb0248_01") 510) none (Value.ref 297) .none) }
noncomputable def kfrOf (p : Program) : Params → Frag := fun P =>
  (nat_lit 2, o_2 P) ::
  (nat_lit 3, o_3 P) ::
  (nat_lit 27, o_27 P) ::
  (nat_lit 28, o_28 p P) ::
  (nat_lit 77, o_77 P) ::
  (nat_lit 83, o_83 P) ::
  (nat_lit 84, o_84 p P) ::
  (nat_lit 85, o_85 P) ::
  (nat_lit 91, o_91 P) ::
  (nat_lit 92, o_92 p P) ::
  (nat_lit 114, o_114 P) ::
  (nat_lit 120, o_120 P) ::
  (nat_lit 121, o_121 p P) ::
  (nat_lit 179, o_179 P) ::
  (nat_lit 185, o_185 P) ::
  (nat_lit 186, o_186 p P) ::
  (nat_lit 237, o_237 P) ::
  (nat_lit 238, o_238 P) ::
  (nat_lit 239, o_239 P) ::
  (nat_lit 240, o_240 P) ::
  (nat_lit 250, o_250 P) ::
  (nat_lit 251, o_251 P) ::
  (nat_lit 257, o_257 P) ::
  (nat_lit 258, o_258 p P) ::
  (nat_lit 267, o_267 P) ::
  (nat_lit 268, o_268 P) ::
  (nat_lit 269, o_269 P) ::
  (nat_lit 270, o_270 P) ::
  (nat_lit 278, o_278 P) ::
  (nat_lit 279, o_279 p P) ::
  (nat_lit 280, o_280 P) ::
  (nat_lit 281, o_281 P) ::
  (nat_lit 282, o_282 P) ::
  (nat_lit 283, o_283 P) ::
  (nat_lit 284, o_284 P) ::
  (nat_lit 285, o_285 P) ::
  (nat_lit 286, o_286 P) ::
  (nat_lit 287, o_287 P) ::
  (nat_lit 288, o_288 P) ::
  (nat_lit 292, o_292 P) ::
  (nat_lit 293, o_293 p P) ::
  (nat_lit 297, o_297 P) ::
  (nat_lit 298, o_298 p P) :: []
noncomputable def kfr : Params → Frag := fun P =>
  (nat_lit 2, o_2 P) ::
  (nat_lit 3, o_3 P) ::
  (nat_lit 27, o_27 P) ::
  (nat_lit 28, o_28 pw P) ::
  (nat_lit 77, o_77 P) ::
  (nat_lit 83, o_83 P) ::
  (nat_lit 84, o_84 pw P) ::
  (nat_lit 85, o_85 P) ::
  (nat_lit 91, o_91 P) ::
  (nat_lit 92, o_92 pw P) ::
  (nat_lit 114, o_114 P) ::
  (nat_lit 120, o_120 P) ::
  (nat_lit 121, o_121 pw P) ::
  (nat_lit 179, o_179 P) ::
  (nat_lit 185, o_185 P) ::
  (nat_lit 186, o_186 pw P) ::
  (nat_lit 237, o_237 P) ::
  (nat_lit 238, o_238 P) ::
  (nat_lit 239, o_239 P) ::
  (nat_lit 240, o_240 P) ::
  (nat_lit 250, o_250 P) ::
  (nat_lit 251, o_251 P) ::
  (nat_lit 257, o_257 P) ::
  (nat_lit 258, o_258 pw P) ::
  (nat_lit 267, o_267 P) ::
  (nat_lit 268, o_268 P) ::
  (nat_lit 269, o_269 P) ::
  (nat_lit 270, o_270 P) ::
  (nat_lit 278, o_278 P) ::
  (nat_lit 279, o_279 pw P) ::
  (nat_lit 280, o_280 P) ::
  (nat_lit 281, o_281 P) ::
  (nat_lit 282, o_282 P) ::
  (nat_lit 283, o_283 P) ::
  (nat_lit 284, o_284 P) ::
  (nat_lit 285, o_285 P) ::
  (nat_lit 286, o_286 P) ::
  (nat_lit 287, o_287 P) ::
  (nat_lit 288, o_288 P) ::
  (nat_lit 292, o_292 P) ::
  (nat_lit 293, o_293 pw P) ::
  (nat_lit 297, o_297 P) ::
  (nat_lit 298, o_298 pw P) :: []
abbrev ads : List Nat := [2, 3, 27, 28, 77, 83, 84, 85, 91, 92, 114, 120, 121, 179, 185, 186, 237, 238, 239, 240, 250, 251, 257, 258, 267, 268, 269, 270, 278, 279, 280, 281, 282, 283, 284, 285, 286, 287, 288, 292, 293, 297, 298]
theorem hkp : ∀ P, ads = (kfr P).map (·.1) := fun _ => by kernel_rfl
noncomputable abbrev hk : Hook := kHook kfr ads hkp
abbrev lo : List Str := [Str.ofString "LedgerError", Str.ofString "Token"]
noncomputable def xtOf (q : Program) : Shared → Bool := fun s => xlAt q [] s && recOk (RowW.records PySem.Challenge.rw_pb0248_01.row.toRowW) s
theorem of_row (h : (OpenLaw.row PySem.Challenge.rw_pb0248_01).wellSaid = true → (OpenLaw.row PySem.Challenge.rw_pb0248_01).Holds) : PySem.Challenge.rw_pb0248_01.Holds := by
  w_on
  o_law
  exact h (by assumption)
open PySem.Calls PySem.Spec
noncomputable def v_0_s0 (P : Params) : Obj := { cls := Value.type "dict", data := Data.dict #[{ hash := PyData.keyHash P (⟨#[95, 95, 110, 97, 109, 101, 95, 95]⟩), key := Value.str (⟨#[95, 95, 110, 97, 109, 101, 95, 95]⟩) 1, val := Value.str (⟨#[98, 117, 105, 108, 116, 105, 110, 115]⟩) 160 }, { hash := PyData.keyHash P (⟨#[95, 95, 100, 111, 99, 95, 95]⟩), key := Value.str (⟨#[95, 95, 100, 111, 99, 95, 95]⟩) 2, val := Value.builtin "builtins.__doc__:str#opaque" }, { hash := PyData.keyHash P (⟨#[95, 95, 112, 97, 99, 107, 97, 103, 101, 95, 95]⟩), key := Value.str (⟨#[95, 95, 112, 97, 99, 107, 97, 103, 101, 95, 95]⟩) 3, val := Value.builtin "builtins.__package__:str#opaque" }, { hash := PyData.keyHash P (⟨#[95, 95, 108, 111, 97, 100, 101, 114, 95, 95]⟩), key := Value.str (⟨#[95, 95, 108, 111, 97, 100, 101, 114, 95, 95]⟩) 4, val := Value.builtin "builtins.__loader__:shared#opaque" }, { hash := PyData.keyHash P (⟨#[95, 95, 115, 112, 101, 99, 95, 95]⟩), key := Value.str (⟨#[95, 95, 115, 112, 101, 99, 95, 95]⟩) 5, val := Value.builtin "builtins.__spec__#opaque" }, { hash := PyData.keyHash P (⟨#[95, 95, 98, 117, 105, 108, 100, 95, 99, 108, 97, 115, 115, 95, 95]⟩), key := Value.str (⟨#[95, 95, 98, 117, 105, 108, 100, 95, 99, 108, 97, 115, 115, 95, 95]⟩) 6, val := Value.builtin "__build_class__" }, { hash := PyData.keyHash P (⟨#[95, 95, 105, 109, 112, 111, 114, 116, 95, 95]⟩), key := Value.str (⟨#[95, 95, 105, 109, 112, 111, 114, 116, 95, 95]⟩) 7, val := Value.builtin "__import__" }, { hash := PyData.keyHash P (⟨#[97, 98, 115]⟩), key := Value.str (⟨#[97, 98, 115]⟩) 8, val := Value.builtin "abs" }, { hash := PyData.keyHash P (⟨#[97, 108, 108]⟩), key := Value.str (⟨#[97, 108, 108]⟩) 9, val := Value.builtin "all" }, { hash := PyData.keyHash P (⟨#[97, 110, 121]⟩), key := Value.str (⟨#[97, 110, 121]⟩) 10, val := Value.builtin "any" }, { hash := PyData.keyHash P (⟨#[97, 115, 99, 105, 105]⟩), key := Value.str (⟨#[97, 115, 99, 105, 105]⟩) 11, val := Value.builtin "ascii" }, { hash := PyData.keyHash P (⟨#[98, 105, 110]⟩), key := Value.str (⟨#[98, 105, 110]⟩) 12, val := Value.builtin "bin" }, { hash := PyData.keyHash P (⟨#[98, 114, 101, 97, 107, 112, 111, 105, 110, 116]⟩), key := Value.str (⟨#[98, 114, 101, 97, 107, 112, 111, 105, 110, 116]⟩) 13, val := Value.builtin "breakpoint" }, { hash := PyData.keyHash P (⟨#[99, 97, 108, 108, 97, 98, 108, 101]⟩), key := Value.str (⟨#[99, 97, 108, 108, 97, 98, 108, 101]⟩) 14, val := Value.builtin "callable" }, { hash := PyData.keyHash P (⟨#[99, 104, 114]⟩), key := Value.str (⟨#[99, 104, 114]⟩) 15, val := Value.builtin "chr" }, { hash := PyData.keyHash P (⟨#[99, 111, 109, 112, 105, 108, 101]⟩), key := Value.str (⟨#[99, 111, 109, 112, 105, 108, 101]⟩) 16, val := Value.builtin "compile" }, { hash := PyData.keyHash P (⟨#[100, 101, 108, 97, 116, 116, 114]⟩), key := Value.str (⟨#[100, 101, 108, 97, 116, 116, 114]⟩) 17, val := Value.builtin "delattr" }, { hash := PyData.keyHash P (⟨#[100, 105, 114]⟩), key := Value.str (⟨#[100, 105, 114]⟩) 18, val := Value.builtin "dir" }, { hash := PyData.keyHash P (⟨#[100, 105, 118, 109, 111, 100]⟩), key := Value.str (⟨#[100, 105, 118, 109, 111, 100]⟩) 19, val := Value.builtin "divmod" }, { hash := PyData.keyHash P (⟨#[101, 118, 97, 108]⟩), key := Value.str (⟨#[101, 118, 97, 108]⟩) 20, val := Value.builtin "eval" }, { hash := PyData.keyHash P (⟨#[101, 120, 101, 99]⟩), key := Value.str (⟨#[101, 120, 101, 99]⟩) 21, val := Value.builtin "exec" }, { hash := PyData.keyHash P (⟨#[102, 111, 114, 109, 97, 116]⟩), key := Value.str (⟨#[102, 111, 114, 109, 97, 116]⟩) 22, val := Value.builtin "format" }, { hash := PyData.keyHash P (⟨#[103, 101, 116, 97, 116, 116, 114]⟩), key := Value.str (⟨#[103, 101, 116, 97, 116, 116, 114]⟩) 23, val := Value.builtin "getattr" }, { hash := PyData.keyHash P (⟨#[103, 108, 111, 98, 97, 108, 115]⟩), key := Value.str (⟨#[103, 108, 111, 98, 97, 108, 115]⟩) 24, val := Value.builtin "globals" }, { hash := PyData.keyHash P (⟨#[104, 97, 115, 97, 116, 116, 114]⟩), key := Value.str (⟨#[104, 97, 115, 97, 116, 116, 114]⟩) 25, val := Value.builtin "hasattr" }, { hash := PyData.keyHash P (⟨#[104, 97, 115, 104]⟩), key := Value.str (⟨#[104, 97, 115, 104]⟩) 26, val := Value.builtin "hash" }, { hash := PyData.keyHash P (⟨#[104, 101, 120]⟩), key := Value.str (⟨#[104, 101, 120]⟩) 27, val := Value.builtin "hex" }, { hash := PyData.keyHash P (⟨#[105, 100]⟩), key := Value.str (⟨#[105, 100]⟩) 28, val := Value.builtin "id" }, { hash := PyData.keyHash P (⟨#[105, 110, 112, 117, 116]⟩), key := Value.str (⟨#[105, 110, 112, 117, 116]⟩) 29, val := Value.builtin "input" }, { hash := PyData.keyHash P (⟨#[105, 115, 105, 110, 115, 116, 97, 110, 99, 101]⟩), key := Value.str (⟨#[105, 115, 105, 110, 115, 116, 97, 110, 99, 101]⟩) 30, val := Value.builtin "isinstance" }, { hash := PyData.keyHash P (⟨#[105, 115, 115, 117, 98, 99, 108, 97, 115, 115]⟩), key := Value.str (⟨#[105, 115, 115, 117, 98, 99, 108, 97, 115, 115]⟩) 31, val := Value.builtin "issubclass" }, { hash := PyData.keyHash P (⟨#[105, 116, 101, 114]⟩), key := Value.str (⟨#[105, 116, 101, 114]⟩) 32, val := Value.builtin "iter" }, { hash := PyData.keyHash P (⟨#[97, 105, 116, 101, 114]⟩), key := Value.str (⟨#[97, 105, 116, 101, 114]⟩) 33, val := Value.builtin "aiter" }, { hash := PyData.keyHash P (⟨#[108, 101, 110]⟩), key := Value.str (⟨#[108, 101, 110]⟩) 34, val := Value.builtin "len" }, { hash := PyData.keyHash P (⟨#[108, 111, 99, 97, 108, 115]⟩), key := Value.str (⟨#[108, 111, 99, 97, 108, 115]⟩) 35, val := Value.builtin "locals" }, { hash := PyData.keyHash P (⟨#[109, 97, 120]⟩), key := Value.str (⟨#[109, 97, 120]⟩) 36, val := Value.builtin "max" }, { hash := PyData.keyHash P (⟨#[109, 105, 110]⟩), key := Value.str (⟨#[109, 105, 110]⟩) 37, val := Value.builtin "min" }, { hash := PyData.keyHash P (⟨#[110, 101, 120, 116]⟩), key := Value.str (⟨#[110, 101, 120, 116]⟩) 38, val := Value.builtin "next" }, { hash := PyData.keyHash P (⟨#[97, 110, 101, 120, 116]⟩), key := Value.str (⟨#[97, 110, 101, 120, 116]⟩) 39, val := Value.builtin "anext" }, { hash := PyData.keyHash P (⟨#[111, 99, 116]⟩), key := Value.str (⟨#[111, 99, 116]⟩) 40, val := Value.builtin "oct" }, { hash := PyData.keyHash P (⟨#[111, 114, 100]⟩), key := Value.str (⟨#[111, 114, 100]⟩) 41, val := Value.builtin "ord" }, { hash := PyData.keyHash P (⟨#[112, 111, 119]⟩), key := Value.str (⟨#[112, 111, 119]⟩) 42, val := Value.builtin "pow" }, { hash := PyData.keyHash P (⟨#[112, 114, 105, 110, 116]⟩), key := Value.str (⟨#[112, 114, 105, 110, 116]⟩) 43, val := Value.builtin "print" }, { hash := PyData.keyHash P (⟨#[114, 101, 112, 114]⟩), key := Value.str (⟨#[114, 101, 112, 114]⟩) 44, val := Value.builtin "repr" }, { hash := PyData.keyHash P (⟨#[114, 111, 117, 110, 100]⟩), key := Value.str (⟨#[114, 111, 117, 110, 100]⟩) 45, val := Value.builtin "round" }, { hash := PyData.keyHash P (⟨#[115, 101, 116, 97, 116, 116, 114]⟩), key := Value.str (⟨#[115, 101, 116, 97, 116, 116, 114]⟩) 46, val := Value.builtin "setattr" }, { hash := PyData.keyHash P (⟨#[115, 111, 114, 116, 101, 100]⟩), key := Value.str (⟨#[115, 111, 114, 116, 101, 100]⟩) 47, val := Value.builtin "sorted" }, { hash := PyData.keyHash P (⟨#[115, 117, 109]⟩), key := Value.str (⟨#[115, 117, 109]⟩) 48, val := Value.builtin "sum" }, { hash := PyData.keyHash P (⟨#[118, 97, 114, 115]⟩), key := Value.str (⟨#[118, 97, 114, 115]⟩) 49, val := Value.builtin "vars" }, { hash := PyData.keyHash P (⟨#[78, 111, 110, 101]⟩), key := Value.str (⟨#[78, 111, 110, 101]⟩) 50, val := Value.none }, { hash := PyData.keyHash P (⟨#[69, 108, 108, 105, 112, 115, 105, 115]⟩), key := Value.str (⟨#[69, 108, 108, 105, 112, 115, 105, 115]⟩) 51, val := Value.ellipsis }, { hash := PyData.keyHash P (⟨#[78, 111, 116, 73, 109, 112, 108, 101, 109, 101, 110, 116, 101, 100]⟩), key := Value.str (⟨#[78, 111, 116, 73, 109, 112, 108, 101, 109, 101, 110, 116, 101, 100]⟩) 52, val := Value.notImplemented }, { hash := PyData.keyHash P (⟨#[70, 97, 108, 115, 101]⟩), key := Value.str (⟨#[70, 97, 108, 115, 101]⟩) 53, val := Value.bool false }, { hash := PyData.keyHash P (⟨#[84, 114, 117, 101]⟩), key := Value.str (⟨#[84, 114, 117, 101]⟩) 54, val := Value.bool true }, { hash := PyData.keyHash P (⟨#[98, 111, 111, 108]⟩), key := Value.str (⟨#[98, 111, 111, 108]⟩) 55, val := Value.type "bool" }, { hash := PyData.keyHash P (⟨#[109, 101, 109, 111, 114, 121, 118, 105, 101, 119]⟩), key := Value.str (⟨#[109, 101, 109, 111, 114, 121, 118, 105, 101, 119]⟩) 56, val := Value.type "memoryview" }, { hash := PyData.keyHash P (⟨#[98, 121, 116, 101, 97, 114, 114, 97, 121]⟩), key := Value.str (⟨#[98, 121, 116, 101, 97, 114, 114, 97, 121]⟩) 57, val := Value.type "bytearray" }, { hash := PyData.keyHash P (⟨#[98, 121, 116, 101, 115]⟩), key := Value.str (⟨#[98, 121, 116, 101, 115]⟩) 58, val := Value.type "bytes" }, { hash := PyData.keyHash P (⟨#[99, 108, 97, 115, 115, 109, 101, 116, 104, 111, 100]⟩), key := Value.str (⟨#[99, 108, 97, 115, 115, 109, 101, 116, 104, 111, 100]⟩) 59, val := Value.type "classmethod" }, { hash := PyData.keyHash P (⟨#[99, 111, 109, 112, 108, 101, 120]⟩), key := Value.str (⟨#[99, 111, 109, 112, 108, 101, 120]⟩) 60, val := Value.type "complex" }, { hash := PyData.keyHash P (⟨#[100, 105, 99, 116]⟩), key := Value.str (⟨#[100, 105, 99, 116]⟩) 61, val := Value.type "dict" }, { hash := PyData.keyHash P (⟨#[101, 110, 117, 109, 101, 114, 97, 116, 101]⟩), key := Value.str (⟨#[101, 110, 117, 109, 101, 114, 97, 116, 101]⟩) 62, val := Value.type "enumerate" }, { hash := PyData.keyHash P (⟨#[102, 105, 108, 116, 101, 114]⟩), key := Value.str (⟨#[102, 105, 108, 116, 101, 114]⟩) 63, val := Value.type "filter" }, { hash := PyData.keyHash P (⟨#[102, 108, 111, 97, 116]⟩), key := Value.str (⟨#[102, 108, 111, 97, 116]⟩) 64, val := Value.type "float" }, { hash := PyData.keyHash P (⟨#[102, 114, 111, 122, 101, 110, 115, 101, 116]⟩), key := Value.str (⟨#[102, 114, 111, 122, 101, 110, 115, 101, 116]⟩) 65, val := Value.type "frozenset" }, { hash := PyData.keyHash P (⟨#[112, 114, 111, 112, 101, 114, 116, 121]⟩), key := Value.str (⟨#[112, 114, 111, 112, 101, 114, 116, 121]⟩) 66, val := Value.type "property" }, { hash := PyData.keyHash P (⟨#[105, 110, 116]⟩), key := Value.str (⟨#[105, 110, 116]⟩) 67, val := Value.type "int" }, { hash := PyData.keyHash P (⟨#[108, 105, 115, 116]⟩), key := Value.str (⟨#[108, 105, 115, 116]⟩) 68, val := Value.type "list" }, { hash := PyData.keyHash P (⟨#[109, 97, 112]⟩), key := Value.str (⟨#[109, 97, 112]⟩) 69, val := Value.type "map" }, { hash := PyData.keyHash P (⟨#[111, 98, 106, 101, 99, 116]⟩), key := Value.str (⟨#[111, 98, 106, 101, 99, 116]⟩) 70, val := Value.type "object" }, { hash := PyData.keyHash P (⟨#[114, 97, 110, 103, 101]⟩), key := Value.str (⟨#[114, 97, 110, 103, 101]⟩) 71, val := Value.type "range" }, { hash := PyData.keyHash P (⟨#[114, 101, 118, 101, 114, 115, 101, 100]⟩), key := Value.str (⟨#[114, 101, 118, 101, 114, 115, 101, 100]⟩) 72, val := Value.type "reversed" }, { hash := PyData.keyHash P (⟨#[115, 101, 116]⟩), key := Value.str (⟨#[115, 101, 116]⟩) 73, val := Value.type "set" }, { hash := PyData.keyHash P (⟨#[115, 108, 105, 99, 101]⟩), key := Value.str (⟨#[115, 108, 105, 99, 101]⟩) 74, val := Value.type "slice" }, { hash := PyData.keyHash P (⟨#[115, 116, 97, 116, 105, 99, 109, 101, 116, 104, 111, 100]⟩), key := Value.str (⟨#[115, 116, 97, 116, 105, 99, 109, 101, 116, 104, 111, 100]⟩) 75, val := Value.type "staticmethod" }, { hash := PyData.keyHash P (⟨#[115, 116, 114]⟩), key := Value.str (⟨#[115, 116, 114]⟩) 76, val := Value.type "str" }, { hash := PyData.keyHash P (⟨#[115, 117, 112, 101, 114]⟩), key := Value.str (⟨#[115, 117, 112, 101, 114]⟩) 77, val := Value.type "super" }, { hash := PyData.keyHash P (⟨#[116, 117, 112, 108, 101]⟩), key := Value.str (⟨#[116, 117, 112, 108, 101]⟩) 78, val := Value.type "tuple" }, { hash := PyData.keyHash P (⟨#[116, 121, 112, 101]⟩), key := Value.str (⟨#[116, 121, 112, 101]⟩) 79, val := Value.type "type" }, { hash := PyData.keyHash P (⟨#[122, 105, 112]⟩), key := Value.str (⟨#[122, 105, 112]⟩) 80, val := Value.type "zip" }, { hash := PyData.keyHash P (⟨#[95, 95, 100, 101, 98, 117, 103, 95, 95]⟩), key := Value.str (⟨#[95, 95, 100, 101, 98, 117, 103, 95, 95]⟩) 81, val := Value.bool true }, { hash := PyData.keyHash P (⟨#[66, 97, 115, 101, 69, 120, 99, 101, 112, 116, 105, 111, 110]⟩), key := Value.str (⟨#[66, 97, 115, 101, 69, 120, 99, 101, 112, 116, 105, 111, 110]⟩) 82, val := Value.type "BaseException" }, { hash := PyData.keyHash P (⟨#[66, 97, 115, 101, 69, 120, 99, 101, 112, 116, 105, 111, 110, 71, 114, 111, 117, 112]⟩), key := Value.str (⟨#[66, 97, 115, 101, 69, 120, 99, 101, 112, 116, 105, 111, 110, 71, 114, 111, 117, 112]⟩) 83, val := Value.type "BaseExceptionGroup" }, { hash := PyData.keyHash P (⟨#[69, 120, 99, 101, 112, 116, 105, 111, 110]⟩), key := Value.str (⟨#[69, 120, 99, 101, 112, 116, 105, 111, 110]⟩) 84, val := Value.type "Exception" }, { hash := PyData.keyHash P (⟨#[71, 101, 110, 101, 114, 97, 116, 111, 114, 69, 120, 105, 116]⟩), key := Value.str (⟨#[71, 101, 110, 101, 114, 97, 116, 111, 114, 69, 120, 105, 116]⟩) 85, val := Value.type "GeneratorExit" }, { hash := PyData.keyHash P (⟨#[75, 101, 121, 98, 111, 97, 114, 100, 73, 110, 116, 101, 114, 114, 117, 112, 116]⟩), key := Value.str (⟨#[75, 101, 121, 98, 111, 97, 114, 100, 73, 110, 116, 101, 114, 114, 117, 112, 116]⟩) 86, val := Value.type "KeyboardInterrupt" }, { hash := PyData.keyHash P (⟨#[83, 121, 115, 116, 101, 109, 69, 120, 105, 116]⟩), key := Value.str (⟨#[83, 121, 115, 116, 101, 109, 69, 120, 105, 116]⟩) 87, val := Value.type "SystemExit" }, { hash := PyData.keyHash P (⟨#[65, 114, 105, 116, 104, 109, 101, 116, 105, 99, 69, 114, 114, 111, 114]⟩), key := Value.str (⟨#[65, 114, 105, 116, 104, 109, 101, 116, 105, 99, 69, 114, 114, 111, 114]⟩) 88, val := Value.type "ArithmeticError" }, { hash := PyData.keyHash P (⟨#[65, 115, 115, 101, 114, 116, 105, 111, 110, 69, 114, 114, 111, 114]⟩), key := Value.str (⟨#[65, 115, 115, 101, 114, 116, 105, 111, 110, 69, 114, 114, 111, 114]⟩) 89, val := Value.type "AssertionError" }, { hash := PyData.keyHash P (⟨#[65, 116, 116, 114, 105, 98, 117, 116, 101, 69, 114, 114, 111, 114]⟩), key := Value.str (⟨#[65, 116, 116, 114, 105, 98, 117, 116, 101, 69, 114, 114, 111, 114]⟩) 90, val := Value.type "AttributeError" }, { hash := PyData.keyHash P (⟨#[66, 117, 102, 102, 101, 114, 69, 114, 114, 111, 114]⟩), key := Value.str (⟨#[66, 117, 102, 102, 101, 114, 69, 114, 114, 111, 114]⟩) 91, val := Value.type "BufferError" }, { hash := PyData.keyHash P (⟨#[69, 79, 70, 69, 114, 114, 111, 114]⟩), key := Value.str (⟨#[69, 79, 70, 69, 114, 114, 111, 114]⟩) 92, val := Value.type "EOFError" }, { hash := PyData.keyHash P (⟨#[73, 109, 112, 111, 114, 116, 69, 114, 114, 111, 114]⟩), key := Value.str (⟨#[73, 109, 112, 111, 114, 116, 69, 114, 114, 111, 114]⟩) 93, val := Value.type "ImportError" }, { hash := PyData.keyHash P (⟨#[76, 111, 111, 107, 117, 112, 69, 114, 114, 111, 114]⟩), key := Value.str (⟨#[76, 111, 111, 107, 117, 112, 69, 114, 114, 111, 114]⟩) 94, val := Value.type "LookupError" }, { hash := PyData.keyHash P (⟨#[77, 101, 109, 111, 114, 121, 69, 114, 114, 111, 114]⟩), key := Value.str (⟨#[77, 101, 109, 111, 114, 121, 69, 114, 114, 111, 114]⟩) 95, val := Value.type "MemoryError" }, { hash := PyData.keyHash P (⟨#[78, 97, 109, 101, 69, 114, 114, 111, 114]⟩), key := Value.str (⟨#[78, 97, 109, 101, 69, 114, 114, 111, 114]⟩) 96, val := Value.type "NameError" }, { hash := PyData.keyHash P (⟨#[79, 83, 69, 114, 114, 111, 114]⟩), key := Value.str (⟨#[79, 83, 69, 114, 114, 111, 114]⟩) 97, val := Value.type "OSError" }, { hash := PyData.keyHash P (⟨#[82, 101, 102, 101, 114, 101, 110, 99, 101, 69, 114, 114, 111, 114]⟩), key := Value.str (⟨#[82, 101, 102, 101, 114, 101, 110, 99, 101, 69, 114, 114, 111, 114]⟩) 98, val := Value.type "ReferenceError" }, { hash := PyData.keyHash P (⟨#[82, 117, 110, 116, 105, 109, 101, 69, 114, 114, 111, 114]⟩), key := Value.str (⟨#[82, 117, 110, 116, 105, 109, 101, 69, 114, 114, 111, 114]⟩) 99, val := Value.type "RuntimeError" }, { hash := PyData.keyHash P (⟨#[83, 116, 111, 112, 65, 115, 121, 110, 99, 73, 116, 101, 114, 97, 116, 105, 111, 110]⟩), key := Value.str (⟨#[83, 116, 111, 112, 65, 115, 121, 110, 99, 73, 116, 101, 114, 97, 116, 105, 111, 110]⟩) 100, val := Value.type "StopAsyncIteration" }, { hash := PyData.keyHash P (⟨#[83, 116, 111, 112, 73, 116, 101, 114, 97, 116, 105, 111, 110]⟩), key := Value.str (⟨#[83, 116, 111, 112, 73, 116, 101, 114, 97, 116, 105, 111, 110]⟩) 101, val := Value.type "StopIteration" }, { hash := PyData.keyHash P (⟨#[83, 121, 110, 116, 97, 120, 69, 114, 114, 111, 114]⟩), key := Value.str (⟨#[83, 121, 110, 116, 97, 120, 69, 114, 114, 111, 114]⟩) 102, val := Value.type "SyntaxError" }, { hash := PyData.keyHash P (⟨#[83, 121, 115, 116, 101, 109, 69, 114, 114, 111, 114]⟩), key := Value.str (⟨#[83, 121, 115, 116, 101, 109, 69, 114, 114, 111, 114]⟩) 103, val := Value.type "SystemError" }, { hash := PyData.keyHash P (⟨#[84, 121, 112, 101, 69, 114, 114, 111, 114]⟩), key := Value.str (⟨#[84, 121, 112, 101, 69, 114, 114, 111, 114]⟩) 104, val := Value.type "TypeError" }, { hash := PyData.keyHash P (⟨#[86, 97, 108, 117, 101, 69, 114, 114, 111, 114]⟩), key := Value.str (⟨#[86, 97, 108, 117, 101, 69, 114, 114, 111, 114]⟩) 105, val := Value.type "ValueError" }, { hash := PyData.keyHash P (⟨#[87, 97, 114, 110, 105, 110, 103]⟩), key := Value.str (⟨#[87, 97, 114, 110, 105, 110, 103]⟩) 106, val := Value.type "Warning" }, { hash := PyData.keyHash P (⟨#[70, 108, 111, 97, 116, 105, 110, 103, 80, 111, 105, 110, 116, 69, 114, 114, 111, 114]⟩), key := Value.str (⟨#[70, 108, 111, 97, 116, 105, 110, 103, 80, 111, 105, 110, 116, 69, 114, 114, 111, 114]⟩) 107, val := Value.type "FloatingPointError" }, { hash := PyData.keyHash P (⟨#[79, 118, 101, 114, 102, 108, 111, 119, 69, 114, 114, 111, 114]⟩), key := Value.str (⟨#[79, 118, 101, 114, 102, 108, 111, 119, 69, 114, 114, 111, 114]⟩) 108, val := Value.type "OverflowError" }, { hash := PyData.keyHash P (⟨#[90, 101, 114, 111, 68, 105, 118, 105, 115, 105, 111, 110, 69, 114, 114, 111, 114]⟩), key := Value.str (⟨#[90, 101, 114, 111, 68, 105, 118, 105, 115, 105, 111, 110, 69, 114, 114, 111, 114]⟩) 109, val := Value.type "ZeroDivisionError" }, { hash := PyData.keyHash P (⟨#[66, 121, 116, 101, 115, 87, 97, 114, 110, 105, 110, 103]⟩), key := Value.str (⟨#[66, 121, 116, 101, 115, 87, 97, 114, 110, 105, 110, 103]⟩) 110, val := Value.type "BytesWarning" }, { hash := PyData.keyHash P (⟨#[68, 101, 112, 114, 101, 99, 97, 116, 105, 111, 110, 87, 97, 114, 110, 105, 110, 103]⟩), key := Value.str (⟨#[68, 101, 112, 114, 101, 99, 97, 116, 105, 111, 110, 87, 97, 114, 110, 105, 110, 103]⟩) 111, val := Value.type "DeprecationWarning" }, { hash := PyData.keyHash P (⟨#[69, 110, 99, 111, 100, 105, 110, 103, 87, 97, 114, 110, 105, 110, 103]⟩), key := Value.str (⟨#[69, 110, 99, 111, 100, 105, 110, 103, 87, 97, 114, 110, 105, 110, 103]⟩) 112, val := Value.type "EncodingWarning" }, { hash := PyData.keyHash P (⟨#[70, 117, 116, 117, 114, 101, 87, 97, 114, 110, 105, 110, 103]⟩), key := Value.str (⟨#[70, 117, 116, 117, 114, 101, 87, 97, 114, 110, 105, 110, 103]⟩) 113, val := Value.type "FutureWarning" }, { hash := PyData.keyHash P (⟨#[73, 109, 112, 111, 114, 116, 87, 97, 114, 110, 105, 110, 103]⟩), key := Value.str (⟨#[73, 109, 112, 111, 114, 116, 87, 97, 114, 110, 105, 110, 103]⟩) 114, val := Value.type "ImportWarning" }, { hash := PyData.keyHash P (⟨#[80, 101, 110, 100, 105, 110, 103, 68, 101, 112, 114, 101, 99, 97, 116, 105, 111, 110, 87, 97, 114, 110, 105, 110, 103]⟩), key := Value.str (⟨#[80, 101, 110, 100, 105, 110, 103, 68, 101, 112, 114, 101, 99, 97, 116, 105, 111, 110, 87, 97, 114, 110, 105, 110, 103]⟩) 115, val := Value.type "PendingDeprecationWarning" }, { hash := PyData.keyHash P (⟨#[82, 101, 115, 111, 117, 114, 99, 101, 87, 97, 114, 110, 105, 110, 103]⟩), key := Value.str (⟨#[82, 101, 115, 111, 117, 114, 99, 101, 87, 97, 114, 110, 105, 110, 103]⟩) 116, val := Value.type "ResourceWarning" }, { hash := PyData.keyHash P (⟨#[82, 117, 110, 116, 105, 109, 101, 87, 97, 114, 110, 105, 110, 103]⟩), key := Value.str (⟨#[82, 117, 110, 116, 105, 109, 101, 87, 97, 114, 110, 105, 110, 103]⟩) 117, val := Value.type "RuntimeWarning" }, { hash := PyData.keyHash P (⟨#[83, 121, 110, 116, 97, 120, 87, 97, 114, 110, 105, 110, 103]⟩), key := Value.str (⟨#[83, 121, 110, 116, 97, 120, 87, 97, 114, 110, 105, 110, 103]⟩) 118, val := Value.type "SyntaxWarning" }, { hash := PyData.keyHash P (⟨#[85, 110, 105, 99, 111, 100, 101, 87, 97, 114, 110, 105, 110, 103]⟩), key := Value.str (⟨#[85, 110, 105, 99, 111, 100, 101, 87, 97, 114, 110, 105, 110, 103]⟩) 119, val := Value.type "UnicodeWarning" }, { hash := PyData.keyHash P (⟨#[85, 115, 101, 114, 87, 97, 114, 110, 105, 110, 103]⟩), key := Value.str (⟨#[85, 115, 101, 114, 87, 97, 114, 110, 105, 110, 103]⟩) 120, val := Value.type "UserWarning" }, { hash := PyData.keyHash P (⟨#[66, 108, 111, 99, 107, 105, 110, 103, 73, 79, 69, 114, 114, 111, 114]⟩), key := Value.str (⟨#[66, 108, 111, 99, 107, 105, 110, 103, 73, 79, 69, 114, 114, 111, 114]⟩) 121, val := Value.type "BlockingIOError" }, { hash := PyData.keyHash P (⟨#[67, 104, 105, 108, 100, 80, 114, 111, 99, 101, 115, 115, 69, 114, 114, 111, 114]⟩), key := Value.str (⟨#[67, 104, 105, 108, 100, 80, 114, 111, 99, 101, 115, 115, 69, 114, 114, 111, 114]⟩) 122, val := Value.type "ChildProcessError" }, { hash := PyData.keyHash P (⟨#[67, 111, 110, 110, 101, 99, 116, 105, 111, 110, 69, 114, 114, 111, 114]⟩), key := Value.str (⟨#[67, 111, 110, 110, 101, 99, 116, 105, 111, 110, 69, 114, 114, 111, 114]⟩) 123, val := Value.type "ConnectionError" }, { hash := PyData.keyHash P (⟨#[70, 105, 108, 101, 69, 120, 105, 115, 116, 115, 69, 114, 114, 111, 114]⟩), key := Value.str (⟨#[70, 105, 108, 101, 69, 120, 105, 115, 116, 115, 69, 114, 114, 111, 114]⟩) 124, val := Value.type "FileExistsError" }, { hash := PyData.keyHash P (⟨#[70, 105, 108, 101, 78, 111, 116, 70, 111, 117, 110, 100, 69, 114, 114, 111, 114]⟩), key := Value.str (⟨#[70, 105, 108, 101, 78, 111, 116, 70, 111, 117, 110, 100, 69, 114, 114, 111, 114]⟩) 125, val := Value.type "FileNotFoundError" }, { hash := PyData.keyHash P (⟨#[73, 110, 116, 101, 114, 114, 117, 112, 116, 101, 100, 69, 114, 114, 111, 114]⟩), key := Value.str (⟨#[73, 110, 116, 101, 114, 114, 117, 112, 116, 101, 100, 69, 114, 114, 111, 114]⟩) 126, val := Value.type "InterruptedError" }, { hash := PyData.keyHash P (⟨#[73, 115, 65, 68, 105, 114, 101, 99, 116, 111, 114, 121, 69, 114, 114, 111, 114]⟩), key := Value.str (⟨#[73, 115, 65, 68, 105, 114, 101, 99, 116, 111, 114, 121, 69, 114, 114, 111, 114]⟩) 127, val := Value.type "IsADirectoryError" }, { hash := PyData.keyHash P (⟨#[78, 111, 116, 65, 68, 105, 114, 101, 99, 116, 111, 114, 121, 69, 114, 114, 111, 114]⟩), key := Value.str (⟨#[78, 111, 116, 65, 68, 105, 114, 101, 99, 116, 111, 114, 121, 69, 114, 114, 111, 114]⟩) 128, val := Value.type "NotADirectoryError" }, { hash := PyData.keyHash P (⟨#[80, 101, 114, 109, 105, 115, 115, 105, 111, 110, 69, 114, 114, 111, 114]⟩), key := Value.str (⟨#[80, 101, 114, 109, 105, 115, 115, 105, 111, 110, 69, 114, 114, 111, 114]⟩) 129, val := Value.type "PermissionError" }, { hash := PyData.keyHash P (⟨#[80, 114, 111, 99, 101, 115, 115, 76, 111, 111, 107, 117, 112, 69, 114, 114, 111, 114]⟩), key := Value.str (⟨#[80, 114, 111, 99, 101, 115, 115, 76, 111, 111, 107, 117, 112, 69, 114, 114, 111, 114]⟩) 130, val := Value.type "ProcessLookupError" }, { hash := PyData.keyHash P (⟨#[84, 105, 109, 101, 111, 117, 116, 69, 114, 114, 111, 114]⟩), key := Value.str (⟨#[84, 105, 109, 101, 111, 117, 116, 69, 114, 114, 111, 114]⟩) 131, val := Value.type "TimeoutError" }, { hash := PyData.keyHash P (⟨#[73, 110, 100, 101, 110, 116, 97, 116, 105, 111, 110, 69, 114, 114, 111, 114]⟩), key := Value.str (⟨#[73, 110, 100, 101, 110, 116, 97, 116, 105, 111, 110, 69, 114, 114, 111, 114]⟩) 132, val := Value.type "IndentationError" }, { hash := PyData.keyHash P (⟨#[95, 73, 110, 99, 111, 109, 112, 108, 101, 116, 101, 73, 110, 112, 117, 116, 69, 114, 114, 111, 114]⟩), key := Value.str (⟨#[95, 73, 110, 99, 111, 109, 112, 108, 101, 116, 101, 73, 110, 112, 117, 116, 69, 114, 114, 111, 114]⟩) 133, val := Value.type "_IncompleteInputError" }, { hash := PyData.keyHash P (⟨#[73, 110, 100, 101, 120, 69, 114, 114, 111, 114]⟩), key := Value.str (⟨#[73, 110, 100, 101, 120, 69, 114, 114, 111, 114]⟩) 134, val := Value.type "IndexError" }, { hash := PyData.keyHash P (⟨#[75, 101, 121, 69, 114, 114, 111, 114]⟩), key := Value.str (⟨#[75, 101, 121, 69, 114, 114, 111, 114]⟩) 135, val := Value.type "KeyError" }, { hash := PyData.keyHash P (⟨#[77, 111, 100, 117, 108, 101, 78, 111, 116, 70, 111, 117, 110, 100, 69, 114, 114, 111, 114]⟩), key := Value.str (⟨#[77, 111, 100, 117, 108, 101, 78, 111, 116, 70, 111, 117, 110, 100, 69, 114, 114, 111, 114]⟩) 136, val := Value.type "ModuleNotFoundError" }, { hash := PyData.keyHash P (⟨#[78, 111, 116, 73, 109, 112, 108, 101, 109, 101, 110, 116, 101, 100, 69, 114, 114, 111, 114]⟩), key := Value.str (⟨#[78, 111, 116, 73, 109, 112, 108, 101, 109, 101, 110, 116, 101, 100, 69, 114, 114, 111, 114]⟩) 137, val := Value.type "NotImplementedError" }, { hash := PyData.keyHash P (⟨#[80, 121, 116, 104, 111, 110, 70, 105, 110, 97, 108, 105, 122, 97, 116, 105, 111, 110, 69, 114, 114, 111, 114]⟩), key := Value.str (⟨#[80, 121, 116, 104, 111, 110, 70, 105, 110, 97, 108, 105, 122, 97, 116, 105, 111, 110, 69, 114, 114, 111, 114]⟩) 138, val := Value.type "PythonFinalizationError" }, { hash := PyData.keyHash P (⟨#[82, 101, 99, 117, 114, 115, 105, 111, 110, 69, 114, 114, 111, 114]⟩), key := Value.str (⟨#[82, 101, 99, 117, 114, 115, 105, 111, 110, 69, 114, 114, 111, 114]⟩) 139, val := Value.type "RecursionError" }, { hash := PyData.keyHash P (⟨#[85, 110, 98, 111, 117, 110, 100, 76, 111, 99, 97, 108, 69, 114, 114, 111, 114]⟩), key := Value.str (⟨#[85, 110, 98, 111, 117, 110, 100, 76, 111, 99, 97, 108, 69, 114, 114, 111, 114]⟩) 140, val := Value.type "UnboundLocalError" }, { hash := PyData.keyHash P (⟨#[85, 110, 105, 99, 111, 100, 101, 69, 114, 114, 111, 114]⟩), key := Value.str (⟨#[85, 110, 105, 99, 111, 100, 101, 69, 114, 114, 111, 114]⟩) 141, val := Value.type "UnicodeError" }, { hash := PyData.keyHash P (⟨#[66, 114, 111, 107, 101, 110, 80, 105, 112, 101, 69, 114, 114, 111, 114]⟩), key := Value.str (⟨#[66, 114, 111, 107, 101, 110, 80, 105, 112, 101, 69, 114, 114, 111, 114]⟩) 142, val := Value.type "BrokenPipeError" }, { hash := PyData.keyHash P (⟨#[67, 111, 110, 110, 101, 99, 116, 105, 111, 110, 65, 98, 111, 114, 116, 101, 100, 69, 114, 114, 111, 114]⟩), key := Value.str (⟨#[67, 111, 110, 110, 101, 99, 116, 105, 111, 110, 65, 98, 111, 114, 116, 101, 100, 69, 114, 114, 111, 114]⟩) 143, val := Value.type "ConnectionAbortedError" }, { hash := PyData.keyHash P (⟨#[67, 111, 110, 110, 101, 99, 116, 105, 111, 110, 82, 101, 102, 117, 115, 101, 100, 69, 114, 114, 111, 114]⟩), key := Value.str (⟨#[67, 111, 110, 110, 101, 99, 116, 105, 111, 110, 82, 101, 102, 117, 115, 101, 100, 69, 114, 114, 111, 114]⟩) 144, val := Value.type "ConnectionRefusedError" }, { hash := PyData.keyHash P (⟨#[67, 111, 110, 110, 101, 99, 116, 105, 111, 110, 82, 101, 115, 101, 116, 69, 114, 114, 111, 114]⟩), key := Value.str (⟨#[67, 111, 110, 110, 101, 99, 116, 105, 111, 110, 82, 101, 115, 101, 116, 69, 114, 114, 111, 114]⟩) 145, val := Value.type "ConnectionResetError" }, { hash := PyData.keyHash P (⟨#[84, 97, 98, 69, 114, 114, 111, 114]⟩), key := Value.str (⟨#[84, 97, 98, 69, 114, 114, 111, 114]⟩) 146, val := Value.type "TabError" }, { hash := PyData.keyHash P (⟨#[85, 110, 105, 99, 111, 100, 101, 68, 101, 99, 111, 100, 101, 69, 114, 114, 111, 114]⟩), key := Value.str (⟨#[85, 110, 105, 99, 111, 100, 101, 68, 101, 99, 111, 100, 101, 69, 114, 114, 111, 114]⟩) 147, val := Value.type "UnicodeDecodeError" }, { hash := PyData.keyHash P (⟨#[85, 110, 105, 99, 111, 100, 101, 69, 110, 99, 111, 100, 101, 69, 114, 114, 111, 114]⟩), key := Value.str (⟨#[85, 110, 105, 99, 111, 100, 101, 69, 110, 99, 111, 100, 101, 69, 114, 114, 111, 114]⟩) 148, val := Value.type "UnicodeEncodeError" }, { hash := PyData.keyHash P (⟨#[85, 110, 105, 99, 111, 100, 101, 84, 114, 97, 110, 115, 108, 97, 116, 101, 69, 114, 114, 111, 114]⟩), key := Value.str (⟨#[85, 110, 105, 99, 111, 100, 101, 84, 114, 97, 110, 115, 108, 97, 116, 101, 69, 114, 114, 111, 114]⟩) 149, val := Value.type "UnicodeTranslateError" }, { hash := PyData.keyHash P (⟨#[69, 120, 99, 101, 112, 116, 105, 111, 110, 71, 114, 111, 117, 112]⟩), key := Value.str (⟨#[69, 120, 99, 101, 112, 116, 105, 111, 110, 71, 114, 111, 117, 112]⟩) 150, val := Value.type "ExceptionGroup" }, { hash := PyData.keyHash P (⟨#[69, 110, 118, 105, 114, 111, 110, 109, 101, 110, 116, 69, 114, 114, 111, 114]⟩), key := Value.str (⟨#[69, 110, 118, 105, 114, 111, 110, 109, 101, 110, 116, 69, 114, 114, 111, 114]⟩) 151, val := Value.type "OSError" }, { hash := PyData.keyHash P (⟨#[73, 79, 69, 114, 114, 111, 114]⟩), key := Value.str (⟨#[73, 79, 69, 114, 114, 111, 114]⟩) 152, val := Value.type "OSError" }, { hash := PyData.keyHash P (⟨#[111, 112, 101, 110]⟩), key := Value.str (⟨#[111, 112, 101, 110]⟩) 153, val := Value.builtin "open" }, { hash := PyData.keyHash P (⟨#[113, 117, 105, 116]⟩), key := Value.str (⟨#[113, 117, 105, 116]⟩) 154, val := Value.builtin "builtins.quit#opaque" }, { hash := PyData.keyHash P (⟨#[101, 120, 105, 116]⟩), key := Value.str (⟨#[101, 120, 105, 116]⟩) 155, val := Value.builtin "builtins.exit#opaque" }, { hash := PyData.keyHash P (⟨#[99, 111, 112, 121, 114, 105, 103, 104, 116]⟩), key := Value.str (⟨#[99, 111, 112, 121, 114, 105, 103, 104, 116]⟩) 156, val := Value.builtin "builtins.copyright#opaque" }, { hash := PyData.keyHash P (⟨#[99, 114, 101, 100, 105, 116, 115]⟩), key := Value.str (⟨#[99, 114, 101, 100, 105, 116, 115]⟩) 157, val := Value.builtin "builtins.credits#opaque" }, { hash := PyData.keyHash P (⟨#[108, 105, 99, 101, 110, 115, 101]⟩), key := Value.str (⟨#[108, 105, 99, 101, 110, 115, 101]⟩) 158, val := Value.builtin "builtins.license#opaque" }, { hash := PyData.keyHash P (⟨#[104, 101, 108, 112]⟩), key := Value.str (⟨#[104, 101, 108, 112]⟩) 159, val := Value.builtin "builtins.help#opaque" }] 159 }
noncomputable def v_1_s0 (P : Params) : Obj := { cls := Value.type "dict", data := Data.dict #[{ hash := PyData.keyHash P (⟨#[98, 117, 105, 108, 116, 105, 110, 115]⟩), key := Value.str (⟨#[98, 117, 105, 108, 116, 105, 110, 115]⟩) 162, val := Value.ref 4 }, { hash := PyData.keyHash P (⟨#[95, 95, 109, 97, 105, 110, 95, 95]⟩), key := Value.str (⟨#[95, 95, 109, 97, 105, 110, 95, 95]⟩) 163, val := Value.ref 5 }] 2 }
noncomputable def v_3_s0 (P : Params) : Obj := { cls := Value.type "dict", data := Data.dict #[{ hash := PyData.keyHash P (⟨#[95, 95, 110, 97, 109, 101, 95, 95]⟩), key := Value.str (⟨#[95, 95, 110, 97, 109, 101, 95, 95]⟩) 165, val := Value.str (⟨#[95, 95, 109, 97, 105, 110, 95, 95]⟩) 164 }, { hash := PyData.keyHash P (⟨#[95, 95, 100, 111, 99, 95, 95]⟩), key := Value.str (⟨#[95, 95, 100, 111, 99, 95, 95]⟩) 166, val := Value.none }, { hash := PyData.keyHash P (⟨#[95, 95, 112, 97, 99, 107, 97, 103, 101, 95, 95]⟩), key := Value.str (⟨#[95, 95, 112, 97, 99, 107, 97, 103, 101, 95, 95]⟩) 167, val := Value.none }, { hash := PyData.keyHash P (⟨#[95, 95, 108, 111, 97, 100, 101, 114, 95, 95]⟩), key := Value.str (⟨#[95, 95, 108, 111, 97, 100, 101, 114, 95, 95]⟩) 168, val := Value.builtin "__main__.__loader__#opaque" }, { hash := PyData.keyHash P (⟨#[95, 95, 115, 112, 101, 99, 95, 95]⟩), key := Value.str (⟨#[95, 95, 115, 112, 101, 99, 95, 95]⟩) 169, val := Value.none }, { hash := PyData.keyHash P (⟨#[95, 95, 97, 110, 110, 111, 116, 97, 116, 105, 111, 110, 115, 95, 95]⟩), key := Value.str (⟨#[95, 95, 97, 110, 110, 111, 116, 97, 116, 105, 111, 110, 115, 95, 95]⟩) 170, val := Value.ref 6 }, { hash := PyData.keyHash P (⟨#[95, 95, 98, 117, 105, 108, 116, 105, 110, 115, 95, 95]⟩), key := Value.str (⟨#[95, 95, 98, 117, 105, 108, 116, 105, 110, 115, 95, 95]⟩) 171, val := Value.ref 4 }, { hash := PyData.keyHash P (⟨#[95, 95, 102, 105, 108, 101, 95, 95]⟩), key := Value.str (⟨#[95, 95, 102, 105, 108, 101, 95, 95]⟩) 173, val := Value.str (⟨#[47, 99, 108, 97, 105, 109, 47, 99, 117, 116, 46, 112, 121]⟩) 172 }, { hash := PyData.keyHash P (⟨#[95, 95, 99, 97, 99, 104, 101, 100, 95, 95]⟩), key := Value.str (⟨#[95, 95, 99, 97, 99, 104, 101, 100, 95, 95]⟩) 174, val := Value.none }] 9 }
noncomputable def v_7_s0 (_P : Params) : Obj := { cls := Value.type "tuple", data := Data.seq #[] }
noncomputable def v_11_pre (_P : Params) : Obj := { cls := Value.type "tuple", data := Data.seq #[] }
noncomputable def v_5_s0 (_P : Params) : Obj := { cls := Value.type "module", dict := some 3 }
noncomputable def v_9_s0 (_P : Params) : Obj := { cls := Value.type "code", data := Data.fields #[Value.str (⟨#[60, 109, 111, 100, 117, 108, 101, 62]⟩) 176, Value.str (⟨#[60, 109, 111, 100, 117, 108, 101, 62]⟩) 177, Value.str (⟨#[47, 99, 108, 97, 105, 109, 47, 99, 117, 116, 46, 112, 121]⟩) 178, Value.int 1 0, Value.int 0 0, Value.int 0 0, Value.int 0 0, Value.int 0 0, Value.ref 7, Value.bool false, Value.int 175 0, Value.ref 8, Value.none, Value.none, Value.none, Value.none, Value.int 179 0, Value.int 1 0, Value.str (⟨#[47, 99, 108, 97, 105, 109, 47, 99, 117, 116, 46, 112, 121]⟩) 180] }
noncomputable def v_13_pre (_P : Params) : Obj := { cls := Value.type "code", data := Data.fields #[Value.str (⟨#[60, 109, 111, 100, 117, 108, 101, 62]⟩) 182, Value.str (⟨#[60, 109, 111, 100, 117, 108, 101, 62]⟩) 183, Value.str (⟨#[47, 99, 108, 97, 105, 109, 47, 99, 117, 116, 46, 112, 121]⟩) 184, Value.int 1 0, Value.int 0 0, Value.int 0 0, Value.int 0 0, Value.int 0 0, Value.ref 11, Value.bool false, Value.int 181 0, Value.ref 12, Value.none, Value.none, Value.none, Value.none, Value.int 185 0, Value.int 1 0, Value.str (⟨#[47, 99, 108, 97, 105, 109, 47, 99, 117, 116, 46, 112, 121]⟩) 186] }
noncomputable def v_2_s0 (_P : Params) : Obj := { cls := Value.none, data := Data.dict #[] }
noncomputable def v_4_s0 (_P : Params) : Obj := { cls := Value.type "module", dict := some 0 }
noncomputable def v_8_s0 (_P : Params) : Obj := { cls := Value.none, data := Data.fields #[] }
noncomputable def v_12_pre (_P : Params) : Obj := { cls := Value.none, data := Data.fields #[] }
noncomputable def v_6_s0 (_P : Params) : Obj := { cls := Value.type "dict", data := Data.dict #[] }
noncomputable def v_10_s0 (_P : Params) : Obj := { cls := Value.type "frame", slots := #[some (Value.ref 9), some (Value.ref 3), some (Value.ref 3), none, some (Value.str (⟨#[95, 95, 109, 97, 105, 110, 95, 95]⟩) 164), none, some (Value.ref 0)] }
noncomputable def v_14_pre (_P : Params) : Obj := { cls := Value.type "frame", slots := #[some (Value.ref 13), some (Value.ref 3), some (Value.ref 3), none, some (Value.str (⟨#[95, 95, 109, 97, 105, 110, 95, 95]⟩) 164), none, some (Value.ref 0)] }
noncomputable def v_3_p6 (P : Params) : Obj := { cls := Value.type "dict", data := Data.dict #[{ hash := PyData.keyHash P (⟨#[95, 95, 110, 97, 109, 101, 95, 95]⟩), key := Value.str (⟨#[95, 95, 110, 97, 109, 101, 95, 95]⟩) 165, val := Value.str (⟨#[108, 101, 100, 103, 101, 114, 115, 112, 101, 97, 107, 46, 114, 101, 97, 100, 101, 114]⟩) 263 }, { hash := PyData.keyHash P (⟨#[95, 95, 100, 111, 99, 95, 95]⟩), key := Value.str (⟨#[95, 95, 100, 111, 99, 95, 95]⟩) 166, val := Value.none }, { hash := PyData.keyHash P (⟨#[95, 95, 112, 97, 99, 107, 97, 103, 101, 95, 95]⟩), key := Value.str (⟨#[95, 95, 112, 97, 99, 107, 97, 103, 101, 95, 95]⟩) 167, val := Value.none }, { hash := PyData.keyHash P (⟨#[95, 95, 108, 111, 97, 100, 101, 114, 95, 95]⟩), key := Value.str (⟨#[95, 95, 108, 111, 97, 100, 101, 114, 95, 95]⟩) 168, val := Value.builtin "__main__.__loader__#opaque" }, { hash := PyData.keyHash P (⟨#[95, 95, 115, 112, 101, 99, 95, 95]⟩), key := Value.str (⟨#[95, 95, 115, 112, 101, 99, 95, 95]⟩) 169, val := Value.none }, { hash := PyData.keyHash P (⟨#[95, 95, 97, 110, 110, 111, 116, 97, 116, 105, 111, 110, 115, 95, 95]⟩), key := Value.str (⟨#[95, 95, 97, 110, 110, 111, 116, 97, 116, 105, 111, 110, 115, 95, 95]⟩) 170, val := Value.ref 6 }, { hash := PyData.keyHash P (⟨#[95, 95, 98, 117, 105, 108, 116, 105, 110, 115, 95, 95]⟩), key := Value.str (⟨#[95, 95, 98, 117, 105, 108, 116, 105, 110, 115, 95, 95]⟩) 171, val := Value.ref 4 }, { hash := PyData.keyHash P (⟨#[95, 95, 102, 105, 108, 101, 95, 95]⟩), key := Value.str (⟨#[95, 95, 102, 105, 108, 101, 95, 95]⟩) 173, val := Value.str (⟨#[47, 99, 108, 97, 105, 109, 47, 99, 117, 116, 46, 112, 121]⟩) 172 }, { hash := PyData.keyHash P (⟨#[95, 95, 99, 97, 99, 104, 101, 100, 95, 95]⟩), key := Value.str (⟨#[95, 95, 99, 97, 99, 104, 101, 100, 95, 95]⟩) 174, val := Value.none }, { hash := PyData.keyHash P (⟨#[95, 119, 97, 108, 108]⟩), key := Value.str (⟨#[95, 119, 97, 108, 108]⟩) 193, val := Value.ref 21 }, { hash := PyData.keyHash P (⟨#[105, 115, 95, 112, 97, 114, 116, 95, 110, 101, 120, 116]⟩), key := Value.str (⟨#[105, 115, 95, 112, 97, 114, 116, 95, 110, 101, 120, 116]⟩) 204, val := Value.ref 28 }, { hash := PyData.keyHash P (⟨#[76, 101, 100, 103, 101, 114, 69, 114, 114, 111, 114]⟩), key := Value.str (⟨#[76, 101, 100, 103, 101, 114, 69, 114, 114, 111, 114]⟩) 246, val := Value.ref 54 }, { hash := PyData.keyHash P (⟨#[71, 114, 97, 109, 109, 97, 114, 70, 97, 117, 108, 116]⟩), key := Value.str (⟨#[71, 114, 97, 109, 109, 97, 114, 70, 97, 117, 108, 116]⟩) 262, val := Value.ref 67 }] 13 }
noncomputable def v_15_p0 (_P : Params) : Obj := { cls := Value.type "tuple", data := Data.seq #[] }
noncomputable def v_31_p4 (P : Params) : Obj := { cls := Value.type "dict", data := Data.dict #[{ hash := PyData.keyHash P (⟨#[95, 95, 109, 111, 100, 117, 108, 101, 95, 95]⟩), key := Value.str (⟨#[95, 95, 109, 111, 100, 117, 108, 101, 95, 95]⟩) 214, val := Value.str (⟨#[108, 101, 100, 103, 101, 114, 115, 112, 101, 97, 107, 46, 101, 114, 114, 111, 114, 115]⟩) 205 }, { hash := PyData.keyHash P (⟨#[95, 95, 113, 117, 97, 108, 110, 97, 109, 101, 95, 95]⟩), key := Value.str (⟨#[95, 95, 113, 117, 97, 108, 110, 97, 109, 101, 95, 95]⟩) 216, val := Value.str (⟨#[76, 101, 100, 103, 101, 114, 69, 114, 114, 111, 114]⟩) 215 }, { hash := PyData.keyHash P (⟨#[95, 95, 102, 105, 114, 115, 116, 108, 105, 110, 101, 110, 111, 95, 95]⟩), key := Value.str (⟨#[95, 95, 102, 105, 114, 115, 116, 108, 105, 110, 101, 110, 111, 95, 95]⟩) 218, val := Value.int 19 217 }, { hash := PyData.keyHash P (⟨#[95, 95, 105, 110, 105, 116, 95, 95]⟩), key := Value.str (⟨#[95, 95, 105, 110, 105, 116, 95, 95]⟩) 229, val := Value.ref 44 }, { hash := PyData.keyHash P (⟨#[116, 111, 108, 100]⟩), key := Value.str (⟨#[116, 111, 108, 100]⟩) 236, val := Value.ref 51 }, { hash := PyData.keyHash P (⟨#[95, 95, 115, 116, 97, 116, 105, 99, 95, 97, 116, 116, 114, 105, 98, 117, 116, 101, 115, 95, 95]⟩), key := Value.str (⟨#[95, 95, 115, 116, 97, 116, 105, 99, 95, 97, 116, 116, 114, 105, 98, 117, 116, 101, 115, 95, 95]⟩) 239, val := Value.ref 52 }] 6 }
noncomputable def v_63_p5 (_P : Params) : Obj := { cls := Value.type "code", data := Data.fields #[Value.str (⟨#[71, 114, 97, 109, 109, 97, 114, 70, 97, 117, 108, 116]⟩) 249, Value.str (⟨#[71, 114, 97, 109, 109, 97, 114, 70, 97, 117, 108, 116]⟩) 250, Value.str (⟨#[47, 99, 108, 97, 105, 109, 47, 99, 117, 116, 46, 112, 121]⟩) 251, Value.int 28 0, Value.int 0 0, Value.int 0 0, Value.int 0 0, Value.int 0 0, Value.ref 61, Value.bool false, Value.int 181 0, Value.ref 62, Value.none, Value.none, Value.none, Value.none, Value.int 252 0, Value.int 28 0, Value.str (⟨#[47, 99, 108, 97, 105, 109, 47, 99, 117, 116, 46, 112, 121]⟩) 253] }
noncomputable def v_47_p4 (_P : Params) : Obj := { cls := Value.type "tuple", data := Data.seq #[Value.str (⟨#[115, 101, 108, 102]⟩) 233] }
noncomputable def v_23_p2 (_P : Params) : Obj := { cls := Value.none, data := Data.fields #[] }
noncomputable def v_39_p4 (_P : Params) : Obj := { cls := Value.none, data := Data.fields #[] }
noncomputable def v_55_p4 (_P : Params) : Obj := { cls := Value.type "getset_descriptor", data := Data.fields #[Value.str (⟨#[95, 95, 119, 101, 97, 107, 114, 101, 102, 95, 95]⟩) 240, Value.ref 54, Value.builtin "ExceptionGroup.__weakref__", Value.none] }
noncomputable def v_19_p0 (p : Program) (_P : Params) : Obj := { cls := Value.none, data := Data.func { name := ⟨#[95, 119, 97, 108, 108]⟩, qualname := ⟨#[95, 119, 97, 108, 108]⟩, params := fArgs (st p.main.body 0), body := FuncBody.stmts (fBody (st p.main.body 0)), scope := fScope (st p.main.body 0), globals := 0, closure := [], defaults := Value.none, kwdefaults := Value.none } }
noncomputable def v_35_p4 (_P : Params) : Obj := { cls := Value.type "frame", slots := #[some (Value.ref 34), some (Value.ref 3), some (Value.ref 31), none, some (Value.str (⟨#[108, 101, 100, 103, 101, 114, 115, 112, 101, 97, 107, 46, 101, 114, 114, 111, 114, 115]⟩) 205), none, some (Value.ref 0)] }
noncomputable def v_67_p5 (_P : Params) : Obj := { cls := Value.type "type", data := Data.cls { name := ⟨#[71, 114, 97, 109, 109, 97, 114, 70, 97, 117, 108, 116]⟩, bases := [Value.ref 54], mro := [Value.ref 67, Value.ref 54, Value.type "Exception", Value.type "BaseException", Value.type "object"], ns := 66, qualname := ⟨#[71, 114, 97, 109, 109, 97, 114, 70, 97, 117, 108, 116]⟩ }, slots := #[some (Value.ref 58), none, some (Value.str (⟨#[71, 114, 97, 109, 109, 97, 114, 70, 97, 117, 108, 116]⟩) 247), some (Value.str (⟨#[71, 114, 97, 109, 109, 97, 114, 70, 97, 117, 108, 116]⟩) 255), some (Value.builtin "Exception.__new__"), some (Value.bool true)] }
noncomputable def v_51_p4 (p : Program) (_P : Params) : Obj := { cls := Value.type "function", data := Data.func { name := ⟨#[116, 111, 108, 100]⟩, qualname := ⟨#[76, 101, 100, 103, 101, 114, 69, 114, 114, 111, 114, 46, 116, 111, 108, 100]⟩, params := fArgs (st (members (st p.main.body 4)) 1), body := FuncBody.stmts (fBody (st (members (st p.main.body 4)) 1)), scope := fScope (st (members (st p.main.body 4)) 1), globals := 3, closure := [], defaults := Value.none, kwdefaults := Value.none, pyModule := Value.str (⟨#[108, 101, 100, 103, 101, 114, 115, 112, 101, 97, 107, 46, 101, 114, 114, 111, 114, 115]⟩) 205, code := Value.ref 50 } }
noncomputable def v_27_p2 (_P : Params) : Obj := { cls := Value.type "code", data := Data.fields #[Value.str (⟨#[105, 115, 95, 112, 97, 114, 116, 95, 110, 101, 120, 116]⟩) 196, Value.str (⟨#[105, 115, 95, 112, 97, 114, 116, 95, 110, 101, 120, 116]⟩) 197, Value.str (⟨#[47, 99, 108, 97, 105, 109, 47, 99, 117, 116, 46, 112, 121]⟩) 198, Value.int 5 0, Value.int 1 0, Value.int 0 0, Value.int 0 0, Value.int 3 0, Value.ref 22, Value.bool true, Value.int 181 0, Value.ref 23, Value.none, Value.ref 24, Value.ref 25, Value.ref 26, Value.int 202 0, Value.int 5 0, Value.str (⟨#[47, 99, 108, 97, 105, 109, 47, 99, 117, 116, 46, 112, 121]⟩) 203] }
noncomputable def v_43_p4 (_P : Params) : Obj := { cls := Value.type "code", data := Data.fields #[Value.str (⟨#[95, 95, 105, 110, 105, 116, 95, 95]⟩) 221, Value.str (⟨#[76, 101, 100, 103, 101, 114, 69, 114, 114, 111, 114, 46, 95, 95, 105, 110, 105, 116, 95, 95]⟩) 222, Value.str (⟨#[47, 99, 108, 97, 105, 109, 47, 99, 117, 116, 46, 112, 121]⟩) 223, Value.int 21 0, Value.int 3 0, Value.int 0 0, Value.int 0 0, Value.int 3 0, Value.ref 38, Value.bool true, Value.int 181 0, Value.ref 39, Value.none, Value.ref 40, Value.ref 41, Value.ref 42, Value.int 227 0, Value.int 21 0, Value.str (⟨#[47, 99, 108, 97, 105, 109, 47, 99, 117, 116, 46, 112, 121]⟩) 228] }
noncomputable def v_59_p5 (_P : Params) : Obj := { cls := Value.type "builtin_function_or_method", data := Data.fields #[Value.builtin "type.__prepare__", Value.type "type"] }
noncomputable def v_17_p0 (_P : Params) : Obj := { cls := Value.type "tuple", data := Data.seq #[Value.str (⟨#[107]⟩) 190] }
noncomputable def v_33_p4 (_P : Params) : Obj := { cls := Value.none, data := Data.fields #[Value.int 21 0, Value.int 4 0, Value.ref 43, Value.int 26 0, Value.int 4 0, Value.ref 50] }
noncomputable def v_65_p5 (_P : Params) : Obj := { cls := Value.type "tuple", data := Data.seq #[] }
noncomputable def v_49_p4 (p : Program) (_P : Params) : Obj := { cls := Value.none, data := Data.func { name := ⟨#[116, 111, 108, 100]⟩, qualname := ⟨#[76, 101, 100, 103, 101, 114, 69, 114, 114, 111, 114, 46, 116, 111, 108, 100]⟩, params := fArgs (st (members (st p.main.body 4)) 1), body := FuncBody.stmts (fBody (st (members (st p.main.body 4)) 1)), scope := fScope (st (members (st p.main.body 4)) 1), globals := 0, closure := [], defaults := Value.none, kwdefaults := Value.none } }
noncomputable def v_25_p2 (_P : Params) : Obj := { cls := Value.type "tuple", data := Data.seq #[] }
noncomputable def v_41_p4 (_P : Params) : Obj := { cls := Value.type "tuple", data := Data.seq #[] }
noncomputable def v_57_p4 (_P : Params) : Obj := { cls := Value.type "builtin_function_or_method", data := Data.fields #[Value.builtin "object.__init_subclass__", Value.ref 54] }
noncomputable def v_21_p0 (p : Program) (_P : Params) : Obj := { cls := Value.type "function", data := Data.func { name := ⟨#[95, 119, 97, 108, 108]⟩, qualname := ⟨#[95, 119, 97, 108, 108]⟩, params := fArgs (st p.main.body 0), body := FuncBody.stmts (fBody (st p.main.body 0)), scope := fScope (st p.main.body 0), globals := 3, closure := [], defaults := Value.none, kwdefaults := Value.none, pyModule := Value.str (⟨#[95, 95, 109, 97, 105, 110, 95, 95]⟩) 164, code := Value.ref 20 } }
noncomputable def v_37_p4 (_P : Params) : Obj := { cls := Value.type "tuple", data := Data.seq #[Value.ref 36] }
noncomputable def v_69_p5 (_P : Params) : Obj := { cls := Value.type "builtin_function_or_method", data := Data.fields #[Value.builtin "object.__init_subclass__", Value.ref 67] }
noncomputable def v_53_p4 (P : Params) : Obj := { cls := Value.type "dict", data := Data.dict #[{ hash := PyData.keyHash P (⟨#[95, 95, 109, 111, 100, 117, 108, 101, 95, 95]⟩), key := Value.str (⟨#[95, 95, 109, 111, 100, 117, 108, 101, 95, 95]⟩) 214, val := Value.str (⟨#[108, 101, 100, 103, 101, 114, 115, 112, 101, 97, 107, 46, 101, 114, 114, 111, 114, 115]⟩) 205 }, { hash := PyData.keyHash P (⟨#[95, 95, 102, 105, 114, 115, 116, 108, 105, 110, 101, 110, 111, 95, 95]⟩), key := Value.str (⟨#[95, 95, 102, 105, 114, 115, 116, 108, 105, 110, 101, 110, 111, 95, 95]⟩) 218, val := Value.int 19 217 }, { hash := PyData.keyHash P (⟨#[95, 95, 105, 110, 105, 116, 95, 95]⟩), key := Value.str (⟨#[95, 95, 105, 110, 105, 116, 95, 95]⟩) 229, val := Value.ref 44 }, { hash := PyData.keyHash P (⟨#[116, 111, 108, 100]⟩), key := Value.str (⟨#[116, 111, 108, 100]⟩) 236, val := Value.ref 51 }, { hash := PyData.keyHash P (⟨#[95, 95, 115, 116, 97, 116, 105, 99, 95, 97, 116, 116, 114, 105, 98, 117, 116, 101, 115, 95, 95]⟩), key := Value.str (⟨#[95, 95, 115, 116, 97, 116, 105, 99, 95, 97, 116, 116, 114, 105, 98, 117, 116, 101, 115, 95, 95]⟩) 239, val := Value.ref 52 }, { hash := PyData.keyHash P (⟨#[95, 95, 119, 101, 97, 107, 114, 101, 102, 95, 95]⟩), key := Value.str (⟨#[95, 95, 119, 101, 97, 107, 114, 101, 102, 95, 95]⟩) 241, val := Value.ref 55 }, { hash := PyData.keyHash P (⟨#[95, 95, 100, 111, 99, 95, 95]⟩), key := Value.str (⟨#[95, 95, 100, 111, 99, 95, 95]⟩) 242, val := Value.none }] 3 }
noncomputable def v_29_p4 (_P : Params) : Obj := { cls := Value.type "tuple", data := Data.seq #[Value.type "Exception"] }
noncomputable def v_45_p4 (_P : Params) : Obj := { cls := Value.type "tuple", data := Data.seq #[] }
noncomputable def v_61_p5 (_P : Params) : Obj := { cls := Value.type "tuple", data := Data.seq #[] }
noncomputable def v_2_p4 (P : Params) : Obj := { cls := Value.none, data := Data.dict #[{ hash := PyData.keyHash P (⟨#[116, 121, 112, 101, 46, 95, 95, 115, 117, 98, 99, 108, 97, 115, 115, 101, 115, 95, 95, 46, 69, 120, 99, 101, 112, 116, 105, 111, 110, 46, 48]⟩), key := Value.str (⟨#[116, 121, 112, 101, 46, 95, 95, 115, 117, 98, 99, 108, 97, 115, 115, 101, 115, 95, 95, 46, 69, 120, 99, 101, 112, 116, 105, 111, 110, 46, 48]⟩) 243, val := Value.int 54 0 }, { hash := PyData.keyHash P (⟨#[116, 121, 112, 101, 46, 95, 95, 115, 117, 98, 99, 108, 97, 115, 115, 101, 115, 95, 95, 46, 69, 120, 99, 101, 112, 116, 105, 111, 110, 46, 110]⟩), key := Value.str (⟨#[116, 121, 112, 101, 46, 95, 95, 115, 117, 98, 99, 108, 97, 115, 115, 101, 115, 95, 95, 46, 69, 120, 99, 101, 112, 116, 105, 111, 110, 46, 110]⟩) 244, val := Value.int 1 0 }] 2 }
noncomputable def v_16_p0 (_P : Params) : Obj := { cls := Value.none, data := Data.fields #[] }
noncomputable def v_32_p4 (_P : Params) : Obj := { cls := Value.type "tuple", data := Data.seq #[] }
noncomputable def v_64_p5 (_P : Params) : Obj := { cls := Value.type "frame", slots := #[some (Value.ref 63), some (Value.ref 3), some (Value.ref 60), none, some (Value.str (⟨#[108, 101, 100, 103, 101, 114, 115, 112, 101, 97, 107, 46, 101, 114, 114, 111, 114, 115]⟩) 205), none, some (Value.ref 0)] }
noncomputable def v_48_p4 (_P : Params) : Obj := { cls := Value.type "tuple", data := Data.seq #[] }
noncomputable def v_24_p2 (_P : Params) : Obj := { cls := Value.type "tuple", data := Data.seq #[Value.str (⟨#[114, 101, 97, 100, 101, 114]⟩) 199, Value.str (⟨#[100, 101, 112, 116, 104]⟩) 200, Value.str (⟨#[97, 104, 101, 97, 100]⟩) 201] }
noncomputable def v_40_p4 (_P : Params) : Obj := { cls := Value.type "tuple", data := Data.seq #[Value.str (⟨#[115, 101, 108, 102]⟩) 224, Value.str (⟨#[119, 104, 97, 116]⟩) 225, Value.str (⟨#[97, 116]⟩) 226] }
noncomputable def v_56_p4 (_P : Params) : Obj := { cls := Value.type "super", data := Data.fields #[Value.ref 54, Value.ref 54, Value.ref 54] }
noncomputable def v_12_p5 (_P : Params) : Obj := { cls := Value.none, data := Data.fields #[Value.int 1 0, Value.int 0 0, Value.ref 20, Value.int 5 0, Value.int 0 0, Value.ref 27, Value.int 19 0, Value.int 0 0, Value.ref 34, Value.int 28 0, Value.int 0 0, Value.ref 63] }
noncomputable def v_20_p0 (_P : Params) : Obj := { cls := Value.type "code", data := Data.fields #[Value.str (⟨#[95, 119, 97, 108, 108]⟩) 187, Value.str (⟨#[95, 119, 97, 108, 108]⟩) 188, Value.str (⟨#[47, 99, 108, 97, 105, 109, 47, 99, 117, 116, 46, 112, 121]⟩) 189, Value.int 1 0, Value.int 1 0, Value.int 0 0, Value.int 0 0, Value.int 3 0, Value.ref 15, Value.bool true, Value.int 181 0, Value.ref 16, Value.none, Value.ref 17, Value.ref 18, Value.ref 19, Value.int 191 0, Value.int 1 0, Value.str (⟨#[47, 99, 108, 97, 105, 109, 47, 99, 117, 116, 46, 112, 121]⟩) 192] }
noncomputable def v_36_p4 (_P : Params) : Obj := { cls := Value.type "tuple", data := Data.seq #[Value.int 0 219, Value.int 0 220] }
noncomputable def v_68_p5 (_P : Params) : Obj := { cls := Value.type "super", data := Data.fields #[Value.ref 67, Value.ref 67, Value.ref 67] }
noncomputable def v_52_p4 (_P : Params) : Obj := { cls := Value.type "tuple", data := Data.seq #[Value.str (⟨#[97, 116]⟩) 237, Value.str (⟨#[119, 104, 97, 116]⟩) 238] }
noncomputable def v_28_p2 (p : Program) (_P : Params) : Obj := { cls := Value.type "function", data := Data.func { name := ⟨#[105, 115, 95, 112, 97, 114, 116, 95, 110, 101, 120, 116]⟩, qualname := ⟨#[105, 115, 95, 112, 97, 114, 116, 95, 110, 101, 120, 116]⟩, params := fArgs (st p.main.body 2), body := FuncBody.stmts (fBody (st p.main.body 2)), scope := fScope (st p.main.body 2), globals := 3, closure := [], defaults := Value.none, kwdefaults := Value.none, pyModule := Value.str (⟨#[108, 101, 100, 103, 101, 114, 115, 112, 101, 97, 107, 46, 114, 101, 102, 101, 114, 101, 110, 99, 101, 115]⟩) 194, code := Value.ref 27 } }
noncomputable def v_44_p4 (p : Program) (_P : Params) : Obj := { cls := Value.type "function", data := Data.func { name := ⟨#[95, 95, 105, 110, 105, 116, 95, 95]⟩, qualname := ⟨#[76, 101, 100, 103, 101, 114, 69, 114, 114, 111, 114, 46, 95, 95, 105, 110, 105, 116, 95, 95]⟩, params := fArgs (st (members (st p.main.body 4)) 0), body := FuncBody.stmts (fBody (st (members (st p.main.body 4)) 0)), scope := fScope (st (members (st p.main.body 4)) 0), globals := 3, closure := [], defaults := Value.ref 37, kwdefaults := Value.none, pyModule := Value.str (⟨#[108, 101, 100, 103, 101, 114, 115, 112, 101, 97, 107, 46, 101, 114, 114, 111, 114, 115]⟩) 205, code := Value.ref 43 } }
noncomputable def v_60_p5 (P : Params) : Obj := { cls := Value.type "dict", data := Data.dict #[{ hash := PyData.keyHash P (⟨#[95, 95, 109, 111, 100, 117, 108, 101, 95, 95]⟩), key := Value.str (⟨#[95, 95, 109, 111, 100, 117, 108, 101, 95, 95]⟩) 254, val := Value.str (⟨#[108, 101, 100, 103, 101, 114, 115, 112, 101, 97, 107, 46, 101, 114, 114, 111, 114, 115]⟩) 205 }, { hash := PyData.keyHash P (⟨#[95, 95, 113, 117, 97, 108, 110, 97, 109, 101, 95, 95]⟩), key := Value.str (⟨#[95, 95, 113, 117, 97, 108, 110, 97, 109, 101, 95, 95]⟩) 256, val := Value.str (⟨#[71, 114, 97, 109, 109, 97, 114, 70, 97, 117, 108, 116]⟩) 255 }, { hash := PyData.keyHash P (⟨#[95, 95, 102, 105, 114, 115, 116, 108, 105, 110, 101, 110, 111, 95, 95]⟩), key := Value.str (⟨#[95, 95, 102, 105, 114, 115, 116, 108, 105, 110, 101, 110, 111, 95, 95]⟩) 258, val := Value.int 28 257 }, { hash := PyData.keyHash P (⟨#[95, 95, 115, 116, 97, 116, 105, 99, 95, 97, 116, 116, 114, 105, 98, 117, 116, 101, 115, 95, 95]⟩), key := Value.str (⟨#[95, 95, 115, 116, 97, 116, 105, 99, 95, 97, 116, 116, 114, 105, 98, 117, 116, 101, 115, 95, 95]⟩) 259, val := Value.ref 65 }] 4 }
noncomputable def v_18_p0 (_P : Params) : Obj := { cls := Value.type "tuple", data := Data.seq #[] }
noncomputable def v_34_p4 (_P : Params) : Obj := { cls := Value.type "code", data := Data.fields #[Value.str (⟨#[76, 101, 100, 103, 101, 114, 69, 114, 114, 111, 114]⟩) 209, Value.str (⟨#[76, 101, 100, 103, 101, 114, 69, 114, 114, 111, 114]⟩) 210, Value.str (⟨#[47, 99, 108, 97, 105, 109, 47, 99, 117, 116, 46, 112, 121]⟩) 211, Value.int 19 0, Value.int 0 0, Value.int 0 0, Value.int 0 0, Value.int 0 0, Value.ref 32, Value.bool false, Value.int 181 0, Value.ref 33, Value.none, Value.none, Value.none, Value.none, Value.int 212 0, Value.int 19 0, Value.str (⟨#[47, 99, 108, 97, 105, 109, 47, 99, 117, 116, 46, 112, 121]⟩) 213] }
noncomputable def v_66_p5 (P : Params) : Obj := { cls := Value.type "dict", data := Data.dict #[{ hash := PyData.keyHash P (⟨#[95, 95, 109, 111, 100, 117, 108, 101, 95, 95]⟩), key := Value.str (⟨#[95, 95, 109, 111, 100, 117, 108, 101, 95, 95]⟩) 254, val := Value.str (⟨#[108, 101, 100, 103, 101, 114, 115, 112, 101, 97, 107, 46, 101, 114, 114, 111, 114, 115]⟩) 205 }, { hash := PyData.keyHash P (⟨#[95, 95, 102, 105, 114, 115, 116, 108, 105, 110, 101, 110, 111, 95, 95]⟩), key := Value.str (⟨#[95, 95, 102, 105, 114, 115, 116, 108, 105, 110, 101, 110, 111, 95, 95]⟩) 258, val := Value.int 28 257 }, { hash := PyData.keyHash P (⟨#[95, 95, 115, 116, 97, 116, 105, 99, 95, 97, 116, 116, 114, 105, 98, 117, 116, 101, 115, 95, 95]⟩), key := Value.str (⟨#[95, 95, 115, 116, 97, 116, 105, 99, 95, 97, 116, 116, 114, 105, 98, 117, 116, 101, 115, 95, 95]⟩) 259, val := Value.ref 65 }, { hash := PyData.keyHash P (⟨#[95, 95, 100, 111, 99, 95, 95]⟩), key := Value.str (⟨#[95, 95, 100, 111, 99, 95, 95]⟩) 260, val := Value.none }] 2 }
noncomputable def v_50_p4 (_P : Params) : Obj := { cls := Value.type "code", data := Data.fields #[Value.str (⟨#[116, 111, 108, 100]⟩) 230, Value.str (⟨#[76, 101, 100, 103, 101, 114, 69, 114, 114, 111, 114, 46, 116, 111, 108, 100]⟩) 231, Value.str (⟨#[47, 99, 108, 97, 105, 109, 47, 99, 117, 116, 46, 112, 121]⟩) 232, Value.int 26 0, Value.int 1 0, Value.int 0 0, Value.int 0 0, Value.int 3 0, Value.ref 45, Value.bool true, Value.int 181 0, Value.ref 46, Value.none, Value.ref 47, Value.ref 48, Value.ref 49, Value.int 234 0, Value.int 26 0, Value.str (⟨#[47, 99, 108, 97, 105, 109, 47, 99, 117, 116, 46, 112, 121]⟩) 235] }
noncomputable def v_26_p2 (p : Program) (_P : Params) : Obj := { cls := Value.none, data := Data.func { name := ⟨#[105, 115, 95, 112, 97, 114, 116, 95, 110, 101, 120, 116]⟩, qualname := ⟨#[105, 115, 95, 112, 97, 114, 116, 95, 110, 101, 120, 116]⟩, params := fArgs (st p.main.body 2), body := FuncBody.stmts (fBody (st p.main.body 2)), scope := fScope (st p.main.body 2), globals := 0, closure := [], defaults := Value.none, kwdefaults := Value.none } }
noncomputable def v_42_p4 (p : Program) (_P : Params) : Obj := { cls := Value.none, data := Data.func { name := ⟨#[95, 95, 105, 110, 105, 116, 95, 95]⟩, qualname := ⟨#[76, 101, 100, 103, 101, 114, 69, 114, 114, 111, 114, 46, 95, 95, 105, 110, 105, 116, 95, 95]⟩, params := fArgs (st (members (st p.main.body 4)) 0), body := FuncBody.stmts (fBody (st (members (st p.main.body 4)) 0)), scope := fScope (st (members (st p.main.body 4)) 0), globals := 0, closure := [], defaults := Value.none, kwdefaults := Value.none } }
noncomputable def v_58_p5 (_P : Params) : Obj := { cls := Value.type "tuple", data := Data.seq #[Value.ref 54] }
noncomputable def v_22_p2 (_P : Params) : Obj := { cls := Value.type "tuple", data := Data.seq #[] }
noncomputable def v_38_p4 (_P : Params) : Obj := { cls := Value.type "tuple", data := Data.seq #[] }
noncomputable def v_54_p5 (_P : Params) : Obj := { cls := Value.type "type", data := Data.cls { name := ⟨#[76, 101, 100, 103, 101, 114, 69, 114, 114, 111, 114]⟩, bases := [Value.type "Exception"], mro := [Value.ref 54, Value.type "Exception", Value.type "BaseException", Value.type "object"], ns := 53, qualname := ⟨#[76, 101, 100, 103, 101, 114, 69, 114, 114, 111, 114]⟩, subclasses := [Value.ref 67] }, slots := #[some (Value.ref 29), none, some (Value.str (⟨#[76, 101, 100, 103, 101, 114, 69, 114, 114, 111, 114]⟩) 207), some (Value.str (⟨#[76, 101, 100, 103, 101, 114, 69, 114, 114, 111, 114]⟩) 215), some (Value.builtin "Exception.__new__"), some (Value.bool true)] }
noncomputable def v_30_p4 (_P : Params) : Obj := { cls := Value.type "builtin_function_or_method", data := Data.fields #[Value.builtin "type.__prepare__", Value.type "type"] }
noncomputable def v_46_p4 (_P : Params) : Obj := { cls := Value.none, data := Data.fields #[] }
noncomputable def v_62_p5 (_P : Params) : Obj := { cls := Value.none, data := Data.fields #[] }
noncomputable def v_3_p7 (P : Params) : Obj := { cls := Value.type "dict", data := Data.dict #[{ hash := PyData.keyHash P (⟨#[95, 95, 110, 97, 109, 101, 95, 95]⟩), key := Value.str (⟨#[95, 95, 110, 97, 109, 101, 95, 95]⟩) 165, val := Value.str (⟨#[108, 101, 100, 103, 101, 114, 115, 112, 101, 97, 107, 46, 114, 101, 97, 100, 101, 114]⟩) 263 }, { hash := PyData.keyHash P (⟨#[95, 95, 100, 111, 99, 95, 95]⟩), key := Value.str (⟨#[95, 95, 100, 111, 99, 95, 95]⟩) 166, val := Value.none }, { hash := PyData.keyHash P (⟨#[95, 95, 112, 97, 99, 107, 97, 103, 101, 95, 95]⟩), key := Value.str (⟨#[95, 95, 112, 97, 99, 107, 97, 103, 101, 95, 95]⟩) 167, val := Value.none }, { hash := PyData.keyHash P (⟨#[95, 95, 108, 111, 97, 100, 101, 114, 95, 95]⟩), key := Value.str (⟨#[95, 95, 108, 111, 97, 100, 101, 114, 95, 95]⟩) 168, val := Value.builtin "__main__.__loader__#opaque" }, { hash := PyData.keyHash P (⟨#[95, 95, 115, 112, 101, 99, 95, 95]⟩), key := Value.str (⟨#[95, 95, 115, 112, 101, 99, 95, 95]⟩) 169, val := Value.none }, { hash := PyData.keyHash P (⟨#[95, 95, 97, 110, 110, 111, 116, 97, 116, 105, 111, 110, 115, 95, 95]⟩), key := Value.str (⟨#[95, 95, 97, 110, 110, 111, 116, 97, 116, 105, 111, 110, 115, 95, 95]⟩) 170, val := Value.ref 6 }, { hash := PyData.keyHash P (⟨#[95, 95, 98, 117, 105, 108, 116, 105, 110, 115, 95, 95]⟩), key := Value.str (⟨#[95, 95, 98, 117, 105, 108, 116, 105, 110, 115, 95, 95]⟩) 171, val := Value.ref 4 }, { hash := PyData.keyHash P (⟨#[95, 95, 102, 105, 108, 101, 95, 95]⟩), key := Value.str (⟨#[95, 95, 102, 105, 108, 101, 95, 95]⟩) 173, val := Value.str (⟨#[47, 99, 108, 97, 105, 109, 47, 99, 117, 116, 46, 112, 121]⟩) 172 }, { hash := PyData.keyHash P (⟨#[95, 95, 99, 97, 99, 104, 101, 100, 95, 95]⟩), key := Value.str (⟨#[95, 95, 99, 97, 99, 104, 101, 100, 95, 95]⟩) 174, val := Value.none }, { hash := PyData.keyHash P (⟨#[95, 119, 97, 108, 108]⟩), key := Value.str (⟨#[95, 119, 97, 108, 108]⟩) 193, val := Value.ref 21 }, { hash := PyData.keyHash P (⟨#[105, 115, 95, 112, 97, 114, 116, 95, 110, 101, 120, 116]⟩), key := Value.str (⟨#[105, 115, 95, 112, 97, 114, 116, 95, 110, 101, 120, 116]⟩) 204, val := Value.ref 28 }, { hash := PyData.keyHash P (⟨#[76, 101, 100, 103, 101, 114, 69, 114, 114, 111, 114]⟩), key := Value.str (⟨#[76, 101, 100, 103, 101, 114, 69, 114, 114, 111, 114]⟩) 246, val := Value.ref 54 }, { hash := PyData.keyHash P (⟨#[71, 114, 97, 109, 109, 97, 114, 70, 97, 117, 108, 116]⟩), key := Value.str (⟨#[71, 114, 97, 109, 109, 97, 114, 70, 97, 117, 108, 116]⟩) 262, val := Value.ref 67 }, { hash := PyData.keyHash P (⟨#[82, 101, 97, 100, 101, 114]⟩), key := Value.str (⟨#[82, 101, 97, 100, 101, 114]⟩) 463, val := Value.ref 238 }] 14 }
noncomputable def v_127_p7 (_P : Params) : Obj := { cls := Value.type "code", data := Data.fields #[Value.str (⟨#[105, 115, 95, 119, 111, 114, 100]⟩) 330, Value.str (⟨#[82, 101, 97, 100, 101, 114, 46, 105, 115, 95, 119, 111, 114, 100]⟩) 331, Value.str (⟨#[47, 99, 108, 97, 105, 109, 47, 99, 117, 116, 46, 112, 121]⟩) 332, Value.int 62 0, Value.int 2 0, Value.int 0 0, Value.int 0 0, Value.int 3 0, Value.ref 122, Value.bool true, Value.int 181 0, Value.ref 123, Value.none, Value.ref 124, Value.ref 125, Value.ref 126, Value.int 335 0, Value.int 62 0, Value.str (⟨#[47, 99, 108, 97, 105, 109, 47, 99, 117, 116, 46, 112, 121]⟩) 336] }
noncomputable def v_191_p7 (p : Program) (_P : Params) : Obj := { cls := Value.none, data := Data.func { name := ⟨#[115, 107, 105, 112, 95, 115, 105, 103, 110]⟩, qualname := ⟨#[82, 101, 97, 100, 101, 114, 46, 115, 107, 105, 112, 95, 115, 105, 103, 110]⟩, params := fArgs (st (members (st p.main.body 7)) 15), body := FuncBody.stmts (fBody (st (members (st p.main.body 7)) 15)), scope := fScope (st (members (st p.main.body 7)) 15), globals := 0, closure := [], defaults := Value.none, kwdefaults := Value.none } }
noncomputable def v_95_p7 (_P : Params) : Obj := { cls := Value.type "tuple", data := Data.seq #[Value.str (⟨#[115, 101, 108, 102]⟩) 299] }
noncomputable def v_159_p7 (_P : Params) : Obj := { cls := Value.none, data := Data.fields #[] }
noncomputable def v_223_p7 (_P : Params) : Obj := { cls := Value.none, data := Data.fields #[] }
noncomputable def v_79_p7 (_P : Params) : Obj := { cls := Value.none, data := Data.fields #[] }
noncomputable def v_143_p7 (_P : Params) : Obj := { cls := Value.type "tuple", data := Data.seq #[] }
noncomputable def v_207_p7 (p : Program) (_P : Params) : Obj := { cls := Value.type "function", data := Data.func { name := ⟨#[105, 115, 95, 110, 117, 109, 98, 101, 114]⟩, qualname := ⟨#[82, 101, 97, 100, 101, 114, 46, 105, 115, 95, 110, 117, 109, 98, 101, 114]⟩, params := fArgs (st (members (st p.main.body 7)) 17), body := FuncBody.stmts (fBody (st (members (st p.main.body 7)) 17)), scope := fScope (st (members (st p.main.body 7)) 17), globals := 3, closure := [], defaults := Value.none, kwdefaults := Value.none, pyModule := Value.str (⟨#[108, 101, 100, 103, 101, 114, 115, 112, 101, 97, 107, 46, 114, 101, 97, 100, 101, 114]⟩) 263, code := Value.ref 206 } }
noncomputable def v_111_p7 (p : Program) (_P : Params) : Obj := { cls := Value.none, data := Data.func { name := ⟨#[116, 97, 107, 101]⟩, qualname := ⟨#[82, 101, 97, 100, 101, 114, 46, 116, 97, 107, 101]⟩, params := fArgs (st (members (st p.main.body 7)) 4), body := FuncBody.stmts (fBody (st (members (st p.main.body 7)) 4)), scope := fScope (st (members (st p.main.body 7)) 4), globals := 0, closure := [], defaults := Value.none, kwdefaults := Value.none } }
noncomputable def v_175_p7 (_P : Params) : Obj := { cls := Value.type "tuple", data := Data.seq #[] }
noncomputable def v_239_p7 (_P : Params) : Obj := { cls := Value.type "getset_descriptor", data := Data.fields #[Value.str (⟨#[95, 95, 100, 105, 99, 116, 95, 95]⟩) 457, Value.ref 238, Value.builtin "function.__dict__", Value.builtin "function.__dict__#set"] }
noncomputable def v_71_p7 (_P : Params) : Obj := { cls := Value.type "builtin_function_or_method", data := Data.fields #[Value.builtin "type.__prepare__", Value.type "type"] }
noncomputable def v_135_p7 (p : Program) (_P : Params) : Obj := { cls := Value.type "function", data := Data.func { name := ⟨#[115, 107, 105, 112]⟩, qualname := ⟨#[82, 101, 97, 100, 101, 114, 46, 115, 107, 105, 112]⟩, params := fArgs (st (members (st p.main.body 7)) 7), body := FuncBody.stmts (fBody (st (members (st p.main.body 7)) 7)), scope := fScope (st (members (st p.main.body 7)) 7), globals := 3, closure := [], defaults := Value.none, kwdefaults := Value.none, pyModule := Value.str (⟨#[108, 101, 100, 103, 101, 114, 115, 112, 101, 97, 107, 46, 114, 101, 97, 100, 101, 114]⟩) 263, code := Value.ref 134 } }
noncomputable def v_199_p7 (_P : Params) : Obj := { cls := Value.type "code", data := Data.fields #[Value.str (⟨#[110, 101, 101, 100, 95, 115, 105, 103, 110]⟩) 410, Value.str (⟨#[82, 101, 97, 100, 101, 114, 46, 110, 101, 101, 100, 95, 115, 105, 103, 110]⟩) 411, Value.str (⟨#[47, 99, 108, 97, 105, 109, 47, 99, 117, 116, 46, 112, 121]⟩) 412, Value.int 94 0, Value.int 2 0, Value.int 0 0, Value.int 0 0, Value.int 3 0, Value.ref 194, Value.bool true, Value.int 181 0, Value.ref 195, Value.none, Value.ref 196, Value.ref 197, Value.ref 198, Value.int 415 0, Value.int 94 0, Value.str (⟨#[47, 99, 108, 97, 105, 109, 47, 99, 117, 116, 46, 112, 121]⟩) 416] }
noncomputable def v_103_p7 (_P : Params) : Obj := { cls := Value.type "tuple", data := Data.seq #[] }
noncomputable def v_167_p7 (_P : Params) : Obj := { cls := Value.type "tuple", data := Data.seq #[Value.str (⟨#[115, 101, 108, 102]⟩) 381] }
noncomputable def v_231_p7 (_P : Params) : Obj := { cls := Value.type "tuple", data := Data.seq #[Value.str (⟨#[115, 101, 108, 102]⟩) 449] }
noncomputable def v_87_p7 (_P : Params) : Obj := { cls := Value.none, data := Data.fields #[] }
noncomputable def v_151_p7 (_P : Params) : Obj := { cls := Value.none, data := Data.fields #[] }
noncomputable def v_215_p7 (_P : Params) : Obj := { cls := Value.type "tuple", data := Data.seq #[] }
noncomputable def v_119_p7 (p : Program) (_P : Params) : Obj := { cls := Value.none, data := Data.func { name := ⟨#[105, 115, 95, 107, 105, 110, 100]⟩, qualname := ⟨#[82, 101, 97, 100, 101, 114, 46, 105, 115, 95, 107, 105, 110, 100]⟩, params := fArgs (st (members (st p.main.body 7)) 5), body := FuncBody.stmts (fBody (st (members (st p.main.body 7)) 5)), scope := fScope (st (members (st p.main.body 7)) 5), globals := 0, closure := [], defaults := Value.none, kwdefaults := Value.none } }
noncomputable def v_183_p7 (_P : Params) : Obj := { cls := Value.type "tuple", data := Data.seq #[] }
noncomputable def v_131_p7 (_P : Params) : Obj := { cls := Value.type "tuple", data := Data.seq #[Value.str (⟨#[115, 101, 108, 102]⟩) 341, Value.str (⟨#[119, 111, 114, 100, 115]⟩) 342] }
noncomputable def v_195_p7 (_P : Params) : Obj := { cls := Value.none, data := Data.fields #[] }
noncomputable def v_99_p7 (p : Program) (_P : Params) : Obj := { cls := Value.type "function", data := Data.func { name := ⟨#[105, 115, 95, 100, 111, 110, 101]⟩, qualname := ⟨#[82, 101, 97, 100, 101, 114, 46, 105, 115, 95, 100, 111, 110, 101]⟩, params := fArgs (st (members (st p.main.body 7)) 2), body := FuncBody.stmts (fBody (st (members (st p.main.body 7)) 2)), scope := fScope (st (members (st p.main.body 7)) 2), globals := 3, closure := [], defaults := Value.none, kwdefaults := Value.none, pyModule := Value.str (⟨#[108, 101, 100, 103, 101, 114, 115, 112, 101, 97, 107, 46, 114, 101, 97, 100, 101, 114]⟩) 263, code := Value.ref 98 } }
noncomputable def v_163_p7 (_P : Params) : Obj := { cls := Value.type "code", data := Data.fields #[Value.str (⟨#[105, 115, 95, 110, 97, 109, 101]⟩) 370, Value.str (⟨#[82, 101, 97, 100, 101, 114, 46, 105, 115, 95, 110, 97, 109, 101]⟩) 371, Value.str (⟨#[47, 99, 108, 97, 105, 109, 47, 99, 117, 116, 46, 112, 121]⟩) 372, Value.int 79 0, Value.int 2 0, Value.int 0 0, Value.int 0 0, Value.int 3 0, Value.ref 158, Value.bool true, Value.int 181 0, Value.ref 159, Value.none, Value.ref 160, Value.ref 161, Value.ref 162, Value.int 375 0, Value.int 79 0, Value.str (⟨#[47, 99, 108, 97, 105, 109, 47, 99, 117, 116, 46, 112, 121]⟩) 376] }
noncomputable def v_227_p7 (_P : Params) : Obj := { cls := Value.type "code", data := Data.fields #[Value.str (⟨#[108, 105, 116, 101, 114, 97, 108]⟩) 439, Value.str (⟨#[82, 101, 97, 100, 101, 114, 46, 108, 105, 116, 101, 114, 97, 108]⟩) 440, Value.str (⟨#[47, 99, 108, 97, 105, 109, 47, 99, 117, 116, 46, 112, 121]⟩) 441, Value.int 106 0, Value.int 1 0, Value.int 0 0, Value.int 0 0, Value.int 3 0, Value.ref 222, Value.bool true, Value.int 181 0, Value.ref 223, Value.none, Value.ref 224, Value.ref 225, Value.ref 226, Value.int 443 0, Value.int 106 0, Value.str (⟨#[47, 99, 108, 97, 105, 109, 47, 99, 117, 116, 46, 112, 121]⟩) 444] }
noncomputable def v_83_p7 (_P : Params) : Obj := { cls := Value.type "code", data := Data.fields #[Value.str (⟨#[95, 95, 105, 110, 105, 116, 95, 95]⟩) 278, Value.str (⟨#[82, 101, 97, 100, 101, 114, 46, 95, 95, 105, 110, 105, 116, 95, 95]⟩) 279, Value.str (⟨#[47, 99, 108, 97, 105, 109, 47, 99, 117, 116, 46, 112, 121]⟩) 280, Value.int 33 0, Value.int 3 0, Value.int 0 0, Value.int 0 0, Value.int 3 0, Value.ref 78, Value.bool true, Value.int 181 0, Value.ref 79, Value.none, Value.ref 80, Value.ref 81, Value.ref 82, Value.int 284 0, Value.int 33 0, Value.str (⟨#[47, 99, 108, 97, 105, 109, 47, 99, 117, 116, 46, 112, 121]⟩) 285] }
noncomputable def v_147_p7 (p : Program) (_P : Params) : Obj := { cls := Value.none, data := Data.func { name := ⟨#[111, 110, 101, 95, 111, 102]⟩, qualname := ⟨#[82, 101, 97, 100, 101, 114, 46, 111, 110, 101, 95, 111, 102]⟩, params := fArgs (st (members (st p.main.body 7)) 9), body := FuncBody.stmts (fBody (st (members (st p.main.body 7)) 9)), scope := fScope (st (members (st p.main.body 7)) 9), globals := 0, closure := [], defaults := Value.none, kwdefaults := Value.none } }
noncomputable def v_211_p7 (_P : Params) : Obj := { cls := Value.type "tuple", data := Data.seq #[] }
noncomputable def v_115_p7 (_P : Params) : Obj := { cls := Value.type "tuple", data := Data.seq #[] }
noncomputable def v_179_p7 (_P : Params) : Obj := { cls := Value.type "tuple", data := Data.seq #[Value.int 0 392] }
noncomputable def v_75_p7 (_P : Params) : Obj := { cls := Value.type "code", data := Data.fields #[Value.str (⟨#[82, 101, 97, 100, 101, 114]⟩) 267, Value.str (⟨#[82, 101, 97, 100, 101, 114]⟩) 268, Value.str (⟨#[47, 99, 108, 97, 105, 109, 47, 99, 117, 116, 46, 112, 121]⟩) 269, Value.int 31 0, Value.int 0 0, Value.int 0 0, Value.int 0 0, Value.int 0 0, Value.ref 73, Value.bool false, Value.int 181 0, Value.ref 74, Value.none, Value.none, Value.none, Value.none, Value.int 270 0, Value.int 31 0, Value.str (⟨#[47, 99, 108, 97, 105, 109, 47, 99, 117, 116, 46, 112, 121]⟩) 271] }
noncomputable def v_139_p7 (_P : Params) : Obj := { cls := Value.type "tuple", data := Data.seq #[] }
noncomputable def v_203_p7 (_P : Params) : Obj := { cls := Value.type "tuple", data := Data.seq #[Value.str (⟨#[115, 101, 108, 102]⟩) 421] }
noncomputable def v_107_p7 (_P : Params) : Obj := { cls := Value.type "tuple", data := Data.seq #[] }
noncomputable def v_171_p7 (p : Program) (_P : Params) : Obj := { cls := Value.type "function", data := Data.func { name := ⟨#[110, 97, 109, 101]⟩, qualname := ⟨#[82, 101, 97, 100, 101, 114, 46, 110, 97, 109, 101]⟩, params := fArgs (st (members (st p.main.body 7)) 12), body := FuncBody.stmts (fBody (st (members (st p.main.body 7)) 12)), scope := fScope (st (members (st p.main.body 7)) 12), globals := 3, closure := [], defaults := Value.none, kwdefaults := Value.none, pyModule := Value.str (⟨#[108, 101, 100, 103, 101, 114, 115, 112, 101, 97, 107, 46, 114, 101, 97, 100, 101, 114]⟩) 263, code := Value.ref 170 } }
noncomputable def v_235_p7 (p : Program) (_P : Params) : Obj := { cls := Value.type "function", data := Data.func { name := ⟨#[111, 99, 116, 101, 116, 115]⟩, qualname := ⟨#[82, 101, 97, 100, 101, 114, 46, 111, 99, 116, 101, 116, 115]⟩, params := fArgs (st (members (st p.main.body 7)) 21), body := FuncBody.stmts (fBody (st (members (st p.main.body 7)) 21)), scope := fScope (st (members (st p.main.body 7)) 21), globals := 3, closure := [], defaults := Value.none, kwdefaults := Value.none, pyModule := Value.str (⟨#[108, 101, 100, 103, 101, 114, 115, 112, 101, 97, 107, 46, 114, 101, 97, 100, 101, 114]⟩) 263, code := Value.ref 234 } }
noncomputable def v_91_p7 (_P : Params) : Obj := { cls := Value.type "code", data := Data.fields #[Value.str (⟨#[112, 101, 101, 107]⟩) 288, Value.str (⟨#[82, 101, 97, 100, 101, 114, 46, 112, 101, 101, 107]⟩) 289, Value.str (⟨#[47, 99, 108, 97, 105, 109, 47, 99, 117, 116, 46, 112, 121]⟩) 290, Value.int 38 0, Value.int 2 0, Value.int 0 0, Value.int 0 0, Value.int 3 0, Value.ref 86, Value.bool true, Value.int 181 0, Value.ref 87, Value.none, Value.ref 88, Value.ref 89, Value.ref 90, Value.int 293 0, Value.int 38 0, Value.str (⟨#[47, 99, 108, 97, 105, 109, 47, 99, 117, 116, 46, 112, 121]⟩) 294] }
noncomputable def v_155_p7 (_P : Params) : Obj := { cls := Value.type "code", data := Data.fields #[Value.str (⟨#[119, 111, 114, 100]⟩) 362, Value.str (⟨#[82, 101, 97, 100, 101, 114, 46, 119, 111, 114, 100]⟩) 363, Value.str (⟨#[47, 99, 108, 97, 105, 109, 47, 99, 117, 116, 46, 112, 121]⟩) 364, Value.int 74 0, Value.int 1 0, Value.int 0 0, Value.int 0 0, Value.int 3 0, Value.ref 150, Value.bool true, Value.int 181 0, Value.ref 151, Value.none, Value.ref 152, Value.ref 153, Value.ref 154, Value.int 366 0, Value.int 74 0, Value.str (⟨#[47, 99, 108, 97, 105, 109, 47, 99, 117, 116, 46, 112, 121]⟩) 367] }
noncomputable def v_219_p7 (p : Program) (_P : Params) : Obj := { cls := Value.none, data := Data.func { name := ⟨#[119, 104, 111, 108, 101]⟩, qualname := ⟨#[82, 101, 97, 100, 101, 114, 46, 119, 104, 111, 108, 101]⟩, params := fArgs (st (members (st p.main.body 7)) 19), body := FuncBody.stmts (fBody (st (members (st p.main.body 7)) 19)), scope := fScope (st (members (st p.main.body 7)) 19), globals := 0, closure := [], defaults := Value.none, kwdefaults := Value.none } }
noncomputable def v_123_p7 (_P : Params) : Obj := { cls := Value.none, data := Data.fields #[] }
noncomputable def v_187_p7 (_P : Params) : Obj := { cls := Value.type "tuple", data := Data.seq #[] }
noncomputable def v_129_p7 (_P : Params) : Obj := { cls := Value.type "tuple", data := Data.seq #[] }
noncomputable def v_193_p7 (p : Program) (_P : Params) : Obj := { cls := Value.type "function", data := Data.func { name := ⟨#[115, 107, 105, 112, 95, 115, 105, 103, 110]⟩, qualname := ⟨#[82, 101, 97, 100, 101, 114, 46, 115, 107, 105, 112, 95, 115, 105, 103, 110]⟩, params := fArgs (st (members (st p.main.body 7)) 15), body := FuncBody.stmts (fBody (st (members (st p.main.body 7)) 15)), scope := fScope (st (members (st p.main.body 7)) 15), globals := 3, closure := [], defaults := Value.none, kwdefaults := Value.none, pyModule := Value.str (⟨#[108, 101, 100, 103, 101, 114, 115, 112, 101, 97, 107, 46, 114, 101, 97, 100, 101, 114]⟩) 263, code := Value.ref 192 } }
noncomputable def v_97_p7 (p : Program) (_P : Params) : Obj := { cls := Value.none, data := Data.func { name := ⟨#[105, 115, 95, 100, 111, 110, 101]⟩, qualname := ⟨#[82, 101, 97, 100, 101, 114, 46, 105, 115, 95, 100, 111, 110, 101]⟩, params := fArgs (st (members (st p.main.body 7)) 2), body := FuncBody.stmts (fBody (st (members (st p.main.body 7)) 2)), scope := fScope (st (members (st p.main.body 7)) 2), globals := 0, closure := [], defaults := Value.none, kwdefaults := Value.none } }
noncomputable def v_161_p7 (_P : Params) : Obj := { cls := Value.type "tuple", data := Data.seq #[] }
noncomputable def v_225_p7 (_P : Params) : Obj := { cls := Value.type "tuple", data := Data.seq #[] }
noncomputable def v_81_p7 (_P : Params) : Obj := { cls := Value.type "tuple", data := Data.seq #[] }
noncomputable def v_145_p7 (_P : Params) : Obj := { cls := Value.type "tuple", data := Data.seq #[Value.str (⟨#[115, 101, 108, 102]⟩) 357, Value.str (⟨#[119, 111, 114, 100, 115]⟩) 358] }
noncomputable def v_209_p7 (_P : Params) : Obj := { cls := Value.none, data := Data.fields #[] }
noncomputable def v_113_p7 (p : Program) (_P : Params) : Obj := { cls := Value.type "function", data := Data.func { name := ⟨#[116, 97, 107, 101]⟩, qualname := ⟨#[82, 101, 97, 100, 101, 114, 46, 116, 97, 107, 101]⟩, params := fArgs (st (members (st p.main.body 7)) 4), body := FuncBody.stmts (fBody (st (members (st p.main.body 7)) 4)), scope := fScope (st (members (st p.main.body 7)) 4), globals := 3, closure := [], defaults := Value.none, kwdefaults := Value.none, pyModule := Value.str (⟨#[108, 101, 100, 103, 101, 114, 115, 112, 101, 97, 107, 46, 114, 101, 97, 100, 101, 114]⟩) 263, code := Value.ref 112 } }
noncomputable def v_177_p7 (_P : Params) : Obj := { cls := Value.type "code", data := Data.fields #[Value.str (⟨#[110, 97, 109, 101, 115]⟩) 385, Value.str (⟨#[82, 101, 97, 100, 101, 114, 46, 110, 97, 109, 101, 115]⟩) 386, Value.str (⟨#[47, 99, 108, 97, 105, 109, 47, 99, 117, 116, 46, 112, 121]⟩) 387, Value.int 85 0, Value.int 1 0, Value.int 0 0, Value.int 0 0, Value.int 3 0, Value.ref 172, Value.bool true, Value.int 181 0, Value.ref 173, Value.none, Value.ref 174, Value.ref 175, Value.ref 176, Value.int 389 0, Value.int 85 0, Value.str (⟨#[47, 99, 108, 97, 105, 109, 47, 99, 117, 116, 46, 112, 121]⟩) 390] }
noncomputable def v_241_p7 (_P : Params) : Obj := { cls := Value.type "super", data := Data.fields #[Value.ref 238, Value.ref 238, Value.ref 238] }
noncomputable def v_73_p7 (_P : Params) : Obj := { cls := Value.type "tuple", data := Data.seq #[] }
noncomputable def v_137_p7 (_P : Params) : Obj := { cls := Value.none, data := Data.fields #[] }
noncomputable def v_201_p7 (_P : Params) : Obj := { cls := Value.type "tuple", data := Data.seq #[] }
noncomputable def v_105_p7 (_P : Params) : Obj := { cls := Value.type "code", data := Data.fields #[Value.str (⟨#[102, 97, 117, 108, 116]⟩) 303, Value.str (⟨#[82, 101, 97, 100, 101, 114, 46, 102, 97, 117, 108, 116]⟩) 304, Value.str (⟨#[47, 99, 108, 97, 105, 109, 47, 99, 117, 116, 46, 112, 121]⟩) 305, Value.int 46 0, Value.int 2 0, Value.int 0 0, Value.int 0 0, Value.int 3 0, Value.ref 100, Value.bool true, Value.int 181 0, Value.ref 101, Value.none, Value.ref 102, Value.ref 103, Value.ref 104, Value.int 308 0, Value.int 46 0, Value.str (⟨#[47, 99, 108, 97, 105, 109, 47, 99, 117, 116, 46, 112, 121]⟩) 309] }
noncomputable def v_169_p7 (p : Program) (_P : Params) : Obj := { cls := Value.none, data := Data.func { name := ⟨#[110, 97, 109, 101]⟩, qualname := ⟨#[82, 101, 97, 100, 101, 114, 46, 110, 97, 109, 101]⟩, params := fArgs (st (members (st p.main.body 7)) 12), body := FuncBody.stmts (fBody (st (members (st p.main.body 7)) 12)), scope := fScope (st (members (st p.main.body 7)) 12), globals := 0, closure := [], defaults := Value.none, kwdefaults := Value.none } }
noncomputable def v_233_p7 (p : Program) (_P : Params) : Obj := { cls := Value.none, data := Data.func { name := ⟨#[111, 99, 116, 101, 116, 115]⟩, qualname := ⟨#[82, 101, 97, 100, 101, 114, 46, 111, 99, 116, 101, 116, 115]⟩, params := fArgs (st (members (st p.main.body 7)) 21), body := FuncBody.stmts (fBody (st (members (st p.main.body 7)) 21)), scope := fScope (st (members (st p.main.body 7)) 21), globals := 0, closure := [], defaults := Value.none, kwdefaults := Value.none } }
noncomputable def v_89_p7 (_P : Params) : Obj := { cls := Value.type "tuple", data := Data.seq #[] }
noncomputable def v_153_p7 (_P : Params) : Obj := { cls := Value.type "tuple", data := Data.seq #[] }
noncomputable def v_217_p7 (_P : Params) : Obj := { cls := Value.type "tuple", data := Data.seq #[Value.str (⟨#[115, 101, 108, 102]⟩) 435] }
noncomputable def v_121_p7 (p : Program) (_P : Params) : Obj := { cls := Value.type "function", data := Data.func { name := ⟨#[105, 115, 95, 107, 105, 110, 100]⟩, qualname := ⟨#[82, 101, 97, 100, 101, 114, 46, 105, 115, 95, 107, 105, 110, 100]⟩, params := fArgs (st (members (st p.main.body 7)) 5), body := FuncBody.stmts (fBody (st (members (st p.main.body 7)) 5)), scope := fScope (st (members (st p.main.body 7)) 5), globals := 3, closure := [], defaults := Value.ref 114, kwdefaults := Value.none, pyModule := Value.str (⟨#[108, 101, 100, 103, 101, 114, 115, 112, 101, 97, 107, 46, 114, 101, 97, 100, 101, 114]⟩) 263, code := Value.ref 120 } }
noncomputable def v_185_p7 (_P : Params) : Obj := { cls := Value.type "code", data := Data.fields #[Value.str (⟨#[105, 115, 95, 115, 105, 103, 110]⟩) 393, Value.str (⟨#[82, 101, 97, 100, 101, 114, 46, 105, 115, 95, 115, 105, 103, 110]⟩) 394, Value.str (⟨#[47, 99, 108, 97, 105, 109, 47, 99, 117, 116, 46, 112, 121]⟩) 395, Value.int 88 0, Value.int 3 0, Value.int 0 0, Value.int 0 0, Value.int 3 0, Value.ref 180, Value.bool true, Value.int 181 0, Value.ref 181, Value.none, Value.ref 182, Value.ref 183, Value.ref 184, Value.int 399 0, Value.int 88 0, Value.str (⟨#[47, 99, 108, 97, 105, 109, 47, 99, 117, 116, 46, 112, 121]⟩) 400] }
noncomputable def v_133_p7 (p : Program) (_P : Params) : Obj := { cls := Value.none, data := Data.func { name := ⟨#[115, 107, 105, 112]⟩, qualname := ⟨#[82, 101, 97, 100, 101, 114, 46, 115, 107, 105, 112]⟩, params := fArgs (st (members (st p.main.body 7)) 7), body := FuncBody.stmts (fBody (st (members (st p.main.body 7)) 7)), scope := fScope (st (members (st p.main.body 7)) 7), globals := 0, closure := [], defaults := Value.none, kwdefaults := Value.none } }
noncomputable def v_197_p7 (_P : Params) : Obj := { cls := Value.type "tuple", data := Data.seq #[] }
noncomputable def v_101_p7 (_P : Params) : Obj := { cls := Value.none, data := Data.fields #[] }
noncomputable def v_165_p7 (_P : Params) : Obj := { cls := Value.type "tuple", data := Data.seq #[] }
noncomputable def v_229_p7 (_P : Params) : Obj := { cls := Value.type "tuple", data := Data.seq #[] }
noncomputable def v_85_p7 (_P : Params) : Obj := { cls := Value.type "tuple", data := Data.seq #[Value.int 0 287] }
noncomputable def v_149_p7 (p : Program) (_P : Params) : Obj := { cls := Value.type "function", data := Data.func { name := ⟨#[111, 110, 101, 95, 111, 102]⟩, qualname := ⟨#[82, 101, 97, 100, 101, 114, 46, 111, 110, 101, 95, 111, 102]⟩, params := fArgs (st (members (st p.main.body 7)) 9), body := FuncBody.stmts (fBody (st (members (st p.main.body 7)) 9)), scope := fScope (st (members (st p.main.body 7)) 9), globals := 3, closure := [], defaults := Value.none, kwdefaults := Value.none, pyModule := Value.str (⟨#[108, 101, 100, 103, 101, 114, 115, 112, 101, 97, 107, 46, 114, 101, 97, 100, 101, 114]⟩) 263, code := Value.ref 148 } }
noncomputable def v_213_p7 (_P : Params) : Obj := { cls := Value.type "code", data := Data.fields #[Value.str (⟨#[115, 105, 103, 110, 101, 100]⟩) 425, Value.str (⟨#[82, 101, 97, 100, 101, 114, 46, 115, 105, 103, 110, 101, 100]⟩) 426, Value.str (⟨#[47, 99, 108, 97, 105, 109, 47, 99, 117, 116, 46, 112, 121]⟩) 427, Value.int 100 0, Value.int 1 0, Value.int 0 0, Value.int 0 0, Value.int 3 0, Value.ref 208, Value.bool true, Value.int 181 0, Value.ref 209, Value.none, Value.ref 210, Value.ref 211, Value.ref 212, Value.int 429 0, Value.int 100 0, Value.str (⟨#[47, 99, 108, 97, 105, 109, 47, 99, 117, 116, 46, 112, 121]⟩) 430] }
noncomputable def v_117_p7 (_P : Params) : Obj := { cls := Value.type "tuple", data := Data.seq #[Value.str (⟨#[115, 101, 108, 102]⟩) 323, Value.str (⟨#[107, 105, 110, 100]⟩) 324, Value.str (⟨#[97, 104, 101, 97, 100]⟩) 325, Value.str (⟨#[116, 111, 107, 101, 110]⟩) 326] }
noncomputable def v_181_p7 (_P : Params) : Obj := { cls := Value.none, data := Data.fields #[] }
noncomputable def v_77_p7 (_P : Params) : Obj := { cls := Value.type "tuple", data := Data.seq #[Value.int 0 277] }
noncomputable def v_141_p7 (_P : Params) : Obj := { cls := Value.type "code", data := Data.fields #[Value.str (⟨#[110, 101, 101, 100]⟩) 346, Value.str (⟨#[82, 101, 97, 100, 101, 114, 46, 110, 101, 101, 100]⟩) 347, Value.str (⟨#[47, 99, 108, 97, 105, 109, 47, 99, 117, 116, 46, 112, 121]⟩) 348, Value.int 68 0, Value.int 2 0, Value.int 0 0, Value.int 0 0, Value.int 3 0, Value.ref 136, Value.bool true, Value.int 181 0, Value.ref 137, Value.none, Value.ref 138, Value.ref 139, Value.ref 140, Value.int 351 0, Value.int 68 0, Value.str (⟨#[47, 99, 108, 97, 105, 109, 47, 99, 117, 116, 46, 112, 121]⟩) 352] }
noncomputable def v_205_p7 (p : Program) (_P : Params) : Obj := { cls := Value.none, data := Data.func { name := ⟨#[105, 115, 95, 110, 117, 109, 98, 101, 114]⟩, qualname := ⟨#[82, 101, 97, 100, 101, 114, 46, 105, 115, 95, 110, 117, 109, 98, 101, 114]⟩, params := fArgs (st (members (st p.main.body 7)) 17), body := FuncBody.stmts (fBody (st (members (st p.main.body 7)) 17)), scope := fScope (st (members (st p.main.body 7)) 17), globals := 0, closure := [], defaults := Value.none, kwdefaults := Value.none } }
noncomputable def v_109_p7 (_P : Params) : Obj := { cls := Value.type "tuple", data := Data.seq #[Value.str (⟨#[115, 101, 108, 102]⟩) 314, Value.str (⟨#[116, 111, 107, 101, 110]⟩) 315] }
noncomputable def v_173_p7 (_P : Params) : Obj := { cls := Value.none, data := Data.fields #[] }
noncomputable def v_237_p7 (P : Params) : Obj := { cls := Value.type "dict", data := Data.dict #[{ hash := PyData.keyHash P (⟨#[95, 95, 109, 111, 100, 117, 108, 101, 95, 95]⟩), key := Value.str (⟨#[95, 95, 109, 111, 100, 117, 108, 101, 95, 95]⟩) 272, val := Value.str (⟨#[108, 101, 100, 103, 101, 114, 115, 112, 101, 97, 107, 46, 114, 101, 97, 100, 101, 114]⟩) 263 }, { hash := PyData.keyHash P (⟨#[95, 95, 102, 105, 114, 115, 116, 108, 105, 110, 101, 110, 111, 95, 95]⟩), key := Value.str (⟨#[95, 95, 102, 105, 114, 115, 116, 108, 105, 110, 101, 110, 111, 95, 95]⟩) 276, val := Value.int 31 275 }, { hash := PyData.keyHash P (⟨#[95, 95, 105, 110, 105, 116, 95, 95]⟩), key := Value.str (⟨#[95, 95, 105, 110, 105, 116, 95, 95]⟩) 286, val := Value.ref 84 }, { hash := PyData.keyHash P (⟨#[112, 101, 101, 107]⟩), key := Value.str (⟨#[112, 101, 101, 107]⟩) 295, val := Value.ref 92 }, { hash := PyData.keyHash P (⟨#[105, 115, 95, 100, 111, 110, 101]⟩), key := Value.str (⟨#[105, 115, 95, 100, 111, 110, 101]⟩) 302, val := Value.ref 99 }, { hash := PyData.keyHash P (⟨#[102, 97, 117, 108, 116]⟩), key := Value.str (⟨#[102, 97, 117, 108, 116]⟩) 310, val := Value.ref 106 }, { hash := PyData.keyHash P (⟨#[116, 97, 107, 101]⟩), key := Value.str (⟨#[116, 97, 107, 101]⟩) 318, val := Value.ref 113 }, { hash := PyData.keyHash P (⟨#[105, 115, 95, 107, 105, 110, 100]⟩), key := Value.str (⟨#[105, 115, 95, 107, 105, 110, 100]⟩) 329, val := Value.ref 121 }, { hash := PyData.keyHash P (⟨#[105, 115, 95, 119, 111, 114, 100]⟩), key := Value.str (⟨#[105, 115, 95, 119, 111, 114, 100]⟩) 337, val := Value.ref 128 }, { hash := PyData.keyHash P (⟨#[115, 107, 105, 112]⟩), key := Value.str (⟨#[115, 107, 105, 112]⟩) 345, val := Value.ref 135 }, { hash := PyData.keyHash P (⟨#[110, 101, 101, 100]⟩), key := Value.str (⟨#[110, 101, 101, 100]⟩) 353, val := Value.ref 142 }, { hash := PyData.keyHash P (⟨#[111, 110, 101, 95, 111, 102]⟩), key := Value.str (⟨#[111, 110, 101, 95, 111, 102]⟩) 361, val := Value.ref 149 }, { hash := PyData.keyHash P (⟨#[119, 111, 114, 100]⟩), key := Value.str (⟨#[119, 111, 114, 100]⟩) 368, val := Value.ref 156 }, { hash := PyData.keyHash P (⟨#[105, 115, 95, 110, 97, 109, 101]⟩), key := Value.str (⟨#[105, 115, 95, 110, 97, 109, 101]⟩) 377, val := Value.ref 164 }, { hash := PyData.keyHash P (⟨#[110, 97, 109, 101]⟩), key := Value.str (⟨#[110, 97, 109, 101]⟩) 384, val := Value.ref 171 }, { hash := PyData.keyHash P (⟨#[110, 97, 109, 101, 115]⟩), key := Value.str (⟨#[110, 97, 109, 101, 115]⟩) 391, val := Value.ref 178 }, { hash := PyData.keyHash P (⟨#[105, 115, 95, 115, 105, 103, 110]⟩), key := Value.str (⟨#[105, 115, 95, 115, 105, 103, 110]⟩) 401, val := Value.ref 186 }, { hash := PyData.keyHash P (⟨#[115, 107, 105, 112, 95, 115, 105, 103, 110]⟩), key := Value.str (⟨#[115, 107, 105, 112, 95, 115, 105, 103, 110]⟩) 409, val := Value.ref 193 }, { hash := PyData.keyHash P (⟨#[110, 101, 101, 100, 95, 115, 105, 103, 110]⟩), key := Value.str (⟨#[110, 101, 101, 100, 95, 115, 105, 103, 110]⟩) 417, val := Value.ref 200 }, { hash := PyData.keyHash P (⟨#[105, 115, 95, 110, 117, 109, 98, 101, 114]⟩), key := Value.str (⟨#[105, 115, 95, 110, 117, 109, 98, 101, 114]⟩) 424, val := Value.ref 207 }, { hash := PyData.keyHash P (⟨#[115, 105, 103, 110, 101, 100]⟩), key := Value.str (⟨#[115, 105, 103, 110, 101, 100]⟩) 431, val := Value.ref 214 }, { hash := PyData.keyHash P (⟨#[119, 104, 111, 108, 101]⟩), key := Value.str (⟨#[119, 104, 111, 108, 101]⟩) 438, val := Value.ref 221 }, { hash := PyData.keyHash P (⟨#[108, 105, 116, 101, 114, 97, 108]⟩), key := Value.str (⟨#[108, 105, 116, 101, 114, 97, 108]⟩) 445, val := Value.ref 228 }, { hash := PyData.keyHash P (⟨#[111, 99, 116, 101, 116, 115]⟩), key := Value.str (⟨#[111, 99, 116, 101, 116, 115]⟩) 452, val := Value.ref 235 }, { hash := PyData.keyHash P (⟨#[95, 95, 115, 116, 97, 116, 105, 99, 95, 97, 116, 116, 114, 105, 98, 117, 116, 101, 115, 95, 95]⟩), key := Value.str (⟨#[95, 95, 115, 116, 97, 116, 105, 99, 95, 97, 116, 116, 114, 105, 98, 117, 116, 101, 115, 95, 95]⟩) 456, val := Value.ref 236 }, { hash := PyData.keyHash P (⟨#[95, 95, 100, 105, 99, 116, 95, 95]⟩), key := Value.str (⟨#[95, 95, 100, 105, 99, 116, 95, 95]⟩) 458, val := Value.ref 239 }, { hash := PyData.keyHash P (⟨#[95, 95, 119, 101, 97, 107, 114, 101, 102, 95, 95]⟩), key := Value.str (⟨#[95, 95, 119, 101, 97, 107, 114, 101, 102, 95, 95]⟩) 460, val := Value.ref 240 }, { hash := PyData.keyHash P (⟨#[95, 95, 100, 111, 99, 95, 95]⟩), key := Value.str (⟨#[95, 95, 100, 111, 99, 95, 95]⟩) 461, val := Value.none }] 4 }
noncomputable def v_93_p7 (_P : Params) : Obj := { cls := Value.type "tuple", data := Data.seq #[] }
noncomputable def v_157_p7 (_P : Params) : Obj := { cls := Value.type "tuple", data := Data.seq #[Value.int 0 369] }
noncomputable def v_221_p7 (p : Program) (_P : Params) : Obj := { cls := Value.type "function", data := Data.func { name := ⟨#[119, 104, 111, 108, 101]⟩, qualname := ⟨#[82, 101, 97, 100, 101, 114, 46, 119, 104, 111, 108, 101]⟩, params := fArgs (st (members (st p.main.body 7)) 19), body := FuncBody.stmts (fBody (st (members (st p.main.body 7)) 19)), scope := fScope (st (members (st p.main.body 7)) 19), globals := 3, closure := [], defaults := Value.none, kwdefaults := Value.none, pyModule := Value.str (⟨#[108, 101, 100, 103, 101, 114, 115, 112, 101, 97, 107, 46, 114, 101, 97, 100, 101, 114]⟩) 263, code := Value.ref 220 } }
noncomputable def v_125_p7 (_P : Params) : Obj := { cls := Value.type "tuple", data := Data.seq #[] }
noncomputable def v_189_p7 (_P : Params) : Obj := { cls := Value.type "tuple", data := Data.seq #[Value.str (⟨#[115, 101, 108, 102]⟩) 405, Value.str (⟨#[115, 105, 103, 110]⟩) 406] }
noncomputable def v_128_p7 (p : Program) (_P : Params) : Obj := { cls := Value.type "function", data := Data.func { name := ⟨#[105, 115, 95, 119, 111, 114, 100]⟩, qualname := ⟨#[82, 101, 97, 100, 101, 114, 46, 105, 115, 95, 119, 111, 114, 100]⟩, params := fArgs (st (members (st p.main.body 7)) 6), body := FuncBody.stmts (fBody (st (members (st p.main.body 7)) 6)), scope := fScope (st (members (st p.main.body 7)) 6), globals := 3, closure := [], defaults := Value.none, kwdefaults := Value.none, pyModule := Value.str (⟨#[108, 101, 100, 103, 101, 114, 115, 112, 101, 97, 107, 46, 114, 101, 97, 100, 101, 114]⟩) 263, code := Value.ref 127 } }
noncomputable def v_192_p7 (_P : Params) : Obj := { cls := Value.type "code", data := Data.fields #[Value.str (⟨#[115, 107, 105, 112, 95, 115, 105, 103, 110]⟩) 402, Value.str (⟨#[82, 101, 97, 100, 101, 114, 46, 115, 107, 105, 112, 95, 115, 105, 103, 110]⟩) 403, Value.str (⟨#[47, 99, 108, 97, 105, 109, 47, 99, 117, 116, 46, 112, 121]⟩) 404, Value.int 91 0, Value.int 2 0, Value.int 0 0, Value.int 0 0, Value.int 3 0, Value.ref 187, Value.bool true, Value.int 181 0, Value.ref 188, Value.none, Value.ref 189, Value.ref 190, Value.ref 191, Value.int 407 0, Value.int 91 0, Value.str (⟨#[47, 99, 108, 97, 105, 109, 47, 99, 117, 116, 46, 112, 121]⟩) 408] }
noncomputable def v_96_p7 (_P : Params) : Obj := { cls := Value.type "tuple", data := Data.seq #[] }
noncomputable def v_160_p7 (_P : Params) : Obj := { cls := Value.type "tuple", data := Data.seq #[Value.str (⟨#[115, 101, 108, 102]⟩) 373, Value.str (⟨#[97, 104, 101, 97, 100]⟩) 374] }
noncomputable def v_224_p7 (_P : Params) : Obj := { cls := Value.type "tuple", data := Data.seq #[Value.str (⟨#[115, 101, 108, 102]⟩) 442] }
noncomputable def v_80_p7 (_P : Params) : Obj := { cls := Value.type "tuple", data := Data.seq #[Value.str (⟨#[115, 101, 108, 102]⟩) 281, Value.str (⟨#[116, 111, 107, 101, 110, 115]⟩) 282, Value.str (⟨#[97, 116]⟩) 283] }
noncomputable def v_144_p7 (_P : Params) : Obj := { cls := Value.none, data := Data.fields #[] }
noncomputable def v_208_p7 (_P : Params) : Obj := { cls := Value.type "tuple", data := Data.seq #[] }
noncomputable def v_112_p7 (_P : Params) : Obj := { cls := Value.type "code", data := Data.fields #[Value.str (⟨#[116, 97, 107, 101]⟩) 311, Value.str (⟨#[82, 101, 97, 100, 101, 114, 46, 116, 97, 107, 101]⟩) 312, Value.str (⟨#[47, 99, 108, 97, 105, 109, 47, 99, 117, 116, 46, 112, 121]⟩) 313, Value.int 51 0, Value.int 1 0, Value.int 0 0, Value.int 0 0, Value.int 3 0, Value.ref 107, Value.bool true, Value.int 181 0, Value.ref 108, Value.none, Value.ref 109, Value.ref 110, Value.ref 111, Value.int 316 0, Value.int 51 0, Value.str (⟨#[47, 99, 108, 97, 105, 109, 47, 99, 117, 116, 46, 112, 121]⟩) 317] }
noncomputable def v_176_p7 (p : Program) (_P : Params) : Obj := { cls := Value.none, data := Data.func { name := ⟨#[110, 97, 109, 101, 115]⟩, qualname := ⟨#[82, 101, 97, 100, 101, 114, 46, 110, 97, 109, 101, 115]⟩, params := fArgs (st (members (st p.main.body 7)) 13), body := FuncBody.stmts (fBody (st (members (st p.main.body 7)) 13)), scope := fScope (st (members (st p.main.body 7)) 13), globals := 0, closure := [], defaults := Value.none, kwdefaults := Value.none } }
noncomputable def v_240_p7 (_P : Params) : Obj := { cls := Value.type "getset_descriptor", data := Data.fields #[Value.str (⟨#[95, 95, 119, 101, 97, 107, 114, 101, 102, 95, 95]⟩) 459, Value.ref 238, Value.builtin "ExceptionGroup.__weakref__", Value.none] }
noncomputable def v_72_p7 (P : Params) : Obj := { cls := Value.type "dict", data := Data.dict #[{ hash := PyData.keyHash P (⟨#[95, 95, 109, 111, 100, 117, 108, 101, 95, 95]⟩), key := Value.str (⟨#[95, 95, 109, 111, 100, 117, 108, 101, 95, 95]⟩) 272, val := Value.str (⟨#[108, 101, 100, 103, 101, 114, 115, 112, 101, 97, 107, 46, 114, 101, 97, 100, 101, 114]⟩) 263 }, { hash := PyData.keyHash P (⟨#[95, 95, 113, 117, 97, 108, 110, 97, 109, 101, 95, 95]⟩), key := Value.str (⟨#[95, 95, 113, 117, 97, 108, 110, 97, 109, 101, 95, 95]⟩) 274, val := Value.str (⟨#[82, 101, 97, 100, 101, 114]⟩) 273 }, { hash := PyData.keyHash P (⟨#[95, 95, 102, 105, 114, 115, 116, 108, 105, 110, 101, 110, 111, 95, 95]⟩), key := Value.str (⟨#[95, 95, 102, 105, 114, 115, 116, 108, 105, 110, 101, 110, 111, 95, 95]⟩) 276, val := Value.int 31 275 }, { hash := PyData.keyHash P (⟨#[95, 95, 105, 110, 105, 116, 95, 95]⟩), key := Value.str (⟨#[95, 95, 105, 110, 105, 116, 95, 95]⟩) 286, val := Value.ref 84 }, { hash := PyData.keyHash P (⟨#[112, 101, 101, 107]⟩), key := Value.str (⟨#[112, 101, 101, 107]⟩) 295, val := Value.ref 92 }, { hash := PyData.keyHash P (⟨#[105, 115, 95, 100, 111, 110, 101]⟩), key := Value.str (⟨#[105, 115, 95, 100, 111, 110, 101]⟩) 302, val := Value.ref 99 }, { hash := PyData.keyHash P (⟨#[102, 97, 117, 108, 116]⟩), key := Value.str (⟨#[102, 97, 117, 108, 116]⟩) 310, val := Value.ref 106 }, { hash := PyData.keyHash P (⟨#[116, 97, 107, 101]⟩), key := Value.str (⟨#[116, 97, 107, 101]⟩) 318, val := Value.ref 113 }, { hash := PyData.keyHash P (⟨#[105, 115, 95, 107, 105, 110, 100]⟩), key := Value.str (⟨#[105, 115, 95, 107, 105, 110, 100]⟩) 329, val := Value.ref 121 }, { hash := PyData.keyHash P (⟨#[105, 115, 95, 119, 111, 114, 100]⟩), key := Value.str (⟨#[105, 115, 95, 119, 111, 114, 100]⟩) 337, val := Value.ref 128 }, { hash := PyData.keyHash P (⟨#[115, 107, 105, 112]⟩), key := Value.str (⟨#[115, 107, 105, 112]⟩) 345, val := Value.ref 135 }, { hash := PyData.keyHash P (⟨#[110, 101, 101, 100]⟩), key := Value.str (⟨#[110, 101, 101, 100]⟩) 353, val := Value.ref 142 }, { hash := PyData.keyHash P (⟨#[111, 110, 101, 95, 111, 102]⟩), key := Value.str (⟨#[111, 110, 101, 95, 111, 102]⟩) 361, val := Value.ref 149 }, { hash := PyData.keyHash P (⟨#[119, 111, 114, 100]⟩), key := Value.str (⟨#[119, 111, 114, 100]⟩) 368, val := Value.ref 156 }, { hash := PyData.keyHash P (⟨#[105, 115, 95, 110, 97, 109, 101]⟩), key := Value.str (⟨#[105, 115, 95, 110, 97, 109, 101]⟩) 377, val := Value.ref 164 }, { hash := PyData.keyHash P (⟨#[110, 97, 109, 101]⟩), key := Value.str (⟨#[110, 97, 109, 101]⟩) 384, val := Value.ref 171 }, { hash := PyData.keyHash P (⟨#[110, 97, 109, 101, 115]⟩), key := Value.str (⟨#[110, 97, 109, 101, 115]⟩) 391, val := Value.ref 178 }, { hash := PyData.keyHash P (⟨#[105, 115, 95, 115, 105, 103, 110]⟩), key := Value.str (⟨#[105, 115, 95, 115, 105, 103, 110]⟩) 401, val := Value.ref 186 }, { hash := PyData.keyHash P (⟨#[115, 107, 105, 112, 95, 115, 105, 103, 110]⟩), key := Value.str (⟨#[115, 107, 105, 112, 95, 115, 105, 103, 110]⟩) 409, val := Value.ref 193 }, { hash := PyData.keyHash P (⟨#[110, 101, 101, 100, 95, 115, 105, 103, 110]⟩), key := Value.str (⟨#[110, 101, 101, 100, 95, 115, 105, 103, 110]⟩) 417, val := Value.ref 200 }, { hash := PyData.keyHash P (⟨#[105, 115, 95, 110, 117, 109, 98, 101, 114]⟩), key := Value.str (⟨#[105, 115, 95, 110, 117, 109, 98, 101, 114]⟩) 424, val := Value.ref 207 }, { hash := PyData.keyHash P (⟨#[115, 105, 103, 110, 101, 100]⟩), key := Value.str (⟨#[115, 105, 103, 110, 101, 100]⟩) 431, val := Value.ref 214 }, { hash := PyData.keyHash P (⟨#[119, 104, 111, 108, 101]⟩), key := Value.str (⟨#[119, 104, 111, 108, 101]⟩) 438, val := Value.ref 221 }, { hash := PyData.keyHash P (⟨#[108, 105, 116, 101, 114, 97, 108]⟩), key := Value.str (⟨#[108, 105, 116, 101, 114, 97, 108]⟩) 445, val := Value.ref 228 }, { hash := PyData.keyHash P (⟨#[111, 99, 116, 101, 116, 115]⟩), key := Value.str (⟨#[111, 99, 116, 101, 116, 115]⟩) 452, val := Value.ref 235 }, { hash := PyData.keyHash P (⟨#[95, 95, 115, 116, 97, 116, 105, 99, 95, 97, 116, 116, 114, 105, 98, 117, 116, 101, 115, 95, 95]⟩), key := Value.str (⟨#[95, 95, 115, 116, 97, 116, 105, 99, 95, 97, 116, 116, 114, 105, 98, 117, 116, 101, 115, 95, 95]⟩) 456, val := Value.ref 236 }] 26 }
noncomputable def v_136_p7 (_P : Params) : Obj := { cls := Value.type "tuple", data := Data.seq #[] }
noncomputable def v_200_p7 (p : Program) (_P : Params) : Obj := { cls := Value.type "function", data := Data.func { name := ⟨#[110, 101, 101, 100, 95, 115, 105, 103, 110]⟩, qualname := ⟨#[82, 101, 97, 100, 101, 114, 46, 110, 101, 101, 100, 95, 115, 105, 103, 110]⟩, params := fArgs (st (members (st p.main.body 7)) 16), body := FuncBody.stmts (fBody (st (members (st p.main.body 7)) 16)), scope := fScope (st (members (st p.main.body 7)) 16), globals := 3, closure := [], defaults := Value.none, kwdefaults := Value.none, pyModule := Value.str (⟨#[108, 101, 100, 103, 101, 114, 115, 112, 101, 97, 107, 46, 114, 101, 97, 100, 101, 114]⟩) 263, code := Value.ref 199 } }
noncomputable def v_104_p7 (p : Program) (_P : Params) : Obj := { cls := Value.none, data := Data.func { name := ⟨#[102, 97, 117, 108, 116]⟩, qualname := ⟨#[82, 101, 97, 100, 101, 114, 46, 102, 97, 117, 108, 116]⟩, params := fArgs (st (members (st p.main.body 7)) 3), body := FuncBody.stmts (fBody (st (members (st p.main.body 7)) 3)), scope := fScope (st (members (st p.main.body 7)) 3), globals := 0, closure := [], defaults := Value.none, kwdefaults := Value.none } }
noncomputable def v_168_p7 (_P : Params) : Obj := { cls := Value.type "tuple", data := Data.seq #[] }
noncomputable def v_232_p7 (_P : Params) : Obj := { cls := Value.type "tuple", data := Data.seq #[] }
noncomputable def v_88_p7 (_P : Params) : Obj := { cls := Value.type "tuple", data := Data.seq #[Value.str (⟨#[115, 101, 108, 102]⟩) 291, Value.str (⟨#[97, 104, 101, 97, 100]⟩) 292] }
noncomputable def v_152_p7 (_P : Params) : Obj := { cls := Value.type "tuple", data := Data.seq #[Value.str (⟨#[115, 101, 108, 102]⟩) 365] }
noncomputable def v_216_p7 (_P : Params) : Obj := { cls := Value.none, data := Data.fields #[] }
noncomputable def v_120_p7 (_P : Params) : Obj := { cls := Value.type "code", data := Data.fields #[Value.str (⟨#[105, 115, 95, 107, 105, 110, 100]⟩) 320, Value.str (⟨#[82, 101, 97, 100, 101, 114, 46, 105, 115, 95, 107, 105, 110, 100]⟩) 321, Value.str (⟨#[47, 99, 108, 97, 105, 109, 47, 99, 117, 116, 46, 112, 121]⟩) 322, Value.int 58 0, Value.int 3 0, Value.int 0 0, Value.int 0 0, Value.int 3 0, Value.ref 115, Value.bool true, Value.int 181 0, Value.ref 116, Value.none, Value.ref 117, Value.ref 118, Value.ref 119, Value.int 327 0, Value.int 58 0, Value.str (⟨#[47, 99, 108, 97, 105, 109, 47, 99, 117, 116, 46, 112, 121]⟩) 328] }
noncomputable def v_184_p7 (p : Program) (_P : Params) : Obj := { cls := Value.none, data := Data.func { name := ⟨#[105, 115, 95, 115, 105, 103, 110]⟩, qualname := ⟨#[82, 101, 97, 100, 101, 114, 46, 105, 115, 95, 115, 105, 103, 110]⟩, params := fArgs (st (members (st p.main.body 7)) 14), body := FuncBody.stmts (fBody (st (members (st p.main.body 7)) 14)), scope := fScope (st (members (st p.main.body 7)) 14), globals := 0, closure := [], defaults := Value.none, kwdefaults := Value.none } }
noncomputable def v_12_p7 (_P : Params) : Obj := { cls := Value.none, data := Data.fields #[Value.int 1 0, Value.int 0 0, Value.ref 20, Value.int 5 0, Value.int 0 0, Value.ref 27, Value.int 19 0, Value.int 0 0, Value.ref 34, Value.int 28 0, Value.int 0 0, Value.ref 63, Value.int 31 0, Value.int 0 0, Value.ref 75] }
noncomputable def v_132_p7 (_P : Params) : Obj := { cls := Value.type "tuple", data := Data.seq #[] }
noncomputable def v_196_p7 (_P : Params) : Obj := { cls := Value.type "tuple", data := Data.seq #[Value.str (⟨#[115, 101, 108, 102]⟩) 413, Value.str (⟨#[115, 105, 103, 110]⟩) 414] }
noncomputable def v_100_p7 (_P : Params) : Obj := { cls := Value.type "tuple", data := Data.seq #[] }
noncomputable def v_164_p7 (p : Program) (_P : Params) : Obj := { cls := Value.type "function", data := Data.func { name := ⟨#[105, 115, 95, 110, 97, 109, 101]⟩, qualname := ⟨#[82, 101, 97, 100, 101, 114, 46, 105, 115, 95, 110, 97, 109, 101]⟩, params := fArgs (st (members (st p.main.body 7)) 11), body := FuncBody.stmts (fBody (st (members (st p.main.body 7)) 11)), scope := fScope (st (members (st p.main.body 7)) 11), globals := 3, closure := [], defaults := Value.ref 157, kwdefaults := Value.none, pyModule := Value.str (⟨#[108, 101, 100, 103, 101, 114, 115, 112, 101, 97, 107, 46, 114, 101, 97, 100, 101, 114]⟩) 263, code := Value.ref 163 } }
noncomputable def v_228_p7 (p : Program) (_P : Params) : Obj := { cls := Value.type "function", data := Data.func { name := ⟨#[108, 105, 116, 101, 114, 97, 108]⟩, qualname := ⟨#[82, 101, 97, 100, 101, 114, 46, 108, 105, 116, 101, 114, 97, 108]⟩, params := fArgs (st (members (st p.main.body 7)) 20), body := FuncBody.stmts (fBody (st (members (st p.main.body 7)) 20)), scope := fScope (st (members (st p.main.body 7)) 20), globals := 3, closure := [], defaults := Value.none, kwdefaults := Value.none, pyModule := Value.str (⟨#[108, 101, 100, 103, 101, 114, 115, 112, 101, 97, 107, 46, 114, 101, 97, 100, 101, 114]⟩) 263, code := Value.ref 227 } }
noncomputable def v_84_p7 (p : Program) (_P : Params) : Obj := { cls := Value.type "function", data := Data.func { name := ⟨#[95, 95, 105, 110, 105, 116, 95, 95]⟩, qualname := ⟨#[82, 101, 97, 100, 101, 114, 46, 95, 95, 105, 110, 105, 116, 95, 95]⟩, params := fArgs (st (members (st p.main.body 7)) 0), body := FuncBody.stmts (fBody (st (members (st p.main.body 7)) 0)), scope := fScope (st (members (st p.main.body 7)) 0), globals := 3, closure := [], defaults := Value.ref 77, kwdefaults := Value.none, pyModule := Value.str (⟨#[108, 101, 100, 103, 101, 114, 115, 112, 101, 97, 107, 46, 114, 101, 97, 100, 101, 114]⟩) 263, code := Value.ref 83 } }
noncomputable def v_148_p7 (_P : Params) : Obj := { cls := Value.type "code", data := Data.fields #[Value.str (⟨#[111, 110, 101, 95, 111, 102]⟩) 354, Value.str (⟨#[82, 101, 97, 100, 101, 114, 46, 111, 110, 101, 95, 111, 102]⟩) 355, Value.str (⟨#[47, 99, 108, 97, 105, 109, 47, 99, 117, 116, 46, 112, 121]⟩) 356, Value.int 71 0, Value.int 2 0, Value.int 0 0, Value.int 0 0, Value.int 3 0, Value.ref 143, Value.bool true, Value.int 181 0, Value.ref 144, Value.none, Value.ref 145, Value.ref 146, Value.ref 147, Value.int 359 0, Value.int 71 0, Value.str (⟨#[47, 99, 108, 97, 105, 109, 47, 99, 117, 116, 46, 112, 121]⟩) 360] }
noncomputable def v_212_p7 (p : Program) (_P : Params) : Obj := { cls := Value.none, data := Data.func { name := ⟨#[115, 105, 103, 110, 101, 100]⟩, qualname := ⟨#[82, 101, 97, 100, 101, 114, 46, 115, 105, 103, 110, 101, 100]⟩, params := fArgs (st (members (st p.main.body 7)) 18), body := FuncBody.stmts (fBody (st (members (st p.main.body 7)) 18)), scope := fScope (st (members (st p.main.body 7)) 18), globals := 0, closure := [], defaults := Value.none, kwdefaults := Value.none } }
noncomputable def v_116_p7 (_P : Params) : Obj := { cls := Value.none, data := Data.fields #[] }
noncomputable def v_180_p7 (_P : Params) : Obj := { cls := Value.type "tuple", data := Data.seq #[] }
noncomputable def v_76_p7 (_P : Params) : Obj := { cls := Value.type "frame", slots := #[some (Value.ref 75), some (Value.ref 3), some (Value.ref 72), none, some (Value.str (⟨#[108, 101, 100, 103, 101, 114, 115, 112, 101, 97, 107, 46, 114, 101, 97, 100, 101, 114]⟩) 263), none, some (Value.ref 0)] }
noncomputable def v_140_p7 (p : Program) (_P : Params) : Obj := { cls := Value.none, data := Data.func { name := ⟨#[110, 101, 101, 100]⟩, qualname := ⟨#[82, 101, 97, 100, 101, 114, 46, 110, 101, 101, 100]⟩, params := fArgs (st (members (st p.main.body 7)) 8), body := FuncBody.stmts (fBody (st (members (st p.main.body 7)) 8)), scope := fScope (st (members (st p.main.body 7)) 8), globals := 0, closure := [], defaults := Value.none, kwdefaults := Value.none } }
noncomputable def v_204_p7 (_P : Params) : Obj := { cls := Value.type "tuple", data := Data.seq #[] }
noncomputable def v_108_p7 (_P : Params) : Obj := { cls := Value.none, data := Data.fields #[] }
noncomputable def v_172_p7 (_P : Params) : Obj := { cls := Value.type "tuple", data := Data.seq #[] }
noncomputable def v_236_p7 (_P : Params) : Obj := { cls := Value.type "tuple", data := Data.seq #[Value.str (⟨#[97, 116]⟩) 453, Value.str (⟨#[110, 97, 109, 101, 100]⟩) 454, Value.str (⟨#[116, 111, 107, 101, 110, 115]⟩) 455] }
noncomputable def v_92_p7 (p : Program) (_P : Params) : Obj := { cls := Value.type "function", data := Data.func { name := ⟨#[112, 101, 101, 107]⟩, qualname := ⟨#[82, 101, 97, 100, 101, 114, 46, 112, 101, 101, 107]⟩, params := fArgs (st (members (st p.main.body 7)) 1), body := FuncBody.stmts (fBody (st (members (st p.main.body 7)) 1)), scope := fScope (st (members (st p.main.body 7)) 1), globals := 3, closure := [], defaults := Value.ref 85, kwdefaults := Value.none, pyModule := Value.str (⟨#[108, 101, 100, 103, 101, 114, 115, 112, 101, 97, 107, 46, 114, 101, 97, 100, 101, 114]⟩) 263, code := Value.ref 91 } }
noncomputable def v_156_p7 (p : Program) (_P : Params) : Obj := { cls := Value.type "function", data := Data.func { name := ⟨#[119, 111, 114, 100]⟩, qualname := ⟨#[82, 101, 97, 100, 101, 114, 46, 119, 111, 114, 100]⟩, params := fArgs (st (members (st p.main.body 7)) 10), body := FuncBody.stmts (fBody (st (members (st p.main.body 7)) 10)), scope := fScope (st (members (st p.main.body 7)) 10), globals := 3, closure := [], defaults := Value.none, kwdefaults := Value.none, pyModule := Value.str (⟨#[108, 101, 100, 103, 101, 114, 115, 112, 101, 97, 107, 46, 114, 101, 97, 100, 101, 114]⟩) 263, code := Value.ref 155 } }
noncomputable def v_220_p7 (_P : Params) : Obj := { cls := Value.type "code", data := Data.fields #[Value.str (⟨#[119, 104, 111, 108, 101]⟩) 432, Value.str (⟨#[82, 101, 97, 100, 101, 114, 46, 119, 104, 111, 108, 101]⟩) 433, Value.str (⟨#[47, 99, 108, 97, 105, 109, 47, 99, 117, 116, 46, 112, 121]⟩) 434, Value.int 103 0, Value.int 1 0, Value.int 0 0, Value.int 0 0, Value.int 3 0, Value.ref 215, Value.bool true, Value.int 181 0, Value.ref 216, Value.none, Value.ref 217, Value.ref 218, Value.ref 219, Value.int 436 0, Value.int 103 0, Value.str (⟨#[47, 99, 108, 97, 105, 109, 47, 99, 117, 116, 46, 112, 121]⟩) 437] }
noncomputable def v_124_p7 (_P : Params) : Obj := { cls := Value.type "tuple", data := Data.seq #[Value.str (⟨#[115, 101, 108, 102]⟩) 333, Value.str (⟨#[119, 111, 114, 100, 115]⟩) 334] }
noncomputable def v_188_p7 (_P : Params) : Obj := { cls := Value.none, data := Data.fields #[] }
noncomputable def v_130_p7 (_P : Params) : Obj := { cls := Value.none, data := Data.fields #[] }
noncomputable def v_194_p7 (_P : Params) : Obj := { cls := Value.type "tuple", data := Data.seq #[] }
noncomputable def v_98_p7 (_P : Params) : Obj := { cls := Value.type "code", data := Data.fields #[Value.str (⟨#[105, 115, 95, 100, 111, 110, 101]⟩) 296, Value.str (⟨#[82, 101, 97, 100, 101, 114, 46, 105, 115, 95, 100, 111, 110, 101]⟩) 297, Value.str (⟨#[47, 99, 108, 97, 105, 109, 47, 99, 117, 116, 46, 112, 121]⟩) 298, Value.int 43 0, Value.int 1 0, Value.int 0 0, Value.int 0 0, Value.int 3 0, Value.ref 93, Value.bool true, Value.int 181 0, Value.ref 94, Value.none, Value.ref 95, Value.ref 96, Value.ref 97, Value.int 300 0, Value.int 43 0, Value.str (⟨#[47, 99, 108, 97, 105, 109, 47, 99, 117, 116, 46, 112, 121]⟩) 301] }
noncomputable def v_162_p7 (p : Program) (_P : Params) : Obj := { cls := Value.none, data := Data.func { name := ⟨#[105, 115, 95, 110, 97, 109, 101]⟩, qualname := ⟨#[82, 101, 97, 100, 101, 114, 46, 105, 115, 95, 110, 97, 109, 101]⟩, params := fArgs (st (members (st p.main.body 7)) 11), body := FuncBody.stmts (fBody (st (members (st p.main.body 7)) 11)), scope := fScope (st (members (st p.main.body 7)) 11), globals := 0, closure := [], defaults := Value.none, kwdefaults := Value.none } }
noncomputable def v_226_p7 (p : Program) (_P : Params) : Obj := { cls := Value.none, data := Data.func { name := ⟨#[108, 105, 116, 101, 114, 97, 108]⟩, qualname := ⟨#[82, 101, 97, 100, 101, 114, 46, 108, 105, 116, 101, 114, 97, 108]⟩, params := fArgs (st (members (st p.main.body 7)) 20), body := FuncBody.stmts (fBody (st (members (st p.main.body 7)) 20)), scope := fScope (st (members (st p.main.body 7)) 20), globals := 0, closure := [], defaults := Value.none, kwdefaults := Value.none } }
noncomputable def v_82_p7 (p : Program) (_P : Params) : Obj := { cls := Value.none, data := Data.func { name := ⟨#[95, 95, 105, 110, 105, 116, 95, 95]⟩, qualname := ⟨#[82, 101, 97, 100, 101, 114, 46, 95, 95, 105, 110, 105, 116, 95, 95]⟩, params := fArgs (st (members (st p.main.body 7)) 0), body := FuncBody.stmts (fBody (st (members (st p.main.body 7)) 0)), scope := fScope (st (members (st p.main.body 7)) 0), globals := 0, closure := [], defaults := Value.none, kwdefaults := Value.none } }
noncomputable def v_146_p7 (_P : Params) : Obj := { cls := Value.type "tuple", data := Data.seq #[] }
noncomputable def v_210_p7 (_P : Params) : Obj := { cls := Value.type "tuple", data := Data.seq #[Value.str (⟨#[115, 101, 108, 102]⟩) 428] }
noncomputable def v_114_p7 (_P : Params) : Obj := { cls := Value.type "tuple", data := Data.seq #[Value.int 0 319] }
noncomputable def v_178_p7 (p : Program) (_P : Params) : Obj := { cls := Value.type "function", data := Data.func { name := ⟨#[110, 97, 109, 101, 115]⟩, qualname := ⟨#[82, 101, 97, 100, 101, 114, 46, 110, 97, 109, 101, 115]⟩, params := fArgs (st (members (st p.main.body 7)) 13), body := FuncBody.stmts (fBody (st (members (st p.main.body 7)) 13)), scope := fScope (st (members (st p.main.body 7)) 13), globals := 3, closure := [], defaults := Value.none, kwdefaults := Value.none, pyModule := Value.str (⟨#[108, 101, 100, 103, 101, 114, 115, 112, 101, 97, 107, 46, 114, 101, 97, 100, 101, 114]⟩) 263, code := Value.ref 177 } }
noncomputable def v_242_p7 (_P : Params) : Obj := { cls := Value.type "builtin_function_or_method", data := Data.fields #[Value.builtin "object.__init_subclass__", Value.ref 238] }
noncomputable def v_74_p7 (_P : Params) : Obj := { cls := Value.none, data := Data.fields #[Value.int 33 0, Value.int 4 0, Value.ref 83, Value.int 38 0, Value.int 4 0, Value.ref 91, Value.int 43 0, Value.int 4 0, Value.ref 98, Value.int 46 0, Value.int 4 0, Value.ref 105, Value.int 51 0, Value.int 4 0, Value.ref 112, Value.int 58 0, Value.int 4 0, Value.ref 120, Value.int 62 0, Value.int 4 0, Value.ref 127, Value.int 65 0, Value.int 4 0, Value.ref 134, Value.int 68 0, Value.int 4 0, Value.ref 141, Value.int 71 0, Value.int 4 0, Value.ref 148, Value.int 74 0, Value.int 4 0, Value.ref 155, Value.int 79 0, Value.int 4 0, Value.ref 163, Value.int 82 0, Value.int 4 0, Value.ref 170, Value.int 85 0, Value.int 4 0, Value.ref 177, Value.int 88 0, Value.int 4 0, Value.ref 185, Value.int 91 0, Value.int 4 0, Value.ref 192, Value.int 94 0, Value.int 4 0, Value.ref 199, Value.int 97 0, Value.int 4 0, Value.ref 206, Value.int 100 0, Value.int 4 0, Value.ref 213, Value.int 103 0, Value.int 4 0, Value.ref 220, Value.int 106 0, Value.int 4 0, Value.ref 227, Value.int 111 0, Value.int 4 0, Value.ref 234] }
noncomputable def v_138_p7 (_P : Params) : Obj := { cls := Value.type "tuple", data := Data.seq #[Value.str (⟨#[115, 101, 108, 102]⟩) 349, Value.str (⟨#[119, 111, 114, 100, 115]⟩) 350] }
noncomputable def v_202_p7 (_P : Params) : Obj := { cls := Value.none, data := Data.fields #[] }
noncomputable def v_106_p7 (p : Program) (_P : Params) : Obj := { cls := Value.type "function", data := Data.func { name := ⟨#[102, 97, 117, 108, 116]⟩, qualname := ⟨#[82, 101, 97, 100, 101, 114, 46, 102, 97, 117, 108, 116]⟩, params := fArgs (st (members (st p.main.body 7)) 3), body := FuncBody.stmts (fBody (st (members (st p.main.body 7)) 3)), scope := fScope (st (members (st p.main.body 7)) 3), globals := 3, closure := [], defaults := Value.none, kwdefaults := Value.none, pyModule := Value.str (⟨#[108, 101, 100, 103, 101, 114, 115, 112, 101, 97, 107, 46, 114, 101, 97, 100, 101, 114]⟩) 263, code := Value.ref 105 } }
noncomputable def v_170_p7 (_P : Params) : Obj := { cls := Value.type "code", data := Data.fields #[Value.str (⟨#[110, 97, 109, 101]⟩) 378, Value.str (⟨#[82, 101, 97, 100, 101, 114, 46, 110, 97, 109, 101]⟩) 379, Value.str (⟨#[47, 99, 108, 97, 105, 109, 47, 99, 117, 116, 46, 112, 121]⟩) 380, Value.int 82 0, Value.int 1 0, Value.int 0 0, Value.int 0 0, Value.int 3 0, Value.ref 165, Value.bool true, Value.int 181 0, Value.ref 166, Value.none, Value.ref 167, Value.ref 168, Value.ref 169, Value.int 382 0, Value.int 82 0, Value.str (⟨#[47, 99, 108, 97, 105, 109, 47, 99, 117, 116, 46, 112, 121]⟩) 383] }
noncomputable def v_234_p7 (_P : Params) : Obj := { cls := Value.type "code", data := Data.fields #[Value.str (⟨#[111, 99, 116, 101, 116, 115]⟩) 446, Value.str (⟨#[82, 101, 97, 100, 101, 114, 46, 111, 99, 116, 101, 116, 115]⟩) 447, Value.str (⟨#[47, 99, 108, 97, 105, 109, 47, 99, 117, 116, 46, 112, 121]⟩) 448, Value.int 111 0, Value.int 1 0, Value.int 0 0, Value.int 0 0, Value.int 3 0, Value.ref 229, Value.bool true, Value.int 181 0, Value.ref 230, Value.none, Value.ref 231, Value.ref 232, Value.ref 233, Value.int 450 0, Value.int 111 0, Value.str (⟨#[47, 99, 108, 97, 105, 109, 47, 99, 117, 116, 46, 112, 121]⟩) 451] }
noncomputable def v_90_p7 (p : Program) (_P : Params) : Obj := { cls := Value.none, data := Data.func { name := ⟨#[112, 101, 101, 107]⟩, qualname := ⟨#[82, 101, 97, 100, 101, 114, 46, 112, 101, 101, 107]⟩, params := fArgs (st (members (st p.main.body 7)) 1), body := FuncBody.stmts (fBody (st (members (st p.main.body 7)) 1)), scope := fScope (st (members (st p.main.body 7)) 1), globals := 0, closure := [], defaults := Value.none, kwdefaults := Value.none } }
noncomputable def v_154_p7 (p : Program) (_P : Params) : Obj := { cls := Value.none, data := Data.func { name := ⟨#[119, 111, 114, 100]⟩, qualname := ⟨#[82, 101, 97, 100, 101, 114, 46, 119, 111, 114, 100]⟩, params := fArgs (st (members (st p.main.body 7)) 10), body := FuncBody.stmts (fBody (st (members (st p.main.body 7)) 10)), scope := fScope (st (members (st p.main.body 7)) 10), globals := 0, closure := [], defaults := Value.none, kwdefaults := Value.none } }
noncomputable def v_218_p7 (_P : Params) : Obj := { cls := Value.type "tuple", data := Data.seq #[] }
noncomputable def v_122_p7 (_P : Params) : Obj := { cls := Value.type "tuple", data := Data.seq #[] }
noncomputable def v_186_p7 (p : Program) (_P : Params) : Obj := { cls := Value.type "function", data := Data.func { name := ⟨#[105, 115, 95, 115, 105, 103, 110]⟩, qualname := ⟨#[82, 101, 97, 100, 101, 114, 46, 105, 115, 95, 115, 105, 103, 110]⟩, params := fArgs (st (members (st p.main.body 7)) 14), body := FuncBody.stmts (fBody (st (members (st p.main.body 7)) 14)), scope := fScope (st (members (st p.main.body 7)) 14), globals := 3, closure := [], defaults := Value.ref 179, kwdefaults := Value.none, pyModule := Value.str (⟨#[108, 101, 100, 103, 101, 114, 115, 112, 101, 97, 107, 46, 114, 101, 97, 100, 101, 114]⟩) 263, code := Value.ref 185 } }
noncomputable def v_70_p7 (_P : Params) : Obj := { cls := Value.type "tuple", data := Data.seq #[] }
noncomputable def v_134_p7 (_P : Params) : Obj := { cls := Value.type "code", data := Data.fields #[Value.str (⟨#[115, 107, 105, 112]⟩) 338, Value.str (⟨#[82, 101, 97, 100, 101, 114, 46, 115, 107, 105, 112]⟩) 339, Value.str (⟨#[47, 99, 108, 97, 105, 109, 47, 99, 117, 116, 46, 112, 121]⟩) 340, Value.int 65 0, Value.int 2 0, Value.int 0 0, Value.int 0 0, Value.int 3 0, Value.ref 129, Value.bool true, Value.int 181 0, Value.ref 130, Value.none, Value.ref 131, Value.ref 132, Value.ref 133, Value.int 343 0, Value.int 65 0, Value.str (⟨#[47, 99, 108, 97, 105, 109, 47, 99, 117, 116, 46, 112, 121]⟩) 344] }
noncomputable def v_198_p7 (p : Program) (_P : Params) : Obj := { cls := Value.none, data := Data.func { name := ⟨#[110, 101, 101, 100, 95, 115, 105, 103, 110]⟩, qualname := ⟨#[82, 101, 97, 100, 101, 114, 46, 110, 101, 101, 100, 95, 115, 105, 103, 110]⟩, params := fArgs (st (members (st p.main.body 7)) 16), body := FuncBody.stmts (fBody (st (members (st p.main.body 7)) 16)), scope := fScope (st (members (st p.main.body 7)) 16), globals := 0, closure := [], defaults := Value.none, kwdefaults := Value.none } }
noncomputable def v_102_p7 (_P : Params) : Obj := { cls := Value.type "tuple", data := Data.seq #[Value.str (⟨#[115, 101, 108, 102]⟩) 306, Value.str (⟨#[119, 104, 97, 116]⟩) 307] }
noncomputable def v_166_p7 (_P : Params) : Obj := { cls := Value.none, data := Data.fields #[] }
noncomputable def v_230_p7 (_P : Params) : Obj := { cls := Value.none, data := Data.fields #[] }
noncomputable def v_86_p7 (_P : Params) : Obj := { cls := Value.type "tuple", data := Data.seq #[] }
noncomputable def v_150_p7 (_P : Params) : Obj := { cls := Value.type "tuple", data := Data.seq #[] }
noncomputable def v_214_p7 (p : Program) (_P : Params) : Obj := { cls := Value.type "function", data := Data.func { name := ⟨#[115, 105, 103, 110, 101, 100]⟩, qualname := ⟨#[82, 101, 97, 100, 101, 114, 46, 115, 105, 103, 110, 101, 100]⟩, params := fArgs (st (members (st p.main.body 7)) 18), body := FuncBody.stmts (fBody (st (members (st p.main.body 7)) 18)), scope := fScope (st (members (st p.main.body 7)) 18), globals := 3, closure := [], defaults := Value.none, kwdefaults := Value.none, pyModule := Value.str (⟨#[108, 101, 100, 103, 101, 114, 115, 112, 101, 97, 107, 46, 114, 101, 97, 100, 101, 114]⟩) 263, code := Value.ref 213 } }
noncomputable def v_118_p7 (_P : Params) : Obj := { cls := Value.type "tuple", data := Data.seq #[] }
noncomputable def v_182_p7 (_P : Params) : Obj := { cls := Value.type "tuple", data := Data.seq #[Value.str (⟨#[115, 101, 108, 102]⟩) 396, Value.str (⟨#[115, 105, 103, 110]⟩) 397, Value.str (⟨#[97, 104, 101, 97, 100]⟩) 398] }
noncomputable def v_78_p7 (_P : Params) : Obj := { cls := Value.type "tuple", data := Data.seq #[] }
noncomputable def v_142_p7 (p : Program) (_P : Params) : Obj := { cls := Value.type "function", data := Data.func { name := ⟨#[110, 101, 101, 100]⟩, qualname := ⟨#[82, 101, 97, 100, 101, 114, 46, 110, 101, 101, 100]⟩, params := fArgs (st (members (st p.main.body 7)) 8), body := FuncBody.stmts (fBody (st (members (st p.main.body 7)) 8)), scope := fScope (st (members (st p.main.body 7)) 8), globals := 3, closure := [], defaults := Value.none, kwdefaults := Value.none, pyModule := Value.str (⟨#[108, 101, 100, 103, 101, 114, 115, 112, 101, 97, 107, 46, 114, 101, 97, 100, 101, 114]⟩) 263, code := Value.ref 141 } }
noncomputable def v_206_p7 (_P : Params) : Obj := { cls := Value.type "code", data := Data.fields #[Value.str (⟨#[105, 115, 95, 110, 117, 109, 98, 101, 114]⟩) 418, Value.str (⟨#[82, 101, 97, 100, 101, 114, 46, 105, 115, 95, 110, 117, 109, 98, 101, 114]⟩) 419, Value.str (⟨#[47, 99, 108, 97, 105, 109, 47, 99, 117, 116, 46, 112, 121]⟩) 420, Value.int 97 0, Value.int 1 0, Value.int 0 0, Value.int 0 0, Value.int 3 0, Value.ref 201, Value.bool true, Value.int 181 0, Value.ref 202, Value.none, Value.ref 203, Value.ref 204, Value.ref 205, Value.int 422 0, Value.int 97 0, Value.str (⟨#[47, 99, 108, 97, 105, 109, 47, 99, 117, 116, 46, 112, 121]⟩) 423] }
noncomputable def v_110_p7 (_P : Params) : Obj := { cls := Value.type "tuple", data := Data.seq #[] }
noncomputable def v_174_p7 (_P : Params) : Obj := { cls := Value.type "tuple", data := Data.seq #[Value.str (⟨#[115, 101, 108, 102]⟩) 388] }
noncomputable def v_238_p7 (_P : Params) : Obj := { cls := Value.type "type", data := Data.cls { name := ⟨#[82, 101, 97, 100, 101, 114]⟩, bases := [Value.type "object"], mro := [Value.ref 238, Value.type "object"], ns := 237, qualname := ⟨#[82, 101, 97, 100, 101, 114]⟩ }, slots := #[none, none, some (Value.str (⟨#[82, 101, 97, 100, 101, 114]⟩) 265), some (Value.str (⟨#[82, 101, 97, 100, 101, 114]⟩) 273), some (Value.builtin "object.__new__"), some (Value.bool true)] }
noncomputable def v_94_p7 (_P : Params) : Obj := { cls := Value.none, data := Data.fields #[] }
noncomputable def v_158_p7 (_P : Params) : Obj := { cls := Value.type "tuple", data := Data.seq #[] }
noncomputable def v_222_p7 (_P : Params) : Obj := { cls := Value.type "tuple", data := Data.seq #[] }
noncomputable def v_126_p7 (p : Program) (_P : Params) : Obj := { cls := Value.none, data := Data.func { name := ⟨#[105, 115, 95, 119, 111, 114, 100]⟩, qualname := ⟨#[82, 101, 97, 100, 101, 114, 46, 105, 115, 95, 119, 111, 114, 100]⟩, params := fArgs (st (members (st p.main.body 7)) 6), body := FuncBody.stmts (fBody (st (members (st p.main.body 7)) 6)), scope := fScope (st (members (st p.main.body 7)) 6), globals := 0, closure := [], defaults := Value.none, kwdefaults := Value.none } }
noncomputable def v_190_p7 (_P : Params) : Obj := { cls := Value.type "tuple", data := Data.seq #[] }
noncomputable def v_3_p14 (P : Params) : Obj := { cls := Value.type "dict", data := Data.dict #[{ hash := PyData.keyHash P (⟨#[95, 95, 110, 97, 109, 101, 95, 95]⟩), key := Value.str (⟨#[95, 95, 110, 97, 109, 101, 95, 95]⟩) 165, val := Value.str (⟨#[108, 97, 119, 95, 112, 98, 48, 50, 52, 56, 95, 48, 49]⟩) 510 }, { hash := PyData.keyHash P (⟨#[95, 95, 100, 111, 99, 95, 95]⟩), key := Value.str (⟨#[95, 95, 100, 111, 99, 95, 95]⟩) 166, val := Value.none }, { hash := PyData.keyHash P (⟨#[95, 95, 112, 97, 99, 107, 97, 103, 101, 95, 95]⟩), key := Value.str (⟨#[95, 95, 112, 97, 99, 107, 97, 103, 101, 95, 95]⟩) 167, val := Value.none }, { hash := PyData.keyHash P (⟨#[95, 95, 108, 111, 97, 100, 101, 114, 95, 95]⟩), key := Value.str (⟨#[95, 95, 108, 111, 97, 100, 101, 114, 95, 95]⟩) 168, val := Value.builtin "__main__.__loader__#opaque" }, { hash := PyData.keyHash P (⟨#[95, 95, 115, 112, 101, 99, 95, 95]⟩), key := Value.str (⟨#[95, 95, 115, 112, 101, 99, 95, 95]⟩) 169, val := Value.none }, { hash := PyData.keyHash P (⟨#[95, 95, 97, 110, 110, 111, 116, 97, 116, 105, 111, 110, 115, 95, 95]⟩), key := Value.str (⟨#[95, 95, 97, 110, 110, 111, 116, 97, 116, 105, 111, 110, 115, 95, 95]⟩) 170, val := Value.ref 6 }, { hash := PyData.keyHash P (⟨#[95, 95, 98, 117, 105, 108, 116, 105, 110, 115, 95, 95]⟩), key := Value.str (⟨#[95, 95, 98, 117, 105, 108, 116, 105, 110, 115, 95, 95]⟩) 171, val := Value.ref 4 }, { hash := PyData.keyHash P (⟨#[95, 95, 102, 105, 108, 101, 95, 95]⟩), key := Value.str (⟨#[95, 95, 102, 105, 108, 101, 95, 95]⟩) 173, val := Value.str (⟨#[47, 99, 108, 97, 105, 109, 47, 99, 117, 116, 46, 112, 121]⟩) 172 }, { hash := PyData.keyHash P (⟨#[95, 95, 99, 97, 99, 104, 101, 100, 95, 95]⟩), key := Value.str (⟨#[95, 95, 99, 97, 99, 104, 101, 100, 95, 95]⟩) 174, val := Value.none }, { hash := PyData.keyHash P (⟨#[95, 119, 97, 108, 108]⟩), key := Value.str (⟨#[95, 119, 97, 108, 108]⟩) 193, val := Value.ref 21 }, { hash := PyData.keyHash P (⟨#[105, 115, 95, 112, 97, 114, 116, 95, 110, 101, 120, 116]⟩), key := Value.str (⟨#[105, 115, 95, 112, 97, 114, 116, 95, 110, 101, 120, 116]⟩) 204, val := Value.ref 28 }, { hash := PyData.keyHash P (⟨#[76, 101, 100, 103, 101, 114, 69, 114, 114, 111, 114]⟩), key := Value.str (⟨#[76, 101, 100, 103, 101, 114, 69, 114, 114, 111, 114]⟩) 246, val := Value.ref 54 }, { hash := PyData.keyHash P (⟨#[71, 114, 97, 109, 109, 97, 114, 70, 97, 117, 108, 116]⟩), key := Value.str (⟨#[71, 114, 97, 109, 109, 97, 114, 70, 97, 117, 108, 116]⟩) 262, val := Value.ref 67 }, { hash := PyData.keyHash P (⟨#[82, 101, 97, 100, 101, 114]⟩), key := Value.str (⟨#[82, 101, 97, 100, 101, 114]⟩) 463, val := Value.ref 238 }, { hash := PyData.keyHash P (⟨#[84, 111, 107, 101, 110]⟩), key := Value.str (⟨#[84, 111, 107, 101, 110]⟩) 509, val := Value.ref 268 }, { hash := PyData.keyHash P (⟨#[95, 108, 97, 119, 95, 100, 114, 97, 119]⟩), key := Value.str (⟨#[95, 108, 97, 119, 95, 100, 114, 97, 119]⟩) 522, val := Value.ref 279 }, { hash := PyData.keyHash P (⟨#[95, 108, 97, 119, 95, 116, 111, 107, 101, 110, 115]⟩), key := Value.str (⟨#[95, 108, 97, 119, 95, 116, 111, 107, 101, 110, 115]⟩) 539, val := Value.ref 288 }, { hash := PyData.keyHash P (⟨#[95, 108, 97, 119, 95, 100, 117, 101]⟩), key := Value.str (⟨#[95, 108, 97, 119, 95, 100, 117, 101]⟩) 545, val := Value.ref 293 }, { hash := PyData.keyHash P (⟨#[108, 97, 119]⟩), key := Value.str (⟨#[108, 97, 119]⟩) 551, val := Value.ref 298 }] 19 }
noncomputable def v_255_p9 (_P : Params) : Obj := { cls := Value.type "tuple", data := Data.seq #[] }
noncomputable def v_287_p12 (_P : Params) : Obj := { cls := Value.type "tuple", data := Data.seq #[Value.str (⟨#[108, 105, 116, 101, 114, 97, 108]⟩) 537, Value.str (⟨#[40]⟩) 538] }
noncomputable def v_271_p9 (_P : Params) : Obj := { cls := Value.type "super", data := Data.fields #[Value.ref 268, Value.ref 268, Value.ref 268] }
noncomputable def v_263_p9 (p : Program) (_P : Params) : Obj := { cls := Value.none, data := Data.func { name := ⟨#[116, 111, 108, 100]⟩, qualname := ⟨#[84, 111, 107, 101, 110, 46, 116, 111, 108, 100]⟩, params := fArgs (st (members (st p.main.body 9)) 1), body := FuncBody.stmts (fBody (st (members (st p.main.body 9)) 1)), scope := fScope (st (members (st p.main.body 9)) 1), globals := 0, closure := [], defaults := Value.none, kwdefaults := Value.none } }
noncomputable def v_295_p14 (_P : Params) : Obj := { cls := Value.none, data := Data.fields #[] }
noncomputable def v_279_p11 (p : Program) (_P : Params) : Obj := { cls := Value.type "function", data := Data.func { name := ⟨#[95, 108, 97, 119, 95, 100, 114, 97, 119]⟩, qualname := ⟨#[95, 108, 97, 119, 95, 100, 114, 97, 119]⟩, params := fArgs (st p.main.body 11), body := FuncBody.stmts (fBody (st p.main.body 11)), scope := fScope (st p.main.body 11), globals := 3, closure := [], defaults := Value.none, kwdefaults := Value.none, pyModule := Value.str (⟨#[108, 97, 119, 95, 112, 98, 48, 50, 52, 56, 95, 48, 49]⟩) 510, code := Value.ref 278 } }
noncomputable def v_247_p9 (_P : Params) : Obj := { cls := Value.none, data := Data.fields #[Value.int 116 0, Value.int 4 0, Value.ref 257, Value.int 122 0, Value.int 4 0, Value.ref 264] }
noncomputable def v_259_p9 (_P : Params) : Obj := { cls := Value.type "tuple", data := Data.seq #[] }
noncomputable def v_291_p13 (p : Program) (_P : Params) : Obj := { cls := Value.none, data := Data.func { name := ⟨#[95, 108, 97, 119, 95, 100, 117, 101]⟩, qualname := ⟨#[95, 108, 97, 119, 95, 100, 117, 101]⟩, params := fArgs (st p.main.body 13), body := FuncBody.stmts (fBody (st p.main.body 13)), scope := fScope (st p.main.body 13), globals := 0, closure := [], defaults := Value.none, kwdefaults := Value.none } }
noncomputable def v_275_p11 (_P : Params) : Obj := { cls := Value.type "tuple", data := Data.seq #[Value.str (⟨#[116, 97, 112, 101]⟩) 515, Value.str (⟨#[108, 105, 109, 105, 116]⟩) 516, Value.str (⟨#[99, 101, 108, 108, 115]⟩) 517, Value.str (⟨#[115, 112, 111, 116]⟩) 518, Value.str (⟨#[99, 101, 108, 108]⟩) 519] }
noncomputable def v_243_p9 (_P : Params) : Obj := { cls := Value.type "tuple", data := Data.seq #[] }
noncomputable def v_267_p9 (P : Params) : Obj := { cls := Value.type "dict", data := Data.dict #[{ hash := PyData.keyHash P (⟨#[95, 95, 109, 111, 100, 117, 108, 101, 95, 95]⟩), key := Value.str (⟨#[95, 95, 109, 111, 100, 117, 108, 101, 95, 95]⟩) 473, val := Value.str (⟨#[108, 101, 100, 103, 101, 114, 115, 112, 101, 97, 107, 46, 116, 111, 107, 101, 110, 115]⟩) 464 }, { hash := PyData.keyHash P (⟨#[95, 95, 102, 105, 114, 115, 116, 108, 105, 110, 101, 110, 111, 95, 95]⟩), key := Value.str (⟨#[95, 95, 102, 105, 114, 115, 116, 108, 105, 110, 101, 110, 111, 95, 95]⟩) 477, val := Value.int 114 476 }, { hash := PyData.keyHash P (⟨#[95, 95, 105, 110, 105, 116, 95, 95]⟩), key := Value.str (⟨#[95, 95, 105, 110, 105, 116, 95, 95]⟩) 490, val := Value.ref 258 }, { hash := PyData.keyHash P (⟨#[116, 111, 108, 100]⟩), key := Value.str (⟨#[116, 111, 108, 100]⟩) 497, val := Value.ref 265 }, { hash := PyData.keyHash P (⟨#[95, 95, 115, 116, 97, 116, 105, 99, 95, 97, 116, 116, 114, 105, 98, 117, 116, 101, 115, 95, 95]⟩), key := Value.str (⟨#[95, 95, 115, 116, 97, 116, 105, 99, 95, 97, 116, 116, 114, 105, 98, 117, 116, 101, 115, 95, 95]⟩) 502, val := Value.ref 266 }, { hash := PyData.keyHash P (⟨#[95, 95, 100, 105, 99, 116, 95, 95]⟩), key := Value.str (⟨#[95, 95, 100, 105, 99, 116, 95, 95]⟩) 504, val := Value.ref 269 }, { hash := PyData.keyHash P (⟨#[95, 95, 119, 101, 97, 107, 114, 101, 102, 95, 95]⟩), key := Value.str (⟨#[95, 95, 119, 101, 97, 107, 114, 101, 102, 95, 95]⟩) 506, val := Value.ref 270 }, { hash := PyData.keyHash P (⟨#[95, 95, 100, 111, 99, 95, 95]⟩), key := Value.str (⟨#[95, 95, 100, 111, 99, 95, 95]⟩) 507, val := Value.none }] 4 }
noncomputable def v_283_p12 (_P : Params) : Obj := { cls := Value.type "tuple", data := Data.seq #[Value.str (⟨#[119, 111, 114, 100]⟩) 529, Value.str (⟨#[65]⟩) 530] }
noncomputable def v_251_p9 (_P : Params) : Obj := { cls := Value.type "tuple", data := Data.seq #[Value.ref 250, Value.bool false] }
noncomputable def v_257_p9 (_P : Params) : Obj := { cls := Value.type "code", data := Data.fields #[Value.str (⟨#[95, 95, 105, 110, 105, 116, 95, 95]⟩) 480, Value.str (⟨#[84, 111, 107, 101, 110, 46, 95, 95, 105, 110, 105, 116, 95, 95]⟩) 481, Value.str (⟨#[47, 99, 108, 97, 105, 109, 47, 99, 117, 116, 46, 112, 121]⟩) 482, Value.int 116 0, Value.int 5 0, Value.int 0 0, Value.int 0 0, Value.int 3 0, Value.ref 252, Value.bool true, Value.int 181 0, Value.ref 253, Value.none, Value.ref 254, Value.ref 255, Value.ref 256, Value.int 488 0, Value.int 116 0, Value.str (⟨#[47, 99, 108, 97, 105, 109, 47, 99, 117, 116, 46, 112, 121]⟩) 489] }
noncomputable def v_289_p13 (_P : Params) : Obj := { cls := Value.type "tuple", data := Data.seq #[] }
noncomputable def v_273_p11 (_P : Params) : Obj := { cls := Value.type "tuple", data := Data.seq #[] }
noncomputable def v_265_p9 (p : Program) (_P : Params) : Obj := { cls := Value.type "function", data := Data.func { name := ⟨#[116, 111, 108, 100]⟩, qualname := ⟨#[84, 111, 107, 101, 110, 46, 116, 111, 108, 100]⟩, params := fArgs (st (members (st p.main.body 9)) 1), body := FuncBody.stmts (fBody (st (members (st p.main.body 9)) 1)), scope := fScope (st (members (st p.main.body 9)) 1), globals := 3, closure := [], defaults := Value.none, kwdefaults := Value.none, pyModule := Value.str (⟨#[108, 101, 100, 103, 101, 114, 115, 112, 101, 97, 107, 46, 116, 111, 107, 101, 110, 115]⟩) 464, code := Value.ref 264 } }
noncomputable def v_297_p14 (_P : Params) : Obj := { cls := Value.type "code", data := Data.fields #[Value.str (⟨#[108, 97, 119]⟩) 546, Value.str (⟨#[108, 97, 119]⟩) 547, Value.str (⟨#[47, 99, 108, 97, 105, 109, 47, 99, 117, 116, 46, 112, 121]⟩) 548, Value.int 149 0, Value.int 1 0, Value.int 0 0, Value.int 0 0, Value.int 3 0, Value.ref 294, Value.bool true, Value.int 181 0, Value.ref 295, Value.none, Value.none, Value.none, Value.ref 296, Value.int 549 0, Value.int 149 0, Value.str (⟨#[47, 99, 108, 97, 105, 109, 47, 99, 117, 116, 46, 112, 121]⟩) 550] }
noncomputable def v_281_p12 (_P : Params) : Obj := { cls := Value.type "tuple", data := Data.seq #[Value.str (⟨#[115, 105, 103, 110]⟩) 525, Value.str (⟨#[41]⟩) 526] }
noncomputable def v_249_p9 (_P : Params) : Obj := { cls := Value.type "frame", slots := #[some (Value.ref 248), some (Value.ref 3), some (Value.ref 245), none, some (Value.str (⟨#[108, 101, 100, 103, 101, 114, 115, 112, 101, 97, 107, 46, 116, 111, 107, 101, 110, 115]⟩) 464), none, some (Value.ref 0)] }
noncomputable def v_261_p9 (_P : Params) : Obj := { cls := Value.type "tuple", data := Data.seq #[Value.str (⟨#[115, 101, 108, 102]⟩) 494] }
noncomputable def v_293_p13 (p : Program) (_P : Params) : Obj := { cls := Value.type "function", data := Data.func { name := ⟨#[95, 108, 97, 119, 95, 100, 117, 101]⟩, qualname := ⟨#[95, 108, 97, 119, 95, 100, 117, 101]⟩, params := fArgs (st p.main.body 13), body := FuncBody.stmts (fBody (st p.main.body 13)), scope := fScope (st p.main.body 13), globals := 3, closure := [], defaults := Value.none, kwdefaults := Value.none, pyModule := Value.str (⟨#[108, 97, 119, 95, 112, 98, 48, 50, 52, 56, 95, 48, 49]⟩) 510, code := Value.ref 292 } }
noncomputable def v_277_p11 (p : Program) (_P : Params) : Obj := { cls := Value.none, data := Data.func { name := ⟨#[95, 108, 97, 119, 95, 100, 114, 97, 119]⟩, qualname := ⟨#[95, 108, 97, 119, 95, 100, 114, 97, 119]⟩, params := fArgs (st p.main.body 11), body := FuncBody.stmts (fBody (st p.main.body 11)), scope := fScope (st p.main.body 11), globals := 0, closure := [], defaults := Value.none, kwdefaults := Value.none } }
noncomputable def v_245_p9 (P : Params) : Obj := { cls := Value.type "dict", data := Data.dict #[{ hash := PyData.keyHash P (⟨#[95, 95, 109, 111, 100, 117, 108, 101, 95, 95]⟩), key := Value.str (⟨#[95, 95, 109, 111, 100, 117, 108, 101, 95, 95]⟩) 473, val := Value.str (⟨#[108, 101, 100, 103, 101, 114, 115, 112, 101, 97, 107, 46, 116, 111, 107, 101, 110, 115]⟩) 464 }, { hash := PyData.keyHash P (⟨#[95, 95, 113, 117, 97, 108, 110, 97, 109, 101, 95, 95]⟩), key := Value.str (⟨#[95, 95, 113, 117, 97, 108, 110, 97, 109, 101, 95, 95]⟩) 475, val := Value.str (⟨#[84, 111, 107, 101, 110]⟩) 474 }, { hash := PyData.keyHash P (⟨#[95, 95, 102, 105, 114, 115, 116, 108, 105, 110, 101, 110, 111, 95, 95]⟩), key := Value.str (⟨#[95, 95, 102, 105, 114, 115, 116, 108, 105, 110, 101, 110, 111, 95, 95]⟩) 477, val := Value.int 114 476 }, { hash := PyData.keyHash P (⟨#[95, 95, 105, 110, 105, 116, 95, 95]⟩), key := Value.str (⟨#[95, 95, 105, 110, 105, 116, 95, 95]⟩) 490, val := Value.ref 258 }, { hash := PyData.keyHash P (⟨#[116, 111, 108, 100]⟩), key := Value.str (⟨#[116, 111, 108, 100]⟩) 497, val := Value.ref 265 }, { hash := PyData.keyHash P (⟨#[95, 95, 115, 116, 97, 116, 105, 99, 95, 97, 116, 116, 114, 105, 98, 117, 116, 101, 115, 95, 95]⟩), key := Value.str (⟨#[95, 95, 115, 116, 97, 116, 105, 99, 95, 97, 116, 116, 114, 105, 98, 117, 116, 101, 115, 95, 95]⟩) 502, val := Value.ref 266 }] 6 }
noncomputable def v_269_p9 (_P : Params) : Obj := { cls := Value.type "getset_descriptor", data := Data.fields #[Value.str (⟨#[95, 95, 100, 105, 99, 116, 95, 95]⟩) 503, Value.ref 268, Value.builtin "function.__dict__", Value.builtin "function.__dict__#set"] }
noncomputable def v_285_p12 (_P : Params) : Obj := { cls := Value.type "tuple", data := Data.seq #[Value.str (⟨#[115, 105, 103, 110]⟩) 533, Value.str (⟨#[41]⟩) 534] }
noncomputable def v_253_p9 (_P : Params) : Obj := { cls := Value.none, data := Data.fields #[] }
noncomputable def v_256_p9 (p : Program) (_P : Params) : Obj := { cls := Value.none, data := Data.func { name := ⟨#[95, 95, 105, 110, 105, 116, 95, 95]⟩, qualname := ⟨#[84, 111, 107, 101, 110, 46, 95, 95, 105, 110, 105, 116, 95, 95]⟩, params := fArgs (st (members (st p.main.body 9)) 0), body := FuncBody.stmts (fBody (st (members (st p.main.body 9)) 0)), scope := fScope (st (members (st p.main.body 9)) 0), globals := 0, closure := [], defaults := Value.none, kwdefaults := Value.none } }
noncomputable def v_288_p12 (_P : Params) : Obj := { cls := Value.type "tuple", data := Data.seq #[Value.ref 280, Value.ref 281, Value.ref 282, Value.ref 283, Value.ref 284, Value.ref 285, Value.ref 286, Value.ref 287] }
noncomputable def v_272_p9 (_P : Params) : Obj := { cls := Value.type "builtin_function_or_method", data := Data.fields #[Value.builtin "object.__init_subclass__", Value.ref 268] }
noncomputable def v_264_p9 (_P : Params) : Obj := { cls := Value.type "code", data := Data.fields #[Value.str (⟨#[116, 111, 108, 100]⟩) 491, Value.str (⟨#[84, 111, 107, 101, 110, 46, 116, 111, 108, 100]⟩) 492, Value.str (⟨#[47, 99, 108, 97, 105, 109, 47, 99, 117, 116, 46, 112, 121]⟩) 493, Value.int 122 0, Value.int 1 0, Value.int 0 0, Value.int 0 0, Value.int 3 0, Value.ref 259, Value.bool true, Value.int 181 0, Value.ref 260, Value.none, Value.ref 261, Value.ref 262, Value.ref 263, Value.int 495 0, Value.int 122 0, Value.str (⟨#[47, 99, 108, 97, 105, 109, 47, 99, 117, 116, 46, 112, 121]⟩) 496] }
noncomputable def v_296_p14 (p : Program) (_P : Params) : Obj := { cls := Value.none, data := Data.func { name := ⟨#[108, 97, 119]⟩, qualname := ⟨#[108, 97, 119]⟩, params := fArgs (st p.main.body 14), body := FuncBody.stmts (fBody (st p.main.body 14)), scope := fScope (st p.main.body 14), globals := 0, closure := [], defaults := Value.none, kwdefaults := Value.none } }
noncomputable def v_280_p12 (_P : Params) : Obj := { cls := Value.type "tuple", data := Data.seq #[Value.str (⟨#[115, 105, 103, 110]⟩) 523, Value.str (⟨#[40]⟩) 524] }
noncomputable def v_248_p9 (_P : Params) : Obj := { cls := Value.type "code", data := Data.fields #[Value.str (⟨#[84, 111, 107, 101, 110]⟩) 468, Value.str (⟨#[84, 111, 107, 101, 110]⟩) 469, Value.str (⟨#[47, 99, 108, 97, 105, 109, 47, 99, 117, 116, 46, 112, 121]⟩) 470, Value.int 114 0, Value.int 0 0, Value.int 0 0, Value.int 0 0, Value.int 0 0, Value.ref 246, Value.bool false, Value.int 181 0, Value.ref 247, Value.none, Value.none, Value.none, Value.none, Value.int 471 0, Value.int 114 0, Value.str (⟨#[47, 99, 108, 97, 105, 109, 47, 99, 117, 116, 46, 112, 121]⟩) 472] }
noncomputable def v_12_p14 (_P : Params) : Obj := { cls := Value.none, data := Data.fields #[Value.int 1 0, Value.int 0 0, Value.ref 20, Value.int 5 0, Value.int 0 0, Value.ref 27, Value.int 19 0, Value.int 0 0, Value.ref 34, Value.int 28 0, Value.int 0 0, Value.ref 63, Value.int 31 0, Value.int 0 0, Value.ref 75, Value.int 114 0, Value.int 0 0, Value.ref 248, Value.int 125 0, Value.int 0 0, Value.ref 278, Value.int 133 0, Value.int 0 0, Value.ref 292, Value.int 149 0, Value.int 0 0, Value.ref 297] }
noncomputable def v_260_p9 (_P : Params) : Obj := { cls := Value.none, data := Data.fields #[] }
noncomputable def v_292_p13 (_P : Params) : Obj := { cls := Value.type "code", data := Data.fields #[Value.str (⟨#[95, 108, 97, 119, 95, 100, 117, 101]⟩) 540, Value.str (⟨#[95, 108, 97, 119, 95, 100, 117, 101]⟩) 541, Value.str (⟨#[47, 99, 108, 97, 105, 109, 47, 99, 117, 116, 46, 112, 121]⟩) 542, Value.int 133 0, Value.int 1 0, Value.int 0 0, Value.int 0 0, Value.int 3 0, Value.ref 289, Value.bool true, Value.int 181 0, Value.ref 290, Value.none, Value.none, Value.none, Value.ref 291, Value.int 543 0, Value.int 133 0, Value.str (⟨#[47, 99, 108, 97, 105, 109, 47, 99, 117, 116, 46, 112, 121]⟩) 544] }
noncomputable def v_276_p11 (_P : Params) : Obj := { cls := Value.type "tuple", data := Data.seq #[] }
noncomputable def v_244_p9 (_P : Params) : Obj := { cls := Value.type "builtin_function_or_method", data := Data.fields #[Value.builtin "type.__prepare__", Value.type "type"] }
noncomputable def v_268_p9 (_P : Params) : Obj := { cls := Value.type "type", data := Data.cls { name := ⟨#[84, 111, 107, 101, 110]⟩, bases := [Value.type "object"], mro := [Value.ref 268, Value.type "object"], ns := 267, qualname := ⟨#[84, 111, 107, 101, 110]⟩ }, slots := #[none, none, some (Value.str (⟨#[84, 111, 107, 101, 110]⟩) 466), some (Value.str (⟨#[84, 111, 107, 101, 110]⟩) 474), some (Value.builtin "object.__new__"), some (Value.bool true)] }
noncomputable def v_284_p12 (_P : Params) : Obj := { cls := Value.type "tuple", data := Data.seq #[Value.str (⟨#[115, 105, 103, 110]⟩) 531, Value.str (⟨#[40]⟩) 532] }
noncomputable def v_252_p9 (_P : Params) : Obj := { cls := Value.type "tuple", data := Data.seq #[] }
noncomputable def v_258_p9 (p : Program) (_P : Params) : Obj := { cls := Value.type "function", data := Data.func { name := ⟨#[95, 95, 105, 110, 105, 116, 95, 95]⟩, qualname := ⟨#[84, 111, 107, 101, 110, 46, 95, 95, 105, 110, 105, 116, 95, 95]⟩, params := fArgs (st (members (st p.main.body 9)) 0), body := FuncBody.stmts (fBody (st (members (st p.main.body 9)) 0)), scope := fScope (st (members (st p.main.body 9)) 0), globals := 3, closure := [], defaults := Value.ref 251, kwdefaults := Value.none, pyModule := Value.str (⟨#[108, 101, 100, 103, 101, 114, 115, 112, 101, 97, 107, 46, 116, 111, 107, 101, 110, 115]⟩) 464, code := Value.ref 257 } }
noncomputable def v_290_p13 (_P : Params) : Obj := { cls := Value.none, data := Data.fields #[] }
noncomputable def v_274_p11 (_P : Params) : Obj := { cls := Value.none, data := Data.fields #[] }
noncomputable def v_266_p9 (_P : Params) : Obj := { cls := Value.type "tuple", data := Data.seq #[Value.str (⟨#[97, 116]⟩) 498, Value.str (⟨#[105, 115, 95, 105, 110, 95, 97]⟩) 499, Value.str (⟨#[107, 105, 110, 100]⟩) 500, Value.str (⟨#[119, 111, 114, 116, 104]⟩) 501] }
noncomputable def v_298_p14 (p : Program) (_P : Params) : Obj := { cls := Value.type "function", data := Data.func { name := ⟨#[108, 97, 119]⟩, qualname := ⟨#[108, 97, 119]⟩, params := fArgs (st p.main.body 14), body := FuncBody.stmts (fBody (st p.main.body 14)), scope := fScope (st p.main.body 14), globals := 3, closure := [], defaults := Value.none, kwdefaults := Value.none, pyModule := Value.str (⟨#[108, 97, 119, 95, 112, 98, 48, 50, 52, 56, 95, 48, 49]⟩) 510, code := Value.ref 297 } }
noncomputable def v_282_p12 (_P : Params) : Obj := { cls := Value.type "tuple", data := Data.seq #[Value.str (⟨#[115, 105, 103, 110]⟩) 527, Value.str (⟨#[58]⟩) 528] }
noncomputable def v_250_p9 (_P : Params) : Obj := { cls := Value.type "tuple", data := Data.seq #[Value.int 0 478, Value.int 0 479] }
noncomputable def v_262_p9 (_P : Params) : Obj := { cls := Value.type "tuple", data := Data.seq #[] }
noncomputable def v_294_p14 (_P : Params) : Obj := { cls := Value.type "tuple", data := Data.seq #[] }
noncomputable def v_278_p11 (_P : Params) : Obj := { cls := Value.type "code", data := Data.fields #[Value.str (⟨#[95, 108, 97, 119, 95, 100, 114, 97, 119]⟩) 512, Value.str (⟨#[95, 108, 97, 119, 95, 100, 114, 97, 119]⟩) 513, Value.str (⟨#[47, 99, 108, 97, 105, 109, 47, 99, 117, 116, 46, 112, 121]⟩) 514, Value.int 125 0, Value.int 2 0, Value.int 0 0, Value.int 0 0, Value.int 3 0, Value.ref 273, Value.bool true, Value.int 181 0, Value.ref 274, Value.none, Value.ref 275, Value.ref 276, Value.ref 277, Value.int 520 0, Value.int 125 0, Value.str (⟨#[47, 99, 108, 97, 105, 109, 47, 99, 117, 116, 46, 112, 121]⟩) 521] }
noncomputable def v_246_p9 (_P : Params) : Obj := { cls := Value.type "tuple", data := Data.seq #[] }
noncomputable def v_270_p9 (_P : Params) : Obj := { cls := Value.type "getset_descriptor", data := Data.fields #[Value.str (⟨#[95, 95, 119, 101, 97, 107, 114, 101, 102, 95, 95]⟩) 505, Value.ref 268, Value.builtin "ExceptionGroup.__weakref__", Value.none] }
noncomputable def v_286_p12 (_P : Params) : Obj := { cls := Value.type "tuple", data := Data.seq #[Value.str (⟨#[108, 105, 116, 101, 114, 97, 108]⟩) 535, Value.str (⟨#[58]⟩) 536] }
noncomputable def v_254_p9 (_P : Params) : Obj := { cls := Value.type "tuple", data := Data.seq #[Value.str (⟨#[115, 101, 108, 102]⟩) 483, Value.str (⟨#[107, 105, 110, 100]⟩) 484, Value.str (⟨#[119, 111, 114, 116, 104]⟩) 485, Value.str (⟨#[97, 116]⟩) 486, Value.str (⟨#[105, 115, 95, 105, 110, 95, 97]⟩) 487] }
noncomputable def tr_block (_p : Program) (P : Params) : BT := (.node (v_0_s0 P) (.node (v_1_s0 P) (.node (v_3_s0 P) (.node (v_7_s0 P) .nil .nil) (.node (v_11_pre P) .nil .nil)) (.node (v_5_s0 P) (.node (v_9_s0 P) .nil .nil) (.node (v_13_pre P) .nil .nil))) (.node (v_2_s0 P) (.node (v_4_s0 P) (.node (v_8_s0 P) .nil .nil) (.node (v_12_pre P) .nil .nil)) (.node (v_6_s0 P) (.node (v_10_s0 P) .nil .nil) (.node (v_14_pre P) .nil .nil))))
noncomputable def tr_p6 (p : Program) (P : Params) : BT := (.node (v_0_s0 P) (.node (v_1_s0 P) (.node (v_3_p6 P) (.node (v_7_s0 P) (.node (v_15_p0 P) (.node (v_31_p4 P) (.node (v_63_p5 P) .nil .nil) .nil) (.node (v_47_p4 P) .nil .nil)) (.node (v_23_p2 P) (.node (v_39_p4 P) .nil .nil) (.node (v_55_p4 P) .nil .nil))) (.node (v_11_pre P) (.node (v_19_p0 p P) (.node (v_35_p4 P) (.node (v_67_p5 P) .nil .nil) .nil) (.node (v_51_p4 p P) .nil .nil)) (.node (v_27_p2 P) (.node (v_43_p4 P) .nil .nil) (.node (v_59_p5 P) .nil .nil)))) (.node (v_5_s0 P) (.node (v_9_s0 P) (.node (v_17_p0 P) (.node (v_33_p4 P) (.node (v_65_p5 P) .nil .nil) .nil) (.node (v_49_p4 p P) .nil .nil)) (.node (v_25_p2 P) (.node (v_41_p4 P) .nil .nil) (.node (v_57_p4 P) .nil .nil))) (.node (v_13_pre P) (.node (v_21_p0 p P) (.node (v_37_p4 P) (.node (v_69_p5 P) .nil .nil) .nil) (.node (v_53_p4 P) .nil .nil)) (.node (v_29_p4 P) (.node (v_45_p4 P) .nil .nil) (.node (v_61_p5 P) .nil .nil))))) (.node (v_2_p4 P) (.node (v_4_s0 P) (.node (v_8_s0 P) (.node (v_16_p0 P) (.node (v_32_p4 P) (.node (v_64_p5 P) .nil .nil) .nil) (.node (v_48_p4 P) .nil .nil)) (.node (v_24_p2 P) (.node (v_40_p4 P) .nil .nil) (.node (v_56_p4 P) .nil .nil))) (.node (v_12_p5 P) (.node (v_20_p0 P) (.node (v_36_p4 P) (.node (v_68_p5 P) .nil .nil) .nil) (.node (v_52_p4 P) .nil .nil)) (.node (v_28_p2 p P) (.node (v_44_p4 p P) .nil .nil) (.node (v_60_p5 P) .nil .nil)))) (.node (v_6_s0 P) (.node (v_10_s0 P) (.node (v_18_p0 P) (.node (v_34_p4 P) (.node (v_66_p5 P) .nil .nil) .nil) (.node (v_50_p4 P) .nil .nil)) (.node (v_26_p2 p P) (.node (v_42_p4 p P) .nil .nil) (.node (v_58_p5 P) .nil .nil))) (.node (v_14_pre P) (.node (v_22_p2 P) (.node (v_38_p4 P) .nil .nil) (.node (v_54_p5 P) .nil .nil)) (.node (v_30_p4 P) (.node (v_46_p4 P) .nil .nil) (.node (v_62_p5 P) .nil .nil))))))
noncomputable def tr_p7 (p : Program) (P : Params) : BT := (.node (v_0_s0 P) (.node (v_1_s0 P) (.node (v_3_p7 P) (.node (v_7_s0 P) (.node (v_15_p0 P) (.node (v_31_p4 P) (.node (v_63_p5 P) (.node (v_127_p7 P) .nil .nil) (.node (v_191_p7 p P) .nil .nil)) (.node (v_95_p7 P) (.node (v_159_p7 P) .nil .nil) (.node (v_223_p7 P) .nil .nil))) (.node (v_47_p4 P) (.node (v_79_p7 P) (.node (v_143_p7 P) .nil .nil) (.node (v_207_p7 p P) .nil .nil)) (.node (v_111_p7 p P) (.node (v_175_p7 P) .nil .nil) (.node (v_239_p7 P) .nil .nil)))) (.node (v_23_p2 P) (.node (v_39_p4 P) (.node (v_71_p7 P) (.node (v_135_p7 p P) .nil .nil) (.node (v_199_p7 P) .nil .nil)) (.node (v_103_p7 P) (.node (v_167_p7 P) .nil .nil) (.node (v_231_p7 P) .nil .nil))) (.node (v_55_p4 P) (.node (v_87_p7 P) (.node (v_151_p7 P) .nil .nil) (.node (v_215_p7 P) .nil .nil)) (.node (v_119_p7 p P) (.node (v_183_p7 P) .nil .nil) .nil)))) (.node (v_11_pre P) (.node (v_19_p0 p P) (.node (v_35_p4 P) (.node (v_67_p5 P) (.node (v_131_p7 P) .nil .nil) (.node (v_195_p7 P) .nil .nil)) (.node (v_99_p7 p P) (.node (v_163_p7 P) .nil .nil) (.node (v_227_p7 P) .nil .nil))) (.node (v_51_p4 p P) (.node (v_83_p7 P) (.node (v_147_p7 p P) .nil .nil) (.node (v_211_p7 P) .nil .nil)) (.node (v_115_p7 P) (.node (v_179_p7 P) .nil .nil) .nil))) (.node (v_27_p2 P) (.node (v_43_p4 P) (.node (v_75_p7 P) (.node (v_139_p7 P) .nil .nil) (.node (v_203_p7 P) .nil .nil)) (.node (v_107_p7 P) (.node (v_171_p7 p P) .nil .nil) (.node (v_235_p7 p P) .nil .nil))) (.node (v_59_p5 P) (.node (v_91_p7 P) (.node (v_155_p7 P) .nil .nil) (.node (v_219_p7 p P) .nil .nil)) (.node (v_123_p7 P) (.node (v_187_p7 P) .nil .nil) .nil))))) (.node (v_5_s0 P) (.node (v_9_s0 P) (.node (v_17_p0 P) (.node (v_33_p4 P) (.node (v_65_p5 P) (.node (v_129_p7 P) .nil .nil) (.node (v_193_p7 p P) .nil .nil)) (.node (v_97_p7 p P) (.node (v_161_p7 P) .nil .nil) (.node (v_225_p7 P) .nil .nil))) (.node (v_49_p4 p P) (.node (v_81_p7 P) (.node (v_145_p7 P) .nil .nil) (.node (v_209_p7 P) .nil .nil)) (.node (v_113_p7 p P) (.node (v_177_p7 P) .nil .nil) (.node (v_241_p7 P) .nil .nil)))) (.node (v_25_p2 P) (.node (v_41_p4 P) (.node (v_73_p7 P) (.node (v_137_p7 P) .nil .nil) (.node (v_201_p7 P) .nil .nil)) (.node (v_105_p7 P) (.node (v_169_p7 p P) .nil .nil) (.node (v_233_p7 p P) .nil .nil))) (.node (v_57_p4 P) (.node (v_89_p7 P) (.node (v_153_p7 P) .nil .nil) (.node (v_217_p7 P) .nil .nil)) (.node (v_121_p7 p P) (.node (v_185_p7 P) .nil .nil) .nil)))) (.node (v_13_pre P) (.node (v_21_p0 p P) (.node (v_37_p4 P) (.node (v_69_p5 P) (.node (v_133_p7 p P) .nil .nil) (.node (v_197_p7 P) .nil .nil)) (.node (v_101_p7 P) (.node (v_165_p7 P) .nil .nil) (.node (v_229_p7 P) .nil .nil))) (.node (v_53_p4 P) (.node (v_85_p7 P) (.node (v_149_p7 p P) .nil .nil) (.node (v_213_p7 P) .nil .nil)) (.node (v_117_p7 P) (.node (v_181_p7 P) .nil .nil) .nil))) (.node (v_29_p4 P) (.node (v_45_p4 P) (.node (v_77_p7 P) (.node (v_141_p7 P) .nil .nil) (.node (v_205_p7 p P) .nil .nil)) (.node (v_109_p7 P) (.node (v_173_p7 P) .nil .nil) (.node (v_237_p7 P) .nil .nil))) (.node (v_61_p5 P) (.node (v_93_p7 P) (.node (v_157_p7 P) .nil .nil) (.node (v_221_p7 p P) .nil .nil)) (.node (v_125_p7 P) (.node (v_189_p7 P) .nil .nil) .nil)))))) (.node (v_2_p4 P) (.node (v_4_s0 P) (.node (v_8_s0 P) (.node (v_16_p0 P) (.node (v_32_p4 P) (.node (v_64_p5 P) (.node (v_128_p7 p P) .nil .nil) (.node (v_192_p7 P) .nil .nil)) (.node (v_96_p7 P) (.node (v_160_p7 P) .nil .nil) (.node (v_224_p7 P) .nil .nil))) (.node (v_48_p4 P) (.node (v_80_p7 P) (.node (v_144_p7 P) .nil .nil) (.node (v_208_p7 P) .nil .nil)) (.node (v_112_p7 P) (.node (v_176_p7 p P) .nil .nil) (.node (v_240_p7 P) .nil .nil)))) (.node (v_24_p2 P) (.node (v_40_p4 P) (.node (v_72_p7 P) (.node (v_136_p7 P) .nil .nil) (.node (v_200_p7 p P) .nil .nil)) (.node (v_104_p7 p P) (.node (v_168_p7 P) .nil .nil) (.node (v_232_p7 P) .nil .nil))) (.node (v_56_p4 P) (.node (v_88_p7 P) (.node (v_152_p7 P) .nil .nil) (.node (v_216_p7 P) .nil .nil)) (.node (v_120_p7 P) (.node (v_184_p7 p P) .nil .nil) .nil)))) (.node (v_12_p7 P) (.node (v_20_p0 P) (.node (v_36_p4 P) (.node (v_68_p5 P) (.node (v_132_p7 P) .nil .nil) (.node (v_196_p7 P) .nil .nil)) (.node (v_100_p7 P) (.node (v_164_p7 p P) .nil .nil) (.node (v_228_p7 p P) .nil .nil))) (.node (v_52_p4 P) (.node (v_84_p7 p P) (.node (v_148_p7 P) .nil .nil) (.node (v_212_p7 p P) .nil .nil)) (.node (v_116_p7 P) (.node (v_180_p7 P) .nil .nil) .nil))) (.node (v_28_p2 p P) (.node (v_44_p4 p P) (.node (v_76_p7 P) (.node (v_140_p7 p P) .nil .nil) (.node (v_204_p7 P) .nil .nil)) (.node (v_108_p7 P) (.node (v_172_p7 P) .nil .nil) (.node (v_236_p7 P) .nil .nil))) (.node (v_60_p5 P) (.node (v_92_p7 p P) (.node (v_156_p7 p P) .nil .nil) (.node (v_220_p7 P) .nil .nil)) (.node (v_124_p7 P) (.node (v_188_p7 P) .nil .nil) .nil))))) (.node (v_6_s0 P) (.node (v_10_s0 P) (.node (v_18_p0 P) (.node (v_34_p4 P) (.node (v_66_p5 P) (.node (v_130_p7 P) .nil .nil) (.node (v_194_p7 P) .nil .nil)) (.node (v_98_p7 P) (.node (v_162_p7 p P) .nil .nil) (.node (v_226_p7 p P) .nil .nil))) (.node (v_50_p4 P) (.node (v_82_p7 p P) (.node (v_146_p7 P) .nil .nil) (.node (v_210_p7 P) .nil .nil)) (.node (v_114_p7 P) (.node (v_178_p7 p P) .nil .nil) (.node (v_242_p7 P) .nil .nil)))) (.node (v_26_p2 p P) (.node (v_42_p4 p P) (.node (v_74_p7 P) (.node (v_138_p7 P) .nil .nil) (.node (v_202_p7 P) .nil .nil)) (.node (v_106_p7 p P) (.node (v_170_p7 P) .nil .nil) (.node (v_234_p7 P) .nil .nil))) (.node (v_58_p5 P) (.node (v_90_p7 p P) (.node (v_154_p7 p P) .nil .nil) (.node (v_218_p7 P) .nil .nil)) (.node (v_122_p7 P) (.node (v_186_p7 p P) .nil .nil) .nil)))) (.node (v_14_pre P) (.node (v_22_p2 P) (.node (v_38_p4 P) (.node (v_70_p7 P) (.node (v_134_p7 P) .nil .nil) (.node (v_198_p7 p P) .nil .nil)) (.node (v_102_p7 P) (.node (v_166_p7 P) .nil .nil) (.node (v_230_p7 P) .nil .nil))) (.node (v_54_p5 P) (.node (v_86_p7 P) (.node (v_150_p7 P) .nil .nil) (.node (v_214_p7 p P) .nil .nil)) (.node (v_118_p7 P) (.node (v_182_p7 P) .nil .nil) .nil))) (.node (v_30_p4 P) (.node (v_46_p4 P) (.node (v_78_p7 P) (.node (v_142_p7 p P) .nil .nil) (.node (v_206_p7 P) .nil .nil)) (.node (v_110_p7 P) (.node (v_174_p7 P) .nil .nil) (.node (v_238_p7 P) .nil .nil))) (.node (v_62_p5 P) (.node (v_94_p7 P) (.node (v_158_p7 P) .nil .nil) (.node (v_222_p7 P) .nil .nil)) (.node (v_126_p7 p P) (.node (v_190_p7 P) .nil .nil) .nil)))))))
noncomputable def tr_p14 (p : Program) (P : Params) : BT := (.node (v_0_s0 P) (.node (v_1_s0 P) (.node (v_3_p14 P) (.node (v_7_s0 P) (.node (v_15_p0 P) (.node (v_31_p4 P) (.node (v_63_p5 P) (.node (v_127_p7 P) (.node (v_255_p9 P) .nil .nil) .nil) (.node (v_191_p7 p P) .nil .nil)) (.node (v_95_p7 P) (.node (v_159_p7 P) (.node (v_287_p12 P) .nil .nil) .nil) (.node (v_223_p7 P) .nil .nil))) (.node (v_47_p4 P) (.node (v_79_p7 P) (.node (v_143_p7 P) (.node (v_271_p9 P) .nil .nil) .nil) (.node (v_207_p7 p P) .nil .nil)) (.node (v_111_p7 p P) (.node (v_175_p7 P) .nil .nil) (.node (v_239_p7 P) .nil .nil)))) (.node (v_23_p2 P) (.node (v_39_p4 P) (.node (v_71_p7 P) (.node (v_135_p7 p P) (.node (v_263_p9 p P) .nil .nil) .nil) (.node (v_199_p7 P) .nil .nil)) (.node (v_103_p7 P) (.node (v_167_p7 P) (.node (v_295_p14 P) .nil .nil) .nil) (.node (v_231_p7 P) .nil .nil))) (.node (v_55_p4 P) (.node (v_87_p7 P) (.node (v_151_p7 P) (.node (v_279_p11 p P) .nil .nil) .nil) (.node (v_215_p7 P) .nil .nil)) (.node (v_119_p7 p P) (.node (v_183_p7 P) .nil .nil) (.node (v_247_p9 P) .nil .nil))))) (.node (v_11_pre P) (.node (v_19_p0 p P) (.node (v_35_p4 P) (.node (v_67_p5 P) (.node (v_131_p7 P) (.node (v_259_p9 P) .nil .nil) .nil) (.node (v_195_p7 P) .nil .nil)) (.node (v_99_p7 p P) (.node (v_163_p7 P) (.node (v_291_p13 p P) .nil .nil) .nil) (.node (v_227_p7 P) .nil .nil))) (.node (v_51_p4 p P) (.node (v_83_p7 P) (.node (v_147_p7 p P) (.node (v_275_p11 P) .nil .nil) .nil) (.node (v_211_p7 P) .nil .nil)) (.node (v_115_p7 P) (.node (v_179_p7 P) .nil .nil) (.node (v_243_p9 P) .nil .nil)))) (.node (v_27_p2 P) (.node (v_43_p4 P) (.node (v_75_p7 P) (.node (v_139_p7 P) (.node (v_267_p9 P) .nil .nil) .nil) (.node (v_203_p7 P) .nil .nil)) (.node (v_107_p7 P) (.node (v_171_p7 p P) .nil .nil) (.node (v_235_p7 p P) .nil .nil))) (.node (v_59_p5 P) (.node (v_91_p7 P) (.node (v_155_p7 P) (.node (v_283_p12 P) .nil .nil) .nil) (.node (v_219_p7 p P) .nil .nil)) (.node (v_123_p7 P) (.node (v_187_p7 P) .nil .nil) (.node (v_251_p9 P) .nil .nil)))))) (.node (v_5_s0 P) (.node (v_9_s0 P) (.node (v_17_p0 P) (.node (v_33_p4 P) (.node (v_65_p5 P) (.node (v_129_p7 P) (.node (v_257_p9 P) .nil .nil) .nil) (.node (v_193_p7 p P) .nil .nil)) (.node (v_97_p7 p P) (.node (v_161_p7 P) (.node (v_289_p13 P) .nil .nil) .nil) (.node (v_225_p7 P) .nil .nil))) (.node (v_49_p4 p P) (.node (v_81_p7 P) (.node (v_145_p7 P) (.node (v_273_p11 P) .nil .nil) .nil) (.node (v_209_p7 P) .nil .nil)) (.node (v_113_p7 p P) (.node (v_177_p7 P) .nil .nil) (.node (v_241_p7 P) .nil .nil)))) (.node (v_25_p2 P) (.node (v_41_p4 P) (.node (v_73_p7 P) (.node (v_137_p7 P) (.node (v_265_p9 p P) .nil .nil) .nil) (.node (v_201_p7 P) .nil .nil)) (.node (v_105_p7 P) (.node (v_169_p7 p P) (.node (v_297_p14 P) .nil .nil) .nil) (.node (v_233_p7 p P) .nil .nil))) (.node (v_57_p4 P) (.node (v_89_p7 P) (.node (v_153_p7 P) (.node (v_281_p12 P) .nil .nil) .nil) (.node (v_217_p7 P) .nil .nil)) (.node (v_121_p7 p P) (.node (v_185_p7 P) .nil .nil) (.node (v_249_p9 P) .nil .nil))))) (.node (v_13_pre P) (.node (v_21_p0 p P) (.node (v_37_p4 P) (.node (v_69_p5 P) (.node (v_133_p7 p P) (.node (v_261_p9 P) .nil .nil) .nil) (.node (v_197_p7 P) .nil .nil)) (.node (v_101_p7 P) (.node (v_165_p7 P) (.node (v_293_p13 p P) .nil .nil) .nil) (.node (v_229_p7 P) .nil .nil))) (.node (v_53_p4 P) (.node (v_85_p7 P) (.node (v_149_p7 p P) (.node (v_277_p11 p P) .nil .nil) .nil) (.node (v_213_p7 P) .nil .nil)) (.node (v_117_p7 P) (.node (v_181_p7 P) .nil .nil) (.node (v_245_p9 P) .nil .nil)))) (.node (v_29_p4 P) (.node (v_45_p4 P) (.node (v_77_p7 P) (.node (v_141_p7 P) (.node (v_269_p9 P) .nil .nil) .nil) (.node (v_205_p7 p P) .nil .nil)) (.node (v_109_p7 P) (.node (v_173_p7 P) .nil .nil) (.node (v_237_p7 P) .nil .nil))) (.node (v_61_p5 P) (.node (v_93_p7 P) (.node (v_157_p7 P) (.node (v_285_p12 P) .nil .nil) .nil) (.node (v_221_p7 p P) .nil .nil)) (.node (v_125_p7 P) (.node (v_189_p7 P) .nil .nil) (.node (v_253_p9 P) .nil .nil))))))) (.node (v_2_p4 P) (.node (v_4_s0 P) (.node (v_8_s0 P) (.node (v_16_p0 P) (.node (v_32_p4 P) (.node (v_64_p5 P) (.node (v_128_p7 p P) (.node (v_256_p9 p P) .nil .nil) .nil) (.node (v_192_p7 P) .nil .nil)) (.node (v_96_p7 P) (.node (v_160_p7 P) (.node (v_288_p12 P) .nil .nil) .nil) (.node (v_224_p7 P) .nil .nil))) (.node (v_48_p4 P) (.node (v_80_p7 P) (.node (v_144_p7 P) (.node (v_272_p9 P) .nil .nil) .nil) (.node (v_208_p7 P) .nil .nil)) (.node (v_112_p7 P) (.node (v_176_p7 p P) .nil .nil) (.node (v_240_p7 P) .nil .nil)))) (.node (v_24_p2 P) (.node (v_40_p4 P) (.node (v_72_p7 P) (.node (v_136_p7 P) (.node (v_264_p9 P) .nil .nil) .nil) (.node (v_200_p7 p P) .nil .nil)) (.node (v_104_p7 p P) (.node (v_168_p7 P) (.node (v_296_p14 p P) .nil .nil) .nil) (.node (v_232_p7 P) .nil .nil))) (.node (v_56_p4 P) (.node (v_88_p7 P) (.node (v_152_p7 P) (.node (v_280_p12 P) .nil .nil) .nil) (.node (v_216_p7 P) .nil .nil)) (.node (v_120_p7 P) (.node (v_184_p7 p P) .nil .nil) (.node (v_248_p9 P) .nil .nil))))) (.node (v_12_p14 P) (.node (v_20_p0 P) (.node (v_36_p4 P) (.node (v_68_p5 P) (.node (v_132_p7 P) (.node (v_260_p9 P) .nil .nil) .nil) (.node (v_196_p7 P) .nil .nil)) (.node (v_100_p7 P) (.node (v_164_p7 p P) (.node (v_292_p13 P) .nil .nil) .nil) (.node (v_228_p7 p P) .nil .nil))) (.node (v_52_p4 P) (.node (v_84_p7 p P) (.node (v_148_p7 P) (.node (v_276_p11 P) .nil .nil) .nil) (.node (v_212_p7 p P) .nil .nil)) (.node (v_116_p7 P) (.node (v_180_p7 P) .nil .nil) (.node (v_244_p9 P) .nil .nil)))) (.node (v_28_p2 p P) (.node (v_44_p4 p P) (.node (v_76_p7 P) (.node (v_140_p7 p P) (.node (v_268_p9 P) .nil .nil) .nil) (.node (v_204_p7 P) .nil .nil)) (.node (v_108_p7 P) (.node (v_172_p7 P) .nil .nil) (.node (v_236_p7 P) .nil .nil))) (.node (v_60_p5 P) (.node (v_92_p7 p P) (.node (v_156_p7 p P) (.node (v_284_p12 P) .nil .nil) .nil) (.node (v_220_p7 P) .nil .nil)) (.node (v_124_p7 P) (.node (v_188_p7 P) .nil .nil) (.node (v_252_p9 P) .nil .nil)))))) (.node (v_6_s0 P) (.node (v_10_s0 P) (.node (v_18_p0 P) (.node (v_34_p4 P) (.node (v_66_p5 P) (.node (v_130_p7 P) (.node (v_258_p9 p P) .nil .nil) .nil) (.node (v_194_p7 P) .nil .nil)) (.node (v_98_p7 P) (.node (v_162_p7 p P) (.node (v_290_p13 P) .nil .nil) .nil) (.node (v_226_p7 p P) .nil .nil))) (.node (v_50_p4 P) (.node (v_82_p7 p P) (.node (v_146_p7 P) (.node (v_274_p11 P) .nil .nil) .nil) (.node (v_210_p7 P) .nil .nil)) (.node (v_114_p7 P) (.node (v_178_p7 p P) .nil .nil) (.node (v_242_p7 P) .nil .nil)))) (.node (v_26_p2 p P) (.node (v_42_p4 p P) (.node (v_74_p7 P) (.node (v_138_p7 P) (.node (v_266_p9 P) .nil .nil) .nil) (.node (v_202_p7 P) .nil .nil)) (.node (v_106_p7 p P) (.node (v_170_p7 P) (.node (v_298_p14 p P) .nil .nil) .nil) (.node (v_234_p7 P) .nil .nil))) (.node (v_58_p5 P) (.node (v_90_p7 p P) (.node (v_154_p7 p P) (.node (v_282_p12 P) .nil .nil) .nil) (.node (v_218_p7 P) .nil .nil)) (.node (v_122_p7 P) (.node (v_186_p7 p P) .nil .nil) (.node (v_250_p9 P) .nil .nil))))) (.node (v_14_pre P) (.node (v_22_p2 P) (.node (v_38_p4 P) (.node (v_70_p7 P) (.node (v_134_p7 P) (.node (v_262_p9 P) .nil .nil) .nil) (.node (v_198_p7 p P) .nil .nil)) (.node (v_102_p7 P) (.node (v_166_p7 P) (.node (v_294_p14 P) .nil .nil) .nil) (.node (v_230_p7 P) .nil .nil))) (.node (v_54_p5 P) (.node (v_86_p7 P) (.node (v_150_p7 P) (.node (v_278_p11 P) .nil .nil) .nil) (.node (v_214_p7 p P) .nil .nil)) (.node (v_118_p7 P) (.node (v_182_p7 P) .nil .nil) (.node (v_246_p9 P) .nil .nil)))) (.node (v_30_p4 P) (.node (v_46_p4 P) (.node (v_78_p7 P) (.node (v_142_p7 p P) (.node (v_270_p9 P) .nil .nil) .nil) (.node (v_206_p7 P) .nil .nil)) (.node (v_110_p7 P) (.node (v_174_p7 P) .nil .nil) (.node (v_238_p7 P) .nil .nil))) (.node (v_62_p5 P) (.node (v_94_p7 P) (.node (v_158_p7 P) (.node (v_286_p12 P) .nil .nil) .nil) (.node (v_222_p7 P) .nil .nil)) (.node (v_126_p7 p P) (.node (v_190_p7 P) .nil .nil) (.node (v_254_p9 P) .nil .nil))))))))
noncomputable def hp_s0 (_p : Program) (P : Params) : Heap := ⟨⟨[(v_0_s0 P), (v_1_s0 P), (v_2_s0 P), (v_3_s0 P), (v_4_s0 P), (v_5_s0 P), (v_6_s0 P), (v_7_s0 P), (v_8_s0 P), (v_9_s0 P), (v_10_s0 P)]⟩, {}⟩
noncomputable def hp_pre (_p : Program) (P : Params) : Heap := ⟨⟨[(v_0_s0 P), (v_1_s0 P), (v_2_s0 P), (v_3_s0 P), (v_4_s0 P), (v_5_s0 P), (v_6_s0 P), (v_7_s0 P), (v_8_s0 P), (v_9_s0 P), (v_10_s0 P), (v_11_pre P), (v_12_pre P), (v_13_pre P), (v_14_pre P)]⟩, {}⟩
noncomputable def hp_fin (p : Program) (P : Params) : Heap := ⟨⟨[(v_0_s0 P), (v_1_s0 P), (v_2_p4 P), (v_3_p14 P), (v_4_s0 P), (v_5_s0 P), (v_6_s0 P), (v_7_s0 P), (v_8_s0 P), (v_9_s0 P), (v_10_s0 P), (v_11_pre P), (v_12_p14 P), (v_13_pre P), (v_14_pre P), (v_15_p0 P), (v_16_p0 P), (v_17_p0 P), (v_18_p0 P), (v_19_p0 p P), (v_20_p0 P), (v_21_p0 p P), (v_22_p2 P), (v_23_p2 P), (v_24_p2 P), (v_25_p2 P), (v_26_p2 p P), (v_27_p2 P), (v_28_p2 p P), (v_29_p4 P), (v_30_p4 P), (v_31_p4 P), (v_32_p4 P), (v_33_p4 P), (v_34_p4 P), (v_35_p4 P), (v_36_p4 P), (v_37_p4 P), (v_38_p4 P), (v_39_p4 P), (v_40_p4 P), (v_41_p4 P), (v_42_p4 p P), (v_43_p4 P), (v_44_p4 p P), (v_45_p4 P), (v_46_p4 P), (v_47_p4 P), (v_48_p4 P), (v_49_p4 p P), (v_50_p4 P), (v_51_p4 p P), (v_52_p4 P), (v_53_p4 P), (v_54_p5 P), (v_55_p4 P), (v_56_p4 P), (v_57_p4 P), (v_58_p5 P), (v_59_p5 P), (v_60_p5 P), (v_61_p5 P), (v_62_p5 P), (v_63_p5 P), (v_64_p5 P), (v_65_p5 P), (v_66_p5 P), (v_67_p5 P), (v_68_p5 P), (v_69_p5 P), (v_70_p7 P), (v_71_p7 P), (v_72_p7 P), (v_73_p7 P), (v_74_p7 P), (v_75_p7 P), (v_76_p7 P), (v_77_p7 P), (v_78_p7 P), (v_79_p7 P), (v_80_p7 P), (v_81_p7 P), (v_82_p7 p P), (v_83_p7 P), (v_84_p7 p P), (v_85_p7 P), (v_86_p7 P), (v_87_p7 P), (v_88_p7 P), (v_89_p7 P), (v_90_p7 p P), (v_91_p7 P), (v_92_p7 p P), (v_93_p7 P), (v_94_p7 P), (v_95_p7 P), (v_96_p7 P), (v_97_p7 p P), (v_98_p7 P), (v_99_p7 p P), (v_100_p7 P), (v_101_p7 P), (v_102_p7 P), (v_103_p7 P), (v_104_p7 p P), (v_105_p7 P), (v_106_p7 p P), (v_107_p7 P), (v_108_p7 P), (v_109_p7 P), (v_110_p7 P), (v_111_p7 p P), (v_112_p7 P), (v_113_p7 p P), (v_114_p7 P), (v_115_p7 P), (v_116_p7 P), (v_117_p7 P), (v_118_p7 P), (v_119_p7 p P), (v_120_p7 P), (v_121_p7 p P), (v_122_p7 P), (v_123_p7 P), (v_124_p7 P), (v_125_p7 P), (v_126_p7 p P), (v_127_p7 P), (v_128_p7 p P), (v_129_p7 P), (v_130_p7 P), (v_131_p7 P), (v_132_p7 P), (v_133_p7 p P), (v_134_p7 P), (v_135_p7 p P), (v_136_p7 P), (v_137_p7 P), (v_138_p7 P), (v_139_p7 P), (v_140_p7 p P), (v_141_p7 P), (v_142_p7 p P), (v_143_p7 P), (v_144_p7 P), (v_145_p7 P), (v_146_p7 P), (v_147_p7 p P), (v_148_p7 P), (v_149_p7 p P), (v_150_p7 P), (v_151_p7 P), (v_152_p7 P), (v_153_p7 P), (v_154_p7 p P), (v_155_p7 P), (v_156_p7 p P), (v_157_p7 P), (v_158_p7 P), (v_159_p7 P), (v_160_p7 P), (v_161_p7 P), (v_162_p7 p P), (v_163_p7 P), (v_164_p7 p P), (v_165_p7 P), (v_166_p7 P), (v_167_p7 P), (v_168_p7 P), (v_169_p7 p P), (v_170_p7 P), (v_171_p7 p P), (v_172_p7 P), (v_173_p7 P), (v_174_p7 P), (v_175_p7 P), (v_176_p7 p P), (v_177_p7 P), (v_178_p7 p P), (v_179_p7 P), (v_180_p7 P), (v_181_p7 P), (v_182_p7 P), (v_183_p7 P), (v_184_p7 p P), (v_185_p7 P), (v_186_p7 p P), (v_187_p7 P), (v_188_p7 P), (v_189_p7 P), (v_190_p7 P), (v_191_p7 p P), (v_192_p7 P), (v_193_p7 p P), (v_194_p7 P), (v_195_p7 P), (v_196_p7 P), (v_197_p7 P), (v_198_p7 p P), (v_199_p7 P), (v_200_p7 p P), (v_201_p7 P), (v_202_p7 P), (v_203_p7 P), (v_204_p7 P), (v_205_p7 p P), (v_206_p7 P), (v_207_p7 p P), (v_208_p7 P), (v_209_p7 P), (v_210_p7 P), (v_211_p7 P), (v_212_p7 p P), (v_213_p7 P), (v_214_p7 p P), (v_215_p7 P), (v_216_p7 P), (v_217_p7 P), (v_218_p7 P), (v_219_p7 p P), (v_220_p7 P), (v_221_p7 p P), (v_222_p7 P), (v_223_p7 P), (v_224_p7 P), (v_225_p7 P), (v_226_p7 p P), (v_227_p7 P), (v_228_p7 p P), (v_229_p7 P), (v_230_p7 P), (v_231_p7 P), (v_232_p7 P), (v_233_p7 p P), (v_234_p7 P), (v_235_p7 p P), (v_236_p7 P), (v_237_p7 P), (v_238_p7 P), (v_239_p7 P), (v_240_p7 P), (v_241_p7 P), (v_242_p7 P), (v_243_p9 P), (v_244_p9 P), (v_245_p9 P), (v_246_p9 P), (v_247_p9 P), (v_248_p9 P), (v_249_p9 P), (v_250_p9 P), (v_251_p9 P), (v_252_p9 P), (v_253_p9 P), (v_254_p9 P), (v_255_p9 P), (v_256_p9 p P), (v_257_p9 P), (v_258_p9 p P), (v_259_p9 P), (v_260_p9 P), (v_261_p9 P), (v_262_p9 P), (v_263_p9 p P), (v_264_p9 P), (v_265_p9 p P), (v_266_p9 P), (v_267_p9 P), (v_268_p9 P), (v_269_p9 P), (v_270_p9 P), (v_271_p9 P), (v_272_p9 P), (v_273_p11 P), (v_274_p11 P), (v_275_p11 P), (v_276_p11 P), (v_277_p11 p P), (v_278_p11 P), (v_279_p11 p P), (v_280_p12 P), (v_281_p12 P), (v_282_p12 P), (v_283_p12 P), (v_284_p12 P), (v_285_p12 P), (v_286_p12 P), (v_287_p12 P), (v_288_p12 P), (v_289_p13 P), (v_290_p13 P), (v_291_p13 p P), (v_292_p13 P), (v_293_p13 p P), (v_294_p14 P), (v_295_p14 P), (v_296_p14 p P), (v_297_p14 P), (v_298_p14 p P)]⟩, {}⟩
noncomputable def en0 (p : Program) : Env := { scope := p.main.scope, locals := mainNs, globals := mainNs, cells := [], code := .ref 13, frame := some 14 }
noncomputable def cE (p : Program) : Code := .body (behindTheImports p) (en0 p)
noncomputable def B0 : List Frame := [topFrame ⟨0, 0, 0, 0⟩]
noncomputable def gr_p6 (p : Program) : List Stmt := [st p.main.body 0, st p.main.body 1, st p.main.body 2, st p.main.body 3, st p.main.body 4, st p.main.body 5, st p.main.body 6]
noncomputable def gr_p7 (p : Program) : List Stmt := [st p.main.body 7]
noncomputable def gr_p14 (p : Program) : List Stmt := [st p.main.body 8, st p.main.body 9, st p.main.body 10, st p.main.body 11, st p.main.body 12, st p.main.body 13, st p.main.body 14]
theorem s_open (w : World) : (fencedOpening treeTable pw w 3878).map (fun s => (s.heap, s.gens, s.drawn, s.toks)) = some (hp_s0 pw w.params, ⟨[]⟩, {}, 181) := by
  unfold fencedOpening
  unfold pw
  rw [PySem.W.Fast.te14364793385576792824, PySem.W.Fast.te11410020155385439405]
  kernel_rfl
theorem s_size (w : World) : ((hp_s0 pw w.params).isNs mainGlobals && (⟨[]⟩ : Array GenState).size == 0, (hp_s0 pw w.params).objs.size, (hp_s0 pw w.params).nsMap mainGlobals "__annotations__") = (true, 11, some (Value.ref 6)) := by kernel_rfl
theorem s_pre (w : World) (os : OsState) : topGo treeTable pw w 11 (some (Value.ref 6)) 12 ⟨hp_s0 pw w.params, ⟨[]⟩, {}, 181, os⟩ (topStub pw) = some (⟨hp_pre pw w.params, ⟨[]⟩, {}, 187, os⟩, ⟨denote treeTable (cE pw), cE pw, ⟨0, 0, 0, 0⟩, B0⟩) := by
  unfold pw
  rw [PySem.W.Fast.te15667345088766844465, PySem.W.Fast.te11892475500146522536, PySem.W.Fast.te14364793385576792824, PySem.W.Fast.te11410020155385439405]
  kernel_rfl
theorem s_block (w : World) (os : OsState) : segRun treeTable pw w 11 (some (Value.ref 6)) 1 1 ⟨hp_pre pw w.params, ⟨[]⟩, {}, 187, os⟩ (blockOf (behindTheImports pw) (en0 pw) (cE pw) ⟨0, 0, 0, 0⟩ B0) = some (.next, SharedT.abs ⟨tr_block pw w.params, 15, {}, ⟨[]⟩, {}, 187, os⟩, cE pw, ⟨0, 0, 0, 0⟩) := by
  unfold pw
  rw [PySem.W.Fast.te14374325043358763698, PySem.W.Fast.te14364793385576792824, PySem.W.Fast.te11410020155385439405]
  kernel_rfl
theorem s_p6 (w : World) (os : OsState) : segRunT treeTable pw w 11 (some (Value.ref 6)) 1 567 ⟨tr_block pw w.params, 15, {}, ⟨[]⟩, {}, 187, os⟩ (piecesOf (gr_p6 pw) (en0 pw) (cE pw) ⟨0, 0, 0, 0⟩ B0) = some (.next, ⟨tr_p6 pw w.params, 70, {}, ⟨[]⟩, {}, 265, os⟩, cE pw, ⟨30, 0, 30, 8⟩) := by
  unfold pw
  rw [PySem.W.Fast.te10110043849684766642, PySem.W.Fast.te14364793385576792824, PySem.W.Fast.te11410020155385439405]
  kernel_rfl
theorem s_p7 (w : World) (os : OsState) : segRunT treeTable pw w 11 (some (Value.ref 6)) 1 902 ⟨tr_p6 pw w.params, 70, {}, ⟨[]⟩, {}, 265, os⟩ (piecesOf (gr_p7 pw) (en0 pw) (cE pw) ⟨30, 0, 30, 8⟩ B0) = some (.next, ⟨tr_p7 pw w.params, 243, {}, ⟨[]⟩, {}, 464, os⟩, cE pw, ⟨31, 0, 112, 17⟩) := by
  unfold pw
  rw [PySem.W.Fast.te10110043849684766642, PySem.W.Fast.te14364793385576792824, PySem.W.Fast.te11410020155385439405]
  kernel_rfl
theorem s_p14 (w : World) (os : OsState) : segRunT treeTable pw w 11 (some (Value.ref 6)) 1 410 ⟨tr_p7 pw w.params, 243, {}, ⟨[]⟩, {}, 464, os⟩ (piecesOf (gr_p14 pw) (en0 pw) (cE pw) ⟨31, 0, 112, 17⟩ B0) = some (.next, ⟨tr_p14 pw w.params, 299, {}, ⟨[]⟩, {}, 552, os⟩, cE pw, ⟨149, 0, 158, 15⟩) := by
  unfold pw
  rw [PySem.W.Fast.te10110043849684766642, PySem.W.Fast.te14364793385576792824, PySem.W.Fast.te11410020155385439405]
  kernel_rfl
theorem s_fin (w : World) (os : OsState) : topRun treeTable pw w 11 (some (Value.ref 6)) 2 (SharedT.abs ⟨tr_p14 pw w.params, 299, {}, ⟨[]⟩, {}, 552, os⟩) ⟨doneF .next, cE pw, ⟨149, 0, 158, 15⟩, B0⟩ = some ⟨hp_fin pw w.params, ⟨[]⟩, {}, 552, os⟩ := by
  unfold pw
  rw [PySem.W.Fast.te14082659384304107361, PySem.W.Fast.te14364793385576792824, PySem.W.Fast.te11410020155385439405]
  kernel_rfl
theorem s_body : behindTheImports pw = gr_p6 pw ++ (gr_p7 pw ++ (gr_p14 pw ++ [])) := by kernel_rfl
theorem s_rest (w : World) (os : OsState) : topRun treeTable pw w 11 (some (Value.ref 6)) (567 + (902 + (410 + 2))) (SharedT.abs ⟨tr_block pw w.params, 15, {}, ⟨[]⟩, {}, 187, os⟩) (restOf (behindTheImports pw) (en0 pw) (cE pw) ⟨0, 0, 0, 0⟩ B0) = some ⟨hp_fin pw w.params, ⟨[]⟩, {}, 552, os⟩ := by
  rw [s_body]
  exact (piece_app (segRun_of (s_p6 w os)) (piece_app (segRun_of (s_p7 w os)) (piece_app (segRun_of (s_p14 w os)) (piece_nil (s_fin w os)))))
theorem s_run (w : World) (os : OsState) : topRun treeTable pw w 11 (some (Value.ref 6)) (12 + (1 + (567 + (902 + (410 + 2))))) ⟨hp_s0 pw w.params, ⟨[]⟩, {}, 181, os⟩ (topStub pw) = some ⟨hp_fin pw w.params, ⟨[]⟩, {}, 552, os⟩ :=
  go_top (s_pre w os) (piece_block (s_block w os) (s_rest w os))
theorem s_ok (w : World) (os : OsState) : (staticsOk (importedModules pw.main.body) (hp_s0 pw w.params) (hp_fin pw w.params) && namesBound pw (hp_fin pw w.params) && gensDone ⟨hp_fin pw w.params, ⟨[]⟩, {}, 552, os⟩ && laidKept (hp_s0 pw w.params) (hp_fin pw w.params)) = true := by
  unfold pw
  rw [PySem.W.Fast.te11410020155385439405]
  kernel_rfl
theorem s_seen (w : World) (os : OsState) : openSeen (vwOf pw) lo (importedModules pw.main.body) (xtOf (vwOf pw)) true ⟨hp_fin pw w.params, ⟨[]⟩, {}, 552, os⟩ = openGood (vwOf pw) lo := by
  unfold pw
  rw [PySem.W.Fast.te4187177175401517315, PySem.W.Fast.te11410020155385439405]
  kernel_rfl
theorem s_hook (w : World) : ads.map (hp_fin pw w.params).get? = (kfrOf pw w.params).map fun p => some p.2 := by
  unfold pw
  rw [PySem.W.Fast.te11410020155385439405]
  kernel_rfl
theorem left0 : LeftO pw (vwOf pw) lo (xtOf (vwOf pw)) (fun s : Shared => ads.map s.heap.get?) (fun w => (kfrOf pw w.params).map fun p => some p.2) 3878 :=
  LeftO.of_pieces s_open s_size s_run (by decide +kernel) fun w => funext fun os => looks_pair (s_ok w os) (looks_pair (s_seen w os) (s_hook w))
theorem left1 : LeftO PG vw lo (xtOf vw) (Hook.obs hk) (Hook.val hk) 3878 := left0
open PySem.Calls PySem.Spec
theorem hd {d : DefRec} {kwd : List (Str × Expr)} (hdef : defOf vw (OpenLaw.row PySem.Challenge.rw_pb0248_01).name = some (d, kwd)) (hp : PG.theDef (OpenLaw.row PySem.Challenge.rw_pb0248_01).name = some (d.params, d.body, d.scope))
    (hk' : kwWritten? d.params.kwonlyargs d.params.kw_defaults = some kwd)
    (walk : WalkO vw lo (XL vw []) (Hook.says (kHook kfr ads hkp)) (OpenLaw.row PySem.Challenge.rw_pb0248_01).toRowW d kwd fun f vs => PySem.call f vs) : PySem.Challenge.rw_pb0248_01.Holds := by
  refine of_row fun said => ?_
  w_on
  refine holds_open (q := vw) (loose := lo) (Xt := xtOf vw) (XP := XL vw []) (Yf := Hook.obs hk) (Ya := Hook.val hk) (YP := Hook.says hk) (N := 3878) left1 (Hook.of hk) (Hook.keeps hk) (fun s e => xl_of s (Bool.and_eq_true_iff.mp e).1) XL.keeps hdef hp hk' (fun s e => recFacts_of (Bool.and_eq_true_iff.mp e).2) rfl (by assumption) (by decide +kernel) ⟨rfl, rfl, rfl, rfl, rfl, by decide +kernel⟩ ?hw walk
  case hw => w_witness2
open PySem.Calls PySem.Spec
/-- what comes back from a def that changes nothing that stood -/
def PureEnd (R : Result → Shared → Prop) (v : Value) (s' : Shared) : Prop := R (.ok (.ret v)) s'
section
variable {prog : Program} {w : World} {A₀ A : Around} {s : Shared} {base h₀ : Heap} {outer : List Env} {L : Addr} {m mg mb : Str → Option Value} {env : Env} {K : Frag} {p : Program} {loose : List Str} {mean : ExcName → Option Value}
  {R : Result → Shared → Prop} {name qual : Str} {params : Arguments} {body : List Stmt} {scope : Scope} {dV kV doc pm cdv ct oc : Value} {an od : Option Addr} {osl : Array (Option Value)} {f : Addr} {args : Args} {binds : List (Str × Value)}
theorem code_pure (B : Below A₀ base outer h₀) (F : Fr h₀ L s.heap m) (X₀ : K.In h₀) (T : Top p loose mean mg mb h₀) (hA : A.frames = some (env :: outer)) (hf : env.frame = some L) (hke : env.scope.kind = .function)
    (ho : K.lookup f = some ⟨oc, od, .func (fnOf name qual params body scope dV kV doc pm an cdv ct), osl⟩) (hcd : codeIn K cdv qual = true) (hroom : A.depth < recursionLimit)
    (hbind : BindsTo s (fnOf name qual params body scope dV kV doc pm an cdv ct) args binds) (hloc : ∀ y ∈ binds, scope.names.lookup y.1 = some .local)
    (h : ∀ L' h₁, Fr s.heap L' h₁ (fun y => binds.reverse.lookup y) → News s.heap L' h₁ [] → Below A base (env :: outer) s.heap → K.In s.heap → Top p loose mean mg mb s.heap →
      wpAny (model prog w) (A.deeper (envOf qual scope L' f cdv)) (execs body (envOf qual scope L' f cdv))
        (fun fl s' => PureEnd R (match fl with | .ret v => v | _ => .none) s')
        (fun _ _ => False)
        { s with heap := h₁, toks := s.toks + binds.length })
    (hco : scope.isCoroutine = false) (hgen : scope.isGenerator = false) (hk : scope.kind = .function)
    (hcell : ∀ x ∈ scope.names, x.2 ≠ .cell) : codeAny (model prog w) A (.call (.ref f) args) R s := by
  have X := X₀.keeps F.keep
  have T' := T.keeps F.keep
  have B₁ := pushX B F hf hke
  have BG : Below A base (env :: outer) s.heap := ⟨hA, B₁.stays, B₁.frames⟩
  refine codeAny_call_def (fd := fnX name qual params body scope [] dV kV doc pm an cdv ct) (body := body) (binds := binds) hroom (X _ _ ho) rfl T'.nolimit (codeRec_of X hcd) rfl hbind hcell hloc (fun h₁ hns hk₁ => ?_) hco hgen hk
  have F₁ : Fr s.heap s.heap.objs.size h₁ (fun y => binds.reverse.lookup y) := ⟨hns, hk₁, Nat.le_refl _⟩
  exact wpAny_mono (h _ _ F₁ News.nil BG X T') (fun fl s' hl => hl) fun _ _ y => y.elim
end
theorem InstAt.keepsF {h₀ h : Heap} {L x C : Addr} {ox : Obj} {od : Option Obj} {m : Str → Option Value} (F : Fr h₀ L h m) (I : InstAt h₀ x ox C od) : InstAt h x ox C od := by
  obtain ⟨h1, h2, h3, h4⟩ := I
  refine ⟨F.keep _ _ h1, h2, h3, ?_⟩
  cases hd : ox.dict <;> cases od <;> simp only [hd] at h4 ⊢
  exact F.keep _ _ h4
local macro_rules | `(tactic| k_inst) => `(tactic| (refine' InstAt.keepsF ?F ?I; (case F => k_asm); (case I => assumption)))
theorem len_vs {prog : Program} {w : World} {A : Around} {E : Value → Shared → Prop} {s : Shared} {l : Addr} {vs : List Value} {k : Nat} {Q : Value → Shared → Prop} (hl : s.heap.IsList l vs.toArray) (hk : vs.length = k) (hfit : k < 2 ^ 62)
    (h : Q (.int (k : Nat) (s.toks + 1)) { s with toks := s.toks + 1 + 1 }) : wpAny (model prog w) A (call (.builtin "len") [.ref l]) Q E s := by
  have e : vs.toArray.size = k := by simp [hk]
  refine call_len_list hl (by omega) ?_
  rw [e]
  exact h
theorem pure_end {L : Addr} {h' : Heap} {m : Str → Option Value} {Q : Value → Shared → Prop} {s : Shared} {x y : Value} {tk : Nat} (hret : ∀ h' tk', s.heap.StaysIn h' → Q x { s with heap := h', toks := tk' })
    (F : Fr s.heap L h' m) (e : y = x) : Q y { s with heap := h', toks := tk } := e ▸ hret _ _ F.keep
abbrev Ent (k : Str) (hh : Int) (t : Tok) (v : Value) : DictEntry := ⟨hh, .str k t, v⟩
/-- the reader r: its tokens' list tl, its place n -/
def RdrAt (h : Heap) (r tl : Addr) (n : Int) : Prop := ∃ dx ep h1 t1 h2 t2 t2' h3 t3 v3,
  InstAt h r (instObj 238 dx) 238 (some (dictOf [⟨h1, .str (Str.ofString "tokens") t1, .ref tl⟩, ⟨h2, .str (Str.ofString "at") t2, .int n t2'⟩, ⟨h3, .str (Str.ofString "named") t3, v3⟩] ep))
/-- the token a: its kind, its worth -/
def TokAt (h : Heap) (a : Addr) (k x : Str) : Prop := ∃ dx ep h1 t1 t1' h2 t2 t2' h3 t3 v3 h4 t4 v4,
  InstAt h a (instObj 268 dx) 268 (some (dictOf [⟨h1, .str (Str.ofString "kind") t1, .str k t1'⟩, ⟨h2, .str (Str.ofString "worth") t2, .str x t2'⟩, ⟨h3, .str (Str.ofString "at") t3, v3⟩, ⟨h4, .str (Str.ofString "is_in_a") t4, v4⟩] ep))
abbrev TK := Str × Str
/-- tl lists tokens of these kinds and worths -/
def ToksAt (h : Heap) (tl : Addr) (as : List Addr) (ts : List TK) : Prop :=
  h.IsList tl (as.map Value.ref).toArray ∧ as.length = ts.length ∧ ∀ (i : Nat) (a : Addr) (t : TK), as[i]? = some a → ts[i]? = some t → TokAt h a t.1 t.2
def Ambient (w : World) (p : Program) (loose : List Str) (mean : ExcName → Option Value) (mg mb : Str → Option Value) (dp un : Nat) (outer : List Env) (A₀ : Around) (base h₀ : Heap) (L : Addr) (m : Str → Option Value) (h : Heap) : Prop :=
  Below A₀ base outer h₀ ∧ Fr h₀ L h m ∧ (Mine.kfr w.params).In h₀ ∧ Top p loose mean mg mb h₀ ∧ dp + 8 < recursionLimit ∧ un + 64 < cLine
theorem peek_spec (w : World) (p : Program) (loose : List Str) (mean : ExcName → Option Value) (mg mb : Str → Option Value)
    (dp un : Nat) (gd : Option (List Code)) (cn : Str) (cs : Scope) (a : Addr) (ccd : Value) (cl : List (Str × Addr)) (outer : List Env) (A₀ : Around) (base h₀ : Heap) (L : Addr) (m : Str → Option Value) (s : Shared) (Q E : Value → Shared → Prop)
    (r tl : Addr) (n d : Int) (td : Tok) (as : List Addr) :
    PySem.Challenge.rw_pb0248_01.prog = PySem.Challenge.rw_pb0248_01.prog →
    Below A₀ base outer h₀ → Fr h₀ L s.heap m → (Mine.kfr w.params).In h₀ → Top p loose mean mg mb h₀ → cs.kind = .function → dp + 2 < recursionLimit → un + 16 < cLine →
    RdrAt s.heap r tl n → s.heap.IsList tl (as.map Value.ref).toArray → 0 ≤ n → 0 ≤ d → n ≤ 100 → d ≤ 100 → as.length ≤ 100 →
    (∀ h' tk', s.heap.StaysIn h' → Q ((as[(n + d).toNat]?).elim .none .ref) { s with heap := h', toks := tk' }) →
    wpAny (model PG w) (ktrTop dp un gd cn cs L a ccd cl outer) (call (.ref 92) [.ref r, .int d td]) Q E s := by
  w_top off
  k_fill
  intro _ B F X T hk hd hu hR hl hn hd0 hn1 hd1 hlen hret
  obtain ⟨dx, ep, h1, t1, h2, t2, t2', h3, t3, v3, hI⟩ := hR
  refine wpAny_call ?_
  k_dflt (refine' code_pure ?k1 ?k2 ?k3 ?k5 ?kA ?kF ?kK ?k6 ?k7 ?k8 ?k9 ?kB ?_ ?c2 ?c3 ?c4 ?c5; (case kA => exact rfl); (case kF => exact rfl); (case kK => assumption); (case k1 => k_asm); (case k2 => k_asm); (case k3 => k_asm); (case k5 => k_asm); (case k6 => k_is); (case k7 => k_is); (case k8 => ktr_room); (case k9 => first | exact BindsTo.of_eq rfl | exact binds_K (by k_in) rfl (by k_is) rfl rfl rfl); (case c5 => decide); (case kB => exact locs rfl); (case c2 => exact rfl); (case c3 => exact rfl); (case c4 => exact rfl); k_whole; intro L' h' F' N' B' X' T'; (try dsimp only))
  clear B F X T
  k_steps
  refine len_vs (k := as.length) (by is_list) (by simp) (by omega) ?_
  k_steps
  · rename_i hc
    have hlt : (n + d).toNat < as.length := by omega
    refine item_listL (x := .ref as[(n + d).toNat]) (by is_list) (by omega) (by omega) (by simp [hlt]) ?_
    k_steps
    (dsimp only [PureEnd]; refine pure_end hret (by k_asm) ?_)
    simp [hlt]
  · rename_i hc
    (dsimp only [PureEnd]; refine pure_end hret (by k_asm) ?_)
    have : as.length ≤ (n + d).toNat := by omega
    simp [this]
section
open PySem.Calls PySem.Spec
/-- a call that changes nothing that stood -/
def PCall (w : World) (p : Program) (loose : List Str) (mean : ExcName → Option Value) (mg mb : Str → Option Value) (f : Addr) (args : List Value) (n u : Nat) (pre : Heap → Prop) (out : Value) : Prop :=
  PySem.Challenge.rw_pb0248_01.prog = PySem.Challenge.rw_pb0248_01.prog →
  ∀ (dp un : Nat) (gd : Option (List Code)) (cn : Str) (cs : Scope) (a : Addr) (ccd : Value) (cl : List (Str × Addr)) (outer : List Env) (A₀ : Around) (base h₀ : Heap) (L : Addr) (m : Str → Option Value) (s : Shared) (Q E : Value → Shared → Prop),
    Below A₀ base outer h₀ → Fr h₀ L s.heap m → (Mine.kfr w.params).In h₀ → Top p loose mean mg mb h₀ → cs.kind = .function → dp + n < recursionLimit → un + u < cLine → pre s.heap →
    (∀ h' tk', s.heap.StaysIn h' → Q out { s with heap := h', toks := tk' }) →
    wpAny (model PG w) (ktrTop dp un gd cn cs L a ccd cl outer) (call (.ref f) args) Q E s
theorem pcall_use {w : World} {p : Program} {loose : List Str} {mean : ExcName → Option Value} {mg mb : Str → Option Value} {f : Addr} {args : List Value} {n u : Nat} {pre : Heap → Prop} {out : Value} 
    {dp un : Nat} {gd : Option (List Code)} {cn : Str} {cs : Scope} {a : Addr} {ccd : Value} {cl : List (Str × Addr)} {outer : List Env} {A₀ : Around} {base h₀ : Heap} {L : Addr} {m : Str → Option Value} {s : Shared} {Q E : Value → Shared → Prop}
    (B : Below A₀ base outer h₀) (F : Fr h₀ L s.heap m) (X : (Mine.kfr w.params).In h₀) (T : Top p loose mean mg mb h₀) (C : PCall w p loose mean mg mb f args n u pre out) (hk : cs.kind = .function) (hd : dp + n < recursionLimit) (hu : un + u < cLine) (hp : pre s.heap)
    (ret : ∀ h' tk', Fr h₀ L h' m → s.heap.StaysIn h' → Q out { s with heap := h', toks := tk' }) :
    wpAny (model PG w) (ktrTop dp un gd cn cs L a ccd cl outer) (call (.ref f) args) Q E s := C rfl _ _ _ _ _ _ _ _ _ _ _ _ _ _ _ _ _ B F X T hk hd hu hp fun h' tk' st => ret h' tk' (F.keeps st) st
theorem RdrAt.keep {h h' : Heap} {r tl : Addr} {n : Int} (H : RdrAt h r tl n) (st : h.StaysIn h') : RdrAt h' r tl n := by
  obtain ⟨dx, ep, h1, t1, h2, t2, t2', h3, t3, v3, a, b, c, d⟩ := H
  exact ⟨dx, ep, h1, t1, h2, t2, t2', h3, t3, v3, st _ _ a, b, c, st _ _ d⟩
theorem TokAt.keep {h h' : Heap} {a : Addr} {k x : Str} (H : TokAt h a k x) (st : h.StaysIn h') : TokAt h' a k x := by
  obtain ⟨dx, ep, h1, t1, t1', h2, t2, t2', h3, t3, v3, h4, t4, v4, a, b, c, d⟩ := H
  exact ⟨dx, ep, h1, t1, t1', h2, t2, t2', h3, t3, v3, h4, t4, v4, st _ _ a, b, c, st _ _ d⟩
theorem ToksAt.keep {h h' : Heap} {tl : Addr} {as : List Addr} {ts : List TK} (H : ToksAt h tl as ts) (st : h.StaysIn h') : ToksAt h' tl as ts :=
  ⟨H.1.at fun o e => st _ _ e, H.2.1, fun i a t h1 h2 => (H.2.2 i a t h1 h2).keep st⟩
/-- the reader r stands at n before the tokens ts -/
def Rd (h : Heap) (r tl : Addr) (as : List Addr) (ts : List TK) (n : Int) : Prop := RdrAt h r tl n ∧ ToksAt h tl as ts ∧ 0 ≤ n ∧ n ≤ 20 ∧ ts.length ≤ 20
theorem Rd.keep {h h' : Heap} {r tl : Addr} {as : List Addr} {ts : List TK} {n : Int} (H : Rd h r tl as ts n) (st : h.StaysIn h') : Rd h' r tl as ts n := ⟨H.1.keep st, H.2.1.keep st, H.2.2⟩
section
variable (w : World) (p : Program) (loose : List Str) (mean : ExcName → Option Value) (mg mb : Str → Option Value)
theorem peek_pc (r tl : Addr) (as : List Addr) (ts : List TK) (n d : Int) (td : Tok) (hd0 : 0 ≤ d) (hd1 : d ≤ 20) :
    PCall w p loose mean mg mb 92 [.ref r, .int d td] 2 16 (fun h => Rd h r tl as ts n) ((as[(n + d).toNat]?).elim .none .ref) :=
  fun _ dp un gd cn cs a ccd cl outer A₀ base h₀ L m s Q E B F X T hk hd hu hp ret => peek_spec w p loose mean mg mb dp un gd cn cs a ccd cl outer A₀ base h₀ L m s Q E r tl n d td as rfl B F X T hk hd hu hp.1 hp.2.1.1 hp.2.2.1 hd0 (by have := hp.2.2.2.1; omega) (by omega) (by have := hp.2.2.2.2; have := hp.2.1.2.1; omega) ret
def isKind (ts : List TK) (k : Str) (i : Nat) : Bool := (ts[i]?).elim false fun t => t.1 == k
theorem is_kind_pc (r tl : Addr) (as : List Addr) (ts : List TK) (n d : Int) (td tk : Tok) (k : Str) (hd0 : 0 ≤ d) (hd1 : d ≤ 20) :
    PCall w p loose mean mg mb 121 [.ref r, .str k tk, .int d td] 4 48 (fun h => Rd h r tl as ts n) (.bool (isKind ts k (n + d).toNat)) := by
  unfold PCall
  w_top off
  k_fill
  intro _ dp un gd cn cs a ccd cl outer A₀ base h₀ L m s Q E B F X T hk hd hu hp hret
  have hp0 := hp
  obtain ⟨⟨dx, ep, h1, t1, h2, t2, t2', h3, t3, v3, hI⟩, hts, hn0, hn1, hlen⟩ := hp
  refine wpAny_call ?_
  k_dflt (refine' code_pure ?k1 ?k2 ?k3 ?k5 ?kA ?kF ?kK ?k6 ?k7 ?k8 ?k9 ?kB ?_ ?c2 ?c3 ?c4 ?c5; (case kA => exact rfl); (case kF => exact rfl); (case kK => assumption); (case k1 => k_asm); (case k2 => k_asm); (case k3 => k_asm); (case k5 => k_asm); (case k6 => k_is); (case k7 => k_is); (case k8 => ktr_room); (case k9 => first | exact BindsTo.of_eq rfl | exact binds_K (by k_in) rfl (by k_is) rfl rfl rfl); (case c5 => decide); (case kB => exact locs rfl); (case c2 => exact rfl); (case c3 => exact rfl); (case c4 => exact rfl); k_whole; intro L' h' F' N' B' X' T'; (try dsimp only))
  clear B F X T
  have C := peek_pc w p loose mean mg mb r tl as ts n d td hd0 hd1
  k_steps
  refine pcall_use (by k_asm) (by k_asm) (by k_asm) (by k_asm) C rfl (by ktr_room) (by ktr_units) (hp0.keep F'.keep) ?_
  intro h2' tk2 F2 st2
  clear F' N'
  have N2 : News s.heap L' h2' [] := News.nil
  obtain ⟨hl, hal, htok⟩ := hts
  cases ha : as[(n + d).toNat]? with
  | none => 
    have e : isKind ts k (n + d).toNat = false := by
      have : ts[(n + d).toNat]? = none := by simp at ha ⊢; omega
      simp [isKind, this]
    simp only [Option.elim]
    k_steps
    (dsimp only [PureEnd]; refine pure_end hret (by k_asm) ?_)
    rw [e]
  | some x =>
    obtain ⟨t, ht⟩ : ∃ t, ts[(n + d).toNat]? = some t := by
      have := (List.getElem?_eq_some_iff.mp ha).1
      exact ⟨ts[(n + d).toNat]'(by omega), by simp⟩
    have e : isKind ts k (n + d).toNat = (t.1 == k) := by simp [isKind, ht]
    obtain ⟨dx, ep, h1, t1, t1', h2, t2, t2', h3, t3, v3, h4, t4, v4, hI2⟩ := htok _ _ _ ha ht
    simp only [Option.elim]
    k_steps
    (dsimp only [PureEnd]; refine pure_end hret (by k_asm) ?_)
    rw [e]
def isSign (ts : List TK) (k : Str) (i : Nat) : Bool := (ts[i]?).elim false fun t => t.1 == Str.ofString "sign" && t.2 == k
theorem isSign_eq (ts : List TK) (k : Str) (i : Nat) : isSign ts k i = (isKind ts (Str.ofString "sign") i && ((ts[i]?).elim false fun t => t.2 == k)) := by
  unfold isSign isKind
  cases ts[i]? <;> rfl
theorem isKind_some {ts : List TK} {k : Str} {i : Nat} (h : isKind ts k i = true) : ∃ t, ts[i]? = some t := by
  unfold isKind at h
  cases e : ts[i]? with
  | none => rw [e] at h; cases h
  | some t => exact ⟨t, rfl⟩
theorem is_sign_pc (r tl : Addr) (as : List Addr) (ts : List TK) (n d : Int) (td tk : Tok) (k : Str) (hd0 : 0 ≤ d) (hd1 : d ≤ 20) :
    PCall w p loose mean mg mb 186 [.ref r, .str k tk, .int d td] 6 96 (fun h => Rd h r tl as ts n) (.bool (isSign ts k (n + d).toNat)) := by
  unfold PCall
  w_top off
  k_fill
  intro _ dp un gd cn cs a ccd cl outer A₀ base h₀ L m s Q E B F X T hk hd hu hp hret
  have hp0 := hp
  obtain ⟨⟨dx, ep, h1, t1, h2, t2, t2', h3, t3, v3, hI⟩, hts, hn0, hn1, hlen⟩ := hp
  refine wpAny_call ?_
  k_dflt (refine' code_pure ?k1 ?k2 ?k3 ?k5 ?kA ?kF ?kK ?k6 ?k7 ?k8 ?k9 ?kB ?_ ?c2 ?c3 ?c4 ?c5; (case kA => exact rfl); (case kF => exact rfl); (case kK => assumption); (case k1 => k_asm); (case k2 => k_asm); (case k3 => k_asm); (case k5 => k_asm); (case k6 => k_is); (case k7 => k_is); (case k8 => ktr_room); (case k9 => first | exact BindsTo.of_eq rfl | exact binds_K (by k_in) rfl (by k_is) rfl rfl rfl); (case c5 => decide); (case kB => exact locs rfl); (case c2 => exact rfl); (case c3 => exact rfl); (case c4 => exact rfl); k_whole; intro L' h' F' N' B' X' T'; (try dsimp only))
  clear B F X T
  have C := is_kind_pc w p loose mean mg mb r tl as ts n d td
  have C2 := peek_pc w p loose mean mg mb r tl as ts n d td hd0 hd1
  k_steps
  refine pcall_use (by k_asm) (by k_asm) (by k_asm) (by k_asm) (C _ _ hd0 hd1) rfl (by ktr_room) (by ktr_units) (hp0.keep F'.keep) ?_
  intro h2' tk2 F2 st2
  clear F' N'
  have N2 : News s.heap L' h2' [] := News.nil
  obtain ⟨hl, hal, htok⟩ := hts
  have e := isSign_eq ts k (n + d).toNat
  cases hik : isKind ts (Str.ofString "sign") (n + d).toNat with
  | false =>
    k_steps
    (dsimp only [PureEnd]; refine pure_end hret (by k_asm) ?_)
    rw [e, hik]; rfl
  | true =>
    obtain ⟨t, ht⟩ := isKind_some hik
    obtain ⟨x, ha⟩ : ∃ x, as[(n + d).toNat]? = some x := by
      have := (List.getElem?_eq_some_iff.mp ht).1
      exact ⟨as[(n + d).toNat]'(by omega), by simp⟩
    obtain ⟨dx, ep, h1, t1, t1', h2, t2, t2', h3, t3, v3, h4, t4, v4, hI2⟩ := htok _ _ _ ha ht
    k_steps
    refine pcall_use (by k_asm) (by k_asm) (by k_asm) (by k_asm) C2 rfl (by ktr_room) (by ktr_units) (hp0.keep F2.keep) ?_
    intro h3' tk3 F3 st3
    clear F2 N2
    have N3 : News s.heap L' h3' [] := News.nil
    simp only [ha, Option.elim]
    k_steps
    (dsimp only [PureEnd]; refine pure_end hret (by k_asm) ?_)
    rw [e, hik, ht]; rfl
theorem is_sign0_pc (r tl : Addr) (as : List Addr) (ts : List TK) (n : Int) (tk : Tok) (k : Str) :
    PCall w p loose mean mg mb 186 [.ref r, .str k tk] 6 96 (fun h => Rd h r tl as ts n) (.bool (isSign ts k (n + 0).toNat)) := by
  unfold PCall
  w_top off
  k_fill
  intro _ dp un gd cn cs a ccd cl outer A₀ base h₀ L m s Q E B F X T hk hd hu hp hret
  have hp0 := hp
  obtain ⟨⟨dx, ep, h1, t1, h2, t2, t2', h3, t3, v3, hI⟩, hts, hn0, hn1, hlen⟩ := hp
  refine wpAny_call ?_
  k_dflt (refine' code_pure ?k1 ?k2 ?k3 ?k5 ?kA ?kF ?kK ?k6 ?k7 ?k8 ?k9 ?kB ?_ ?c2 ?c3 ?c4 ?c5; (case kA => exact rfl); (case kF => exact rfl); (case kK => assumption); (case k1 => k_asm); (case k2 => k_asm); (case k3 => k_asm); (case k5 => k_asm); (case k6 => k_is); (case k7 => k_is); (case k8 => ktr_room); (case k9 => first | exact BindsTo.of_eq rfl | exact binds_K (by k_in) rfl (by k_is) rfl rfl rfl); (case c5 => decide); (case kB => exact locs rfl); (case c2 => exact rfl); (case c3 => exact rfl); (case c4 => exact rfl); k_whole; intro L' h' F' N' B' X' T'; (try dsimp only))
  clear B F X T
  have C := is_kind_pc w p loose mean mg mb r tl as ts n 0
  have C2 := peek_pc w p loose mean mg mb r tl as ts n 0
  k_steps
  refine pcall_use (by k_asm) (by k_asm) (by k_asm) (by k_asm) (C _ _ _ (by decide) (by decide)) rfl (by ktr_room) (by ktr_units) (hp0.keep F'.keep) ?_
  intro h2' tk2 F2 st2
  clear F' N'
  have N2 : News s.heap L' h2' [] := News.nil
  obtain ⟨hl, hal, htok⟩ := hts
  have e := isSign_eq ts k (n + 0).toNat
  cases hik : isKind ts (Str.ofString "sign") (n + 0).toNat with
  | false =>
    k_steps
    (dsimp only [PureEnd]; refine pure_end hret (by k_asm) ?_)
    rw [e, hik]; rfl
  | true =>
    obtain ⟨t, ht⟩ := isKind_some hik
    obtain ⟨x, ha⟩ : ∃ x, as[(n + 0).toNat]? = some x := by
      have := (List.getElem?_eq_some_iff.mp ht).1
      exact ⟨as[(n + 0).toNat]'(by omega), by simp⟩
    obtain ⟨dx, ep, h1, t1, t1', h2, t2, t2', h3, t3, v3, h4, t4, v4, hI2⟩ := htok _ _ _ ha ht
    k_steps
    refine pcall_use (by k_asm) (by k_asm) (by k_asm) (by k_asm) (C2 _ (by decide) (by decide)) rfl (by ktr_room) (by ktr_units) (hp0.keep F2.keep) ?_
    intro h3' tk3 F3 st3
    clear F2 N2
    have N3 : News s.heap L' h3' [] := News.nil
    simp only [ha, Option.elim]
    k_steps
    (dsimp only [PureEnd]; refine pure_end hret (by k_asm) ?_)
    rw [e, hik, ht]; rfl
end
end
section
open PySem.Calls PySem.Spec
structure Halt (P : Prop) : Prop where
  out : P
theorem Halt.slice {M : Model} {A : Around} {x : PySem.Expr} {a b : Option PySem.Expr} {p : Pos} {q r : Addr} {Q E : Value → Shared → Prop} {s : Shared} (h : Halt (wpAny M A (subscriptTail x (PySem.Expr.Slice a b none p) (.ref q) (.ref r)) Q E s)) :
    wpAny M A (subscriptTail x (PySem.Expr.Slice a b none p) (.ref q) (.ref r)) Q E s := h.out
structure BodyEnd (I : Nat → Shared → Prop) (n : Nat) (Q : Flow → Shared → Prop) (f : Flow) (s : Shared) : Prop where
  out : match f with
    | .next | .cont => ∃ m, m < n ∧ I m s
    | .brk => Q .next s
    | .ret v => Q (.ret v) s
theorem BodyEnd.next {I : Nat → Shared → Prop} {n : Nat} {Q : Flow → Shared → Prop} {s : Shared} (h : ∃ m, m < n ∧ I m s) : BodyEnd I n Q .next s := ⟨h⟩
theorem BodyEnd.ret {I : Nat → Shared → Prop} {n : Nat} {Q : Flow → Shared → Prop} {s : Shared} {v : Value} (h : Q (.ret v) s) : BodyEnd I n Q (.ret v) s := ⟨h⟩
theorem while_use {prog : Program} {w : World} {A : Around} {E : Value → Shared → Prop} {Q : Flow → Shared → Prop} {s : Shared} {env : Env} {test : PySem.Expr} {body : List Stmt} {pos : Pos} (I : Nat → Shared → Prop) {n₀ : Nat} (h0 : I n₀ s)
    (turn : ∀ n s', I n s' → wpAny (model prog w) A (isTrue test env (eval test env)) (fun b s₂ => if b = true then wpAny (model prog w) A (execs body env) (BodyEnd I n Q) E s₂ else Q .next s₂) E s')
    (hE : PassesOwn (model prog w) A env E := by passes_own) : wpAny (model prog w) A (exec (.While test body [] pos) env) Q E s := by
  refine wpAny_While (codeAny_whileLoop I ?_ n₀ h0)
  intro n s' hI
  refine wpAny_mono (turn n s' hI) (fun b s₂ h₂ => ?_) hE
  cases b with
  | false =>
    simp only [Bool.false_eq_true, if_false] at h₂ ⊢
    exact wpAny_execs_nil h₂
  | true =>
    simp only [if_true] at h₂ ⊢
    refine wpAny_mono h₂ (fun f s₃ h₃ => ?_) hE
    have h := h₃.out
    cases f <;> exact h
theorem fr_cong {h₀ h : Heap} {L : Addr} {m m' : Str → Option Value} (F : Fr h₀ L h m) (e : ∀ y, m' y = m y) : Fr h₀ L h m' := by
  have : m' = m := funext e
  rw [this]; exact F
theorem fr_with2 {h₀ h : Heap} {L : Addr} {m : Str → Option Value} (F : Fr h₀ L h m) {x y : Str} {u v : Value} (hx : m x = some u) (hy : m y = some v) :
    Fr h₀ L h (fun z => if z = x then some u else if z = y then some v else m z) := fr_cong F fun z => by
  by_cases h1 : z = x
  · subst h1; simp [hx]
  · by_cases h2 : z = y
    · subst h2; simp [h1, hy]
    · simp [h1, h2]
theorem fr_with3 {h₀ h : Heap} {L : Addr} {m : Str → Option Value} (F : Fr h₀ L h m) {x y z : Str} {u v t : Value} (hx : m x = some u) (hy : m y = some v) (hz : m z = some t) :
    Fr h₀ L h (fun q => if q = x then some u else if q = y then some v else if q = z then some t else m q) := fr_cong F fun q => by
  by_cases h1 : q = x
  · subst h1; simp [hx]
  · by_cases h2 : q = y
    · subst h2; simp [h1, hy]
    · by_cases h3 : q = z
      · subst h3; simp [h1, h2, hz]
      · simp [h1, h2, h3]
theorem news_of {h₀ h : Heap} {L : Addr} {m : Str → Option Value} (_ : Fr h₀ L h m) : News h₀ L h [] := News.nil
end
local macro_rules | `(tactic| walk_at "LeaveK") => `(tactic| (refine Halt.out ?_))
section
open PySem.Calls PySem.Spec
abbrev tapeO (c : Addr) (k : Int) (t : Tok) (n : Nat) : Obj := { cls := .type "list", data := .seq #[.ref c, .int k t] n }
abbrev lstO (vs : List Value) (n : Nat) : Obj := { cls := .type "list", data := .seq vs.toArray n }
theorem fmod8 (x : Int) : 0 ≤ x.fmod 8 ∧ x.fmod 8 < 8 := by
  rw [Int.fmod_eq_emod_of_nonneg x (by decide)]
  omega
section
variable (w : World) (p : Program) (loose : List Str) (mean : ExcName → Option Value) (mg mb : Str → Option Value)
theorem draw_spec (ta c : Addr) (vs : List Value) (ns : List Int) (k : Int) (tk8 tk1 : Tok) (n1 n2 : Nat)
    (dp un : Nat) (gd : Option (List Code)) (cn : Str) (cs : Scope) (a : Addr) (ccd : Value) (cl : List (Str × Addr)) (outer : List Env) (A₀ : Around) (base h₀ : Heap) (L : Addr) (m : Str → Option Value) (s : Shared) (Q E : Value → Shared → Prop) :
    PySem.Challenge.rw_pb0248_01.prog = PySem.Challenge.rw_pb0248_01.prog →
    Below A₀ base outer h₀ → Fr h₀ L s.heap m → (Mine.kfr w.params).In h₀ → Top p loose mean mg mb h₀ → cs.kind = .function → dp + 4 < recursionLimit → un + 64 < cLine →
    News h₀ L s.heap [(ta, tapeO c k tk1 n1), (c, lstO vs n2)] → IntsAre vs ns → @Ne Nat ta c → 0 < ns.length → ns.length ≤ 40 → 0 ≤ k → k ≤ 20 →
    (∀ h' tk' d td t' vs' ns' m1 m2, (∀ b o, b ∉ [ta, c] → s.heap.get? b = some o → h'.get? b = some o) → Fr h₀ L h' m → News h₀ L h' [(ta, tapeO c (k + 1) t' m1), (c, lstO vs' m2)] → IntsAre vs' ns' → ns'.length = ns.length → 0 ≤ d → d < 8 → Q (.int d td) { s with heap := h', toks := tk' }) →
    wpAny (model PG w) (ktrTop dp un gd cn cs L a ccd cl outer) (call (.ref 279) [.ref ta, .int 8 tk8]) Q E s := by
  w_top off
  k_fill
  intro _ B F X T hk hd hu N hI hne hpos hlen hk0 hk1 hret
  have hvl : vs.length = ns.length := hI.length
  refine wpAny_call ?_
  k_dflt (refine' code_defG ?k1 ?k2 ?k3 ?k4 ?k5 ?kA ?kF ?kK ?k6 ?k7 ?k8 ?k9 ?kB ?_ ?c2 ?c3 ?c4 ?c5; (case kA => exact rfl); (case kF => exact rfl); (case kK => assumption); (case k1 => k_asm); (case k2 => k_asm); (case k3 => k_asm); (case k4 => exact N); (case k5 => k_asm); (case k6 => k_is); (case k7 => k_is); (case k8 => ktr_room); (case k9 => first | exact BindsTo.of_eq rfl | exact binds_K (by k_in) rfl (by k_is) rfl rfl rfl); (case c5 => decide); (case kB => exact locs rfl); (case c2 => exact rfl); (case c3 => exact rfl); (case c4 => exact rfl); k_whole)
  intro g L' h' FG F' N' B' X' T' kG
  try dsimp only
  clear B F X T N
  k_steps
  all_goals
    constructor
    (try dsimp only)
    rename Fr g _ _ _ => F9
    rename News g _ _ _ => N9
    rename IntsAre (List.set _ _ _) _ => I9
    refine leaveK_ F9 N9 fun F8 N8 => ?_
    exact hret _ _ _ _ _ _ _ _ _ (fun b o hb e => F9.keep _ _ (kG b o e hb)) F8 N8 I9 (by rw [List.length_set]) (fmod8 _).1 (fmod8 _).2
end
end
section
open PySem.Calls PySem.Spec
section
variable (w : World) (p : Program) (loose : List Str) (mean : ExcName → Option Value) (mg mb : Str → Option Value)
local macro_rules | `(tactic| k_all) => `(tactic| assumption)
theorem tok_spec (k x : Str) (tk tx : Tok) (pa : Addr) (news : List (Addr × Obj))
    (dp un : Nat) (gd : Option (List Code)) (cn : Str) (cs : Scope) (a : Addr) (ccd : Value) (cl : List (Str × Addr)) (outer : List Env) (A₀ : Around) (base h₀ : Heap) (L : Addr) (m : Str → Option Value) (s : Shared) (Q E : Value → Shared → Prop) :
    PySem.Challenge.rw_pb0248_01.prog = PySem.Challenge.rw_pb0248_01.prog →
    Below A₀ base outer h₀ → Fr h₀ L s.heap m → (Mine.kfr w.params).In h₀ → Top p loose mean mg mb h₀ → cs.kind = .function → dp + 4 < recursionLimit → un + 64 < cLine →
    News h₀ L s.heap news → 
    (∀ h' tk' xo dx h1 t1 t1' h2 t2 t2' h3 t3 h4 t4 v4 ep, Fr h₀ L h' m → News h₀ L h' ((xo, instObj 268 dx) :: (dx, dictOf [⟨h1, .str (Str.ofString "kind") t1, .str k t1'⟩, ⟨h2, .str (Str.ofString "worth") t2, .str x t2'⟩, ⟨h3, .str (Str.ofString "at") t3, .ref pa⟩, ⟨h4, .str (Str.ofString "is_in_a") t4, v4⟩] ep) :: news) → 
      (∀ p ∈ news, p.1 < dx) → @LT.lt Nat _ dx xo → Q (.ref xo) { s with heap := h', toks := tk' }) →
    wpAny (model PG w) (ktrTop dp un gd cn cs L a ccd cl outer) (call (.ref 268) [.str k tk, .str x tx, .ref pa]) Q E s := by
  w_top off
  k_fill
  intro _ B F X T hk hd hu N hret
  k_dflt (refine' call_cls ?k1 ?k2 ?k3 ?k4 ?k5 ?k6 ?_; (case k1 => k_asm); (case k2 => k_asm); (case k3 => exact N); (case k4 => k_is); (case k5 => k_is); (case k6 => k_is); k_whole)
  intro x' d' h' F1 N1 l1 l2
  have n1 : ∀ p ∈ news, p.1 ≠ d' := fun p hp => Nat.ne_of_lt (l1 p hp)
  have n2 : ∀ p ∈ news, p.1 ≠ x' := fun p hp => Nat.ne_of_lt (Nat.lt_trans (l1 p hp) l2)
  clear F N
  replace l2 : @LT.lt Nat _ d' x' := l2
  k_dflt (refine' code_def ?k1 ?k2 ?k3 ?k4 ?k5 ?kA ?kF ?kK ?k6 ?k7 ?k8 ?k9 ?kB ?_ ?c2 ?c3 ?c4 ?c5; (case kA => exact rfl); (case kF => exact rfl); (case kK => assumption); (case k1 => k_asm); (case k2 => k_asm); (case k3 => k_asm); (case k4 => exact N1); (case k5 => k_asm); (case k6 => k_is); (case k7 => k_is); (case k8 => ktr_room); (case k9 => first | exact BindsTo.of_eq rfl | exact binds_K (by k_in) rfl (by k_is) rfl rfl rfl); (case c5 => decide); (case kB => exact locs rfl); (case c2 => exact rfl); (case c3 => exact rfl); (case c4 => exact rfl); k_whole)
  intro g L' h'' FG F' N' B' X' T'
  try dsimp only
  clear B F1 X T N1
  k_steps
  constructor
  rename Fr g _ _ _ => F9
  rename News g _ _ _ => N9
  refine leaveK_ F9 N9 fun F8 N8 => ?_
  dsimp only [InitBack]
  refine ⟨rfl, ?_⟩
  exact hret _ _ _ _ _ _ _ _ _ _ _ _ _ _ _ _ F8 N8 l1 l2
theorem reader_spec (tl : Addr) (news : List (Addr × Obj))
    (dp un : Nat) (gd : Option (List Code)) (cn : Str) (cs : Scope) (a : Addr) (ccd : Value) (cl : List (Str × Addr)) (outer : List Env) (A₀ : Around) (base h₀ : Heap) (L : Addr) (m : Str → Option Value) (s : Shared) (Q E : Value → Shared → Prop) :
    PySem.Challenge.rw_pb0248_01.prog = PySem.Challenge.rw_pb0248_01.prog →
    Below A₀ base outer h₀ → Fr h₀ L s.heap m → (Mine.kfr w.params).In h₀ → Top p loose mean mg mb h₀ → cs.kind = .function → dp + 4 < recursionLimit → un + 64 < cLine →
    News h₀ L s.heap news → 
    (∀ h' tk' xo dx h1 t1 h2 t2 t2' h3 t3 v3, Fr h₀ L h' m → News h₀ L h' ((xo, instObj 238 dx) :: (dx, dictOf [⟨h1, .str (Str.ofString "tokens") t1, .ref tl⟩, ⟨h2, .str (Str.ofString "at") t2, .int 0 t2'⟩, ⟨h3, .str (Str.ofString "named") t3, v3⟩] 3) :: news) → 
      (∀ p ∈ news, p.1 < dx) → @LT.lt Nat _ dx xo → Q (.ref xo) { s with heap := h', toks := tk' }) →
    wpAny (model PG w) (ktrTop dp un gd cn cs L a ccd cl outer) (call (.ref 238) [.ref tl]) Q E s := by
  w_top off
  k_fill
  intro _ B F X T hk hd hu N hret
  k_dflt (refine' call_cls ?k1 ?k2 ?k3 ?k4 ?k5 ?k6 ?_; (case k1 => k_asm); (case k2 => k_asm); (case k3 => exact N); (case k4 => k_is); (case k5 => k_is); (case k6 => k_is); k_whole)
  intro x' d' h' F1 N1 l1 l2
  have n1 : ∀ p ∈ news, p.1 ≠ d' := fun p hp => Nat.ne_of_lt (l1 p hp)
  have n2 : ∀ p ∈ news, p.1 ≠ x' := fun p hp => Nat.ne_of_lt (Nat.lt_trans (l1 p hp) l2)
  clear F N
  replace l2 : @LT.lt Nat _ d' x' := l2
  k_dflt (refine' code_def ?k1 ?k2 ?k3 ?k4 ?k5 ?kA ?kF ?kK ?k6 ?k7 ?k8 ?k9 ?kB ?_ ?c2 ?c3 ?c4 ?c5; (case kA => exact rfl); (case kF => exact rfl); (case kK => assumption); (case k1 => k_asm); (case k2 => k_asm); (case k3 => k_asm); (case k4 => exact N1); (case k5 => k_asm); (case k6 => k_is); (case k7 => k_is); (case k8 => ktr_room); (case k9 => first | exact BindsTo.of_eq rfl | exact binds_K (by k_in) rfl (by k_is) rfl rfl rfl); (case c5 => decide); (case kB => exact locs rfl); (case c2 => exact rfl); (case c3 => exact rfl); (case c4 => exact rfl); k_whole)
  intro g L' h'' FG F' N' B' X' T'
  try dsimp only
  clear B F1 X T N1
  k_steps
  constructor
  rename Fr g _ _ _ => F9
  rename News g _ _ _ => N9
  refine leaveK_ F9 N9 fun F8 N8 => ?_
  dsimp only [InitBack]
  refine ⟨rfl, ?_⟩
  exact hret _ _ _ _ _ _ _ _ _ _ _ _ F8 (fun p hp => N8 p (List.mem_cons_of_mem _ hp)) l1 l2
end
end
local macro_rules | `(tactic| walk_at $s:str) => if ["exec While BoolOp cons nil", "call ref", "exec Assign cons ListComp", "eval ListComp", "compareOp NotEq ref ref", "exec For Name Call cons nil", "exec For Name Name cons nil", "call builtin:len", "CompSrcT", "compareOp In str ref", "exec Assign cons List", "binaryOp Add ref ref", "CompSrc", "exec For Name Tuple cons nil"].contains s.getString then `(tactic| refine Halt.out ?_) else if s.getString == "subscriptTail Name Slice ref ref" then `(tactic| with_reducible refine Halt.slice ?_) else Lean.Macro.throwUnsupported
section
open PySem.Calls PySem.Spec
def SG (c : String) (t : TK) : Bool := t.1 == Str.ofString "sign" && t.2 == Str.ofString c
/-- what is_part_next looks for behind its first bracket -/
def scan : Nat → List TK → Bool
  | 0, _ => false
  | _ + 1, [] => false
  | d + 1, t :: r => if SG "(" t then scan (d + 2) r else if SG ")" t then scan d r else if d = 0 ∧ SG ":" t then true else scan (d + 1) r
def partNext : List TK → Bool
  | [] => false
  | t :: r => if SG "(" t then scan 1 r else false
/-- the state of the loop at a place -/
def Cond (ts : List TK) (R : Bool) (d i : Nat) : Prop := (R = scan d (ts.drop i) ∧ 0 < d) ∨ (d = 0 ∧ R = partNext (ts.drop i) ∧ isSign ts (Str.ofString "(") i = true)
theorem isSign_at {ts : List TK} {t : TK} {i : Nat} (c : String) (h : ts[i]? = some t) : isSign ts (Str.ofString c) i = SG c t := by simp [isSign, h, SG]
theorem drop_at {ts : List TK} {t : TK} {i : Nat} (h : ts[i]? = some t) : ts.drop i = t :: ts.drop (i + 1) := by
  obtain ⟨h1, h2⟩ := List.getElem?_eq_some_iff.mp h
  rw [List.drop_eq_getElem_cons h1, h2]
theorem step_none {ts : List TK} {R : Bool} {d i : Nat} (c : Cond ts R d i) (h : ts[i]? = none) : R = false := by
  have hd : ts.drop i = [] := List.drop_eq_nil_of_le (by simpa using h)
  rcases c with ⟨c, h1⟩ | ⟨_, c, _⟩
  · rw [c, hd]; cases d with
    | zero => omega
    | succ d => rfl
  · rw [c, hd]; rfl
theorem step_open {ts : List TK} {R : Bool} {d i : Nat} {t : TK} (c : Cond ts R d i) (h : ts[i]? = some t) (h1 : isSign ts (Str.ofString "(") i = true) : R = scan (d + 1) (ts.drop (i + 1)) := by
  rw [isSign_at _ h] at h1
  rcases c with ⟨c, h2⟩ | ⟨h2, c, _⟩
  · cases d with
    | zero => omega
    | succ d => rw [c, drop_at h]; simp [scan, h1]
  · subst h2; rw [c, drop_at h]; simp [partNext, h1]
theorem step_close {ts : List TK} {R : Bool} {d i : Nat} {t : TK} (c : Cond ts R d i) (h : ts[i]? = some t) (h1 : isSign ts (Str.ofString "(") i = false) (h2 : isSign ts (Str.ofString ")") i = true) :
    0 < d ∧ R = scan (d - 1) (ts.drop (i + 1)) := by
  rcases c with ⟨c, h3⟩ | ⟨_, _, h3⟩
  · rw [isSign_at _ h] at h1 h2
    refine ⟨h3, ?_⟩
    cases d with
    | zero => omega
    | succ d => rw [c, drop_at h]; simp [scan, h1, h2]
  · rw [h1] at h3; cases h3
theorem step_colon {ts : List TK} {R : Bool} {d i : Nat} {t : TK} (c : Cond ts R d i) (h : ts[i]? = some t) (h1 : isSign ts (Str.ofString "(") i = false) (h2 : isSign ts (Str.ofString ")") i = false) (hd : d = 1)
    (h4 : isSign ts (Str.ofString ":") i = true) : R = true := by
  rcases c with ⟨c, h3⟩ | ⟨_, _, h3⟩
  · rw [isSign_at _ h] at h1 h2 h4
    subst hd
    rw [c, drop_at h]; simp [scan, h1, h2, h4]
  · rw [h1] at h3; cases h3
theorem step_else {ts : List TK} {R : Bool} {d i : Nat} {t : TK} (c : Cond ts R d i) (h : ts[i]? = some t) (h1 : isSign ts (Str.ofString "(") i = false) (h2 : isSign ts (Str.ofString ")") i = false)
    (h4 : d = 1 → isSign ts (Str.ofString ":") i = false) : 0 < d ∧ R = scan d (ts.drop (i + 1)) := by
  rcases c with ⟨c, h3⟩ | ⟨_, _, h3⟩
  · rw [isSign_at _ h] at h1 h2 h4
    refine ⟨h3, ?_⟩
    cases d with
    | zero => omega
    | succ d => 
      rw [c, drop_at h]
      have : ¬ (d = 0 ∧ SG ":" t = true) := fun ⟨h5, h6⟩ => by rw [h4 (by omega)] at h6; cases h6
      simp only [scan, h1, h2, Bool.false_eq_true, if_false, this]
  · rw [h1] at h3; cases h3
theorem toNat_add (n a : Nat) : ((n : Int) + (a : Int)).toNat = n + a := by omega
def PartInv (s : Shared) (L r : Addr) (ts : List TK) (n : Nat) (k : Nat) (s' : Shared) : Prop := ∃ h₁ tk₁ m₁ d td a ta, s' = { s with heap := h₁, toks := tk₁ } ∧ Fr s.heap L h₁ m₁ ∧ m₁ (Str.ofString "reader") = some (.ref r) ∧ 
    m₁ (Str.ofString "depth") = some (.int (d : Nat) td) ∧ m₁ (Str.ofString "ahead") = some (.int (a : Nat) ta) ∧ n + a ≤ ts.length ∧ k = ts.length - (n + a) ∧ (a = 0 → d = 0) ∧
    partNext (ts.drop n) = (if a = 0 then partNext (ts.drop n) else scan d (ts.drop (n + a)))
theorem PartInv.start {s : Shared} {L r : Addr} {ts : List TK} {n : Nat} {h₁ : Heap} {tk₁ : Nat} {m₁ : Str → Option Value} {td ta : Tok} (F : Fr s.heap L h₁ m₁) (r1 : m₁ (Str.ofString "reader") = some (.ref r))
    (r2 : m₁ (Str.ofString "depth") = some (.int 0 td)) (r3 : m₁ (Str.ofString "ahead") = some (.int 0 ta)) (hn : n ≤ ts.length) : PartInv s L r ts n (ts.length - n) { s with heap := h₁, toks := tk₁ } :=
  ⟨h₁, tk₁, m₁, 0, td, 0, ta, rfl, F, r1, r2, r3, hn, rfl, fun _ => rfl, rfl⟩
theorem PartInv.step {s : Shared} {L r : Addr} {ts : List TK} {n k : Nat} {Q : Flow → Shared → Prop} {h₁ : Heap} {tk₁ : Nat} {m₁ : Str → Option Value} {td ta : Tok} {i j : Int} (d a : Nat) (F : Fr s.heap L h₁ m₁) (r1 : m₁ (Str.ofString "reader") = some (.ref r))
    (r2 : m₁ (Str.ofString "depth") = some (.int i td)) (r3 : m₁ (Str.ofString "ahead") = some (.int j ta)) (hi : i = d) (hj : j = a + 1) (hna : n + a < ts.length) (hk : k = ts.length - (n + a))
    (hs : partNext (ts.drop n) = scan d (ts.drop (n + a + 1))) : BodyEnd (PartInv s L r ts n) k Q .next { s with heap := h₁, toks := tk₁ } :=
  BodyEnd.next ⟨ts.length - (n + (a + 1)), by omega, h₁, tk₁, m₁, d, td, a + 1, ta, rfl, F, r1, hi ▸ r2, by rw [r3, hj]; rfl, hna, rfl, fun h => absurd h (by omega), by rw [if_neg (by omega)]; exact hs⟩
section
variable (w : World) (p : Program) (loose : List Str) (mean : ExcName → Option Value) (mg mb : Str → Option Value)
theorem is_part_pc (r tl : Addr) (as : List Addr) (ts : List TK) (n : Nat) (hn : n ≤ ts.length) :
    PCall w p loose mean mg mb 28 [.ref r] 8 200 (fun h => Rd h r tl as ts (n : Int)) (.bool (partNext (ts.drop n))) := by
  unfold PCall
  w_top off
  k_fill
  intro _ dp un gd cn cs a ccd cl outer A₀ base h₀ L m s Q E B F X T hk hd hu hp hret
  have hp0 := hp
  obtain ⟨⟨dx, ep, h1, t1, h2, t2, t2', h3, t3, v3, hI⟩, hts, hn0, hn1, hlen⟩ := hp
  refine wpAny_call ?_
  k_dflt (refine' code_pure ?k1 ?k2 ?k3 ?k5 ?kA ?kF ?kK ?k6 ?k7 ?k8 ?k9 ?kB ?_ ?c2 ?c3 ?c4 ?c5; (case kA => exact rfl); (case kF => exact rfl); (case kK => assumption); (case k1 => k_asm); (case k2 => k_asm); (case k3 => k_asm); (case k5 => k_asm); (case k6 => k_is); (case k7 => k_is); (case k8 => ktr_room); (case k9 => first | exact BindsTo.of_eq rfl | exact binds_K (by k_in) rfl (by k_is) rfl rfl rfl); (case c5 => decide); (case kB => exact locs rfl); (case c2 => exact rfl); (case c3 => exact rfl); (case c4 => exact rfl); k_whole; intro L' h' F' N' B' X' T'; (try dsimp only))
  clear B F X T
  k_steps
  rename News _ _ _ _ => N0
  clear N0
  constructor
  refine while_use (PartInv s L' r ts n) (PartInv.start (by k_asm) rfl rfl rfl hn) ?_
  rename Fr _ _ _ _ => F0
  clear F0
  rintro k s' ⟨h₁, tk₁, m₁, d, td, a, ta, rfl, F₁, hm1, hm2, hm3, hna, rfl, hda, hsc⟩
  have F := fr_with3 F₁ hm1 hm2 hm3
  have N : News s.heap L' h₁ [] := News.nil
  clear F₁
  have hal := hts.2.1
  k_steps
  iterate 8
    all_goals try (constructor; (first
      | ((with_reducible show wpAny _ _ (call (Value.ref 92) _) _ _ _); (refine' pcall_use ?k1 ?k2 ?k3 ?k4 (peek_pc _ _ _ _ _ _ _ ?tl ?as ?ts ?n _ _ ?d0 ?d1) ?ck ?hd ?hu ?hp ?_; (case hp => exact Rd.keep (by assumption) (Fr.keep (by assumption))); (case k1 => k_asm); (case k2 => k_asm); (case k3 => k_asm); (case k4 => k_asm); (case d0 => omega); (case d1 => omega); (case ck => rfl); (case hd => ktr_room); (case hu => ktr_units); k_whole); intro h' tk' F' st'; (have N' := news_of F'))
      | ((with_reducible show wpAny _ _ (call (Value.ref 186) [_, _, _]) _ _ _); (refine' pcall_use ?k1 ?k2 ?k3 ?k4 (is_sign_pc _ _ _ _ _ _ _ ?tl ?as ?ts ?n _ _ _ _ ?d0 ?d1) ?ck ?hd ?hu ?hp ?_; (case hp => exact Rd.keep (by assumption) (Fr.keep (by assumption))); (case k1 => k_asm); (case k2 => k_asm); (case k3 => k_asm); (case k4 => k_asm); (case d0 => omega); (case d1 => omega); (case ck => rfl); (case hd => ktr_room); (case hu => ktr_units); k_whole); intro h' tk' F' st'; (have N' := news_of F'))
      | ((with_reducible show wpAny _ _ (call (Value.ref 186) [_, _]) _ _ _); (refine' pcall_use ?k1 ?k2 ?k3 ?k4 (is_sign0_pc _ _ _ _ _ _ _ ?tl ?as ?ts ?n _ _) ?ck ?hd ?hu ?hp ?_; (case hp => exact Rd.keep (by assumption) (Fr.keep (by assumption))); (case k1 => k_asm); (case k2 => k_asm); (case k3 => k_asm); (case k4 => k_asm); (case ck => rfl); (case hd => ktr_room); (case hu => ktr_units); k_whole); intro h' tk' F' st'; (have N' := news_of F'))); k_steps)
  all_goals (try simp only [toNat_add] at *)
  iterate 2
    · have hc : Cond ts (partNext (ts.drop n)) d (n + a) := by
        first
        | (refine .inl ⟨?_, by omega⟩; rw [hsc]; split <;> first | rfl | omega)
        | (have ha : a = 0 := by omega
           subst ha
           refine .inr ⟨hda rfl, rfl, ?_⟩
           rename isSign _ _ _ = true => h9
           simpa using h9)
      cases hx : as[n + a]? with
      | none =>
        simp only [Option.elim]
        k_steps
        (refine BodyEnd.ret ?_; dsimp only [PureEnd]; refine pure_end hret (by k_asm) ?_)
        rw [step_none hc (by simp at hx ⊢; omega)]
      | some x =>
        obtain ⟨t, ht⟩ : ∃ t, ts[n + a]? = some t := by
          have := (List.getElem?_eq_some_iff.mp hx).1
          exact ⟨ts[n + a]'(by omega), by simp⟩
        have hlt : n + a < ts.length := (List.getElem?_eq_some_iff.mp ht).1
        simp only [Option.elim]
        k_steps
        iterate 8
          all_goals try (constructor; (first
            | ((with_reducible show wpAny _ _ (call (Value.ref 92) _) _ _ _); (refine' pcall_use ?k1 ?k2 ?k3 ?k4 (peek_pc _ _ _ _ _ _ _ ?tl ?as ?ts ?n _ _ ?d0 ?d1) ?ck ?hd ?hu ?hp ?_; (case hp => exact Rd.keep (by assumption) (Fr.keep (by assumption))); (case k1 => k_asm); (case k2 => k_asm); (case k3 => k_asm); (case k4 => k_asm); (case d0 => omega); (case d1 => omega); (case ck => rfl); (case hd => ktr_room); (case hu => ktr_units); k_whole); intro h' tk' F' st'; (have N' := news_of F'))
            | ((with_reducible show wpAny _ _ (call (Value.ref 186) [_, _, _]) _ _ _); (refine' pcall_use ?k1 ?k2 ?k3 ?k4 (is_sign_pc _ _ _ _ _ _ _ ?tl ?as ?ts ?n _ _ _ _ ?d0 ?d1) ?ck ?hd ?hu ?hp ?_; (case hp => exact Rd.keep (by assumption) (Fr.keep (by assumption))); (case k1 => k_asm); (case k2 => k_asm); (case k3 => k_asm); (case k4 => k_asm); (case d0 => omega); (case d1 => omega); (case ck => rfl); (case hd => ktr_room); (case hu => ktr_units); k_whole); intro h' tk' F' st'; (have N' := news_of F'))
            | ((with_reducible show wpAny _ _ (call (Value.ref 186) [_, _]) _ _ _); (refine' pcall_use ?k1 ?k2 ?k3 ?k4 (is_sign0_pc _ _ _ _ _ _ _ ?tl ?as ?ts ?n _ _) ?ck ?hd ?hu ?hp ?_; (case hp => exact Rd.keep (by assumption) (Fr.keep (by assumption))); (case k1 => k_asm); (case k2 => k_asm); (case k3 => k_asm); (case k4 => k_asm); (case ck => rfl); (case hd => ktr_room); (case hu => ktr_units); k_whole); intro h' tk' F' st'; (have N' := news_of F'))); k_steps)
        all_goals (try simp only [toNat_add] at *)
        all_goals first
          | (rename isSign _ (Str.ofString "(") (n + a) = true => h9
             exact PartInv.step (d + 1) a (by k_asm) rfl rfl rfl (by omega) (by omega) hlt rfl (step_open hc ht h9))
          | (rename isSign _ (Str.ofString ")") (n + a) = true => h9
             rename isSign _ (Str.ofString "(") (n + a) = false => h8
             have hs9 := step_close hc ht h8 h9
             exact PartInv.step (d - 1) a (by k_asm) rfl rfl rfl (by have := hs9.1; omega) (by omega) hlt rfl hs9.2)
          | (rename isSign _ (Str.ofString ":") (n + a) = true => h9
             rename isSign _ (Str.ofString "(") (n + a) = false => h8
             rename isSign _ (Str.ofString ")") (n + a) = false => h7
             (try dsimp only)
             refine BodyEnd.ret ?_; dsimp only [PureEnd]; refine pure_end hret (by k_asm) ?_
             rw [step_colon hc ht h8 h7 (by omega) h9])
          | (rename isSign _ (Str.ofString "(") (n + a) = false => h8
             rename isSign _ (Str.ofString ")") (n + a) = false => h7
             exact PartInv.step d a (by k_asm) rfl rfl rfl (by omega) (by omega) hlt rfl (step_else hc ht h8 h7 (fun hd1 => by first | assumption | (exfalso; omega))).2)
          | (exfalso; omega)
  · (dsimp only [PureEnd]; refine pure_end hret (by k_asm) ?_)
    rename isSign _ _ _ = false => h9
    have h9 : isSign ts (Str.ofString "(") n = false := by simpa using h9
    cases hd9 : ts.drop n with
    | nil => rfl
    | cons t r9 =>
      have ht : ts[n]? = some t := by
        have := congrArg List.head? hd9
        simpa using this
      rw [isSign_at _ ht] at h9
      simp [partNext, h9]
  · (dsimp only [PureEnd]; refine pure_end hret (by k_asm) ?_)
    rw [hsc, if_neg (by omega)]
    obtain rfl : d = 0 := by omega
    simp [scan]
end
end
section
open PySem.Calls PySem.Spec
section
variable {prog : Program} {w : World} {A₀ A : Around} {s : Shared} {base h₀ : Heap} {outer : List Env} {L : Addr} {m mg mb : Str → Option Value} {env : Env} {K : Frag} {p : Program} {loose : List Str} {mean : ExcName → Option Value}
  {R : Result → Shared → Prop} {name qual : Str} {params : Arguments} {body : List Stmt} {scope : Scope} {dV kV doc pm cdv ct oc : Value} {an od : Option Addr} {osl : Array (Option Value)} {f : Addr} {args : Args} {binds : List (Str × Value)}
/-- as code_pure, of a def that keeps cells: they are the ledger -/
theorem code_pureC (B : Below A₀ base outer h₀) (F : Fr h₀ L s.heap m) (X₀ : K.In h₀) (T : Top p loose mean mg mb h₀) (hA : A.frames = some (env :: outer)) (hf : env.frame = some L) (hke : env.scope.kind = .function)
    (ho : K.lookup f = some ⟨oc, od, .func (fnOf name qual params body scope dV kV doc pm an cdv ct), osl⟩) (hcd : codeIn K cdv qual = true) (hroom : A.depth < recursionLimit)
    (hbind : BindsTo s (fnOf name qual params body scope dV kV doc pm an cdv ct) args binds) (hkind : (binds.all fun y => scope.names.lookup y.1 == some .local || scope.names.lookup y.1 == some .cell) = true)
    (hnd : ((cellsFrom 0 scope.names []).map (·.1)).Nodup)
    (h : ∀ L' h₁ tk cells, Fr s.heap L' h₁ (bindL (envOfC qual scope L' f cdv).kindOf binds fun _ => none) → News s.heap L' h₁ cells →
      CellsAre (bindC (envOfC qual scope L' f cdv).kindOf binds fun _ => none) (cellsFrom (L' + 1) scope.names []) cells → Below A base (env :: outer) s.heap → K.In s.heap → Top p loose mean mg mb s.heap →
      wpAny (model prog w) (A.deeper (envOfC qual scope L' f cdv)) (execs body (envOfC qual scope L' f cdv))
        (fun fl s' => PureEnd R (match fl with | .ret v => v | _ => .none) s')
        (fun _ _ => False)
        { s with heap := h₁, toks := tk })
    (hco : scope.isCoroutine = false) (hgen : scope.isGenerator = false) (hk : scope.kind = .function) : codeAny (model prog w) A (.call (.ref f) args) R s := by
  have X := X₀.keeps F.keep
  have T' := T.keeps F.keep
  have B₁ := pushX B F hf hke
  have BG : Below A base (env :: outer) s.heap := ⟨hA, B₁.stays, B₁.frames⟩
  refine codeAny_call_function hroom (X _ _ ho) rfl hco hgen rfl (codeRec_of X hcd) (hbind _ _ _ _ ?_)
  refine wpAny_newFunctionEnv_cells hk (kindsX hkind _) fun env' he s' x => ?_
  subst he
  refine ⟨T'.nolimit.keeps x.toInCall.keep, codeAny_func ?_⟩
  obtain ⟨h₁, tk, rfl, _⟩ := x.done
  have hk₁ := x.toInCall.keep
  obtain ⟨cells, NC, Y⟩ := Cl.news (h₀ := s.heap) (Nat.le_refl _) fun n c hm => ⟨x.cell n c (lookup_of_mem_nodup (cellsFrom_names scope.names 0 (s.heap.objs.size + 1) [] [] rfl ▸ hnd) hm), x.above n c hm⟩
  exact wpAny_mono (h s.heap.objs.size h₁ tk cells ⟨x.toInCall.ns, hk₁, Nat.le_refl _⟩ (fun p hp => ⟨(NC p hp).1, (NC p hp).2.1, (NC p hp).2.2⟩) Y BG X T') (fun fl s' hl => hl) fun _ _ y => y.elim
end
end
section
open PySem.Calls PySem.Spec
theorem name_comp {M : Model} {A : Around} {E : Value → Shared → Prop} {s : Shared} {h₀ : Heap} {C : Addr} {m : Str → Option Value} {scope : Scope} {cl : List (Str × Addr)} {env : Env} {x : Str} {pos : Pos} {v : Value} {Q : Value → Shared → Prop}
    (F : Fr h₀ C s.heap m) (hv : m x = some v) (h : Q v s) (hk : (compEnvC scope cl C env).scope.kind = .function) (hx : (compEnvC scope cl C env).kindOf x = some .local) (hd : (x == ("__debug__" : Str)) = false) :
    wpAny M A (eval (.Name x pos) (compEnvC scope cl C env)) Q E s := wpAny_Name (wpAny_loadName_local hk hx F.ns hv h) hd
theorem fr_comp {h₀ h h' : Heap} {L C : Addr} {m m' : Str → Option Value} (_ : Fr h₀ L h m) (hn : h'.Ns C m') (st : h.StaysIn h') (hC : h.objs.size ≤ C) : Fr h C h' m' := ⟨hn, st, hC⟩
theorem keeps_of {h₀ : Heap} {s : Shared} {C : Addr} {m m' : Str → Option Value} {h' : Heap} {tk : Nat} (k : s.heap.StaysIn h') : Keeps s { s with heap := h', toks := tk } := ⟨h', tk, rfl, k⟩
section
variable {prog : Program} {w : World} {A : Around} {E : Value → Shared → Prop} {s : Shared} {env : Env}
open PyProof.Rows.LCg in
/-- a list of pairs that stand in the base; the element leaves the ledger as it was -/
theorem comp_pairs {elt iter : PySem.Expr} {x y : Str} {px py tp : Pos} {kk : Nat} {scope : Scope} {cl : List (Str × Addr)} {pos : Pos} {Q : Value → Shared → Prop} (hh : A.handled = none)
    (hclos : closureFor scope env = pure cl) (hcell : ∀ y ∈ scope.names, y.2 ≠ .cell) (hkind : scope.kind = .function)
    (hnames : ∀ y ∈ scope.names, y.2 = .local → scope.names.lookup y.1 = some .local) (hx : scope.names.lookup x = some .local) (hy : scope.names.lookup y = some .local)
    (h : wpAny (model prog w) A (eval iter env) (fun xv s₁ => Halt <| ∃ (h₀ : Heap) (L : Addr) (m : Str → Option Value) (news : List (Addr × Obj)) (ax : Addr) (its : Array Value) (k : Nat) (V : Nat → Value → Value → Prop) (G : Nat → Value → Prop), xv = .ref ax ∧ Fr h₀ L s₁.heap m ∧ News h₀ L s₁.heap news ∧
      (ax, ({ cls := .type "list", data := .seq its k } : Obj)) ∈ news ∧ its.size ≤ sizeLine ∧
      (∀ (i : Nat) (v : Value), its[i]? = some v → ∃ (a : Addr) (v₁ v₂ : Value), v = .ref a ∧ h₀.IsTuple a #[v₁, v₂] ∧ V i v₁ v₂) ∧
      (∀ i v₁ v₂ I oI C oC D oD m₂ h tk E', V i v₁ v₂ → NsObj oC m₂ → m₂ x = some v₁ → m₂ y = some v₂ → Fr h₀ L h m → News h₀ L h ((I, oI) :: (C, oC) :: (D, oD) :: news) → 
        wpAny (model prog w) A (eval elt (compEnvC scope cl C env)) (fun y s₄ => Halt (G i y ∧ ∃ h' tk', s₄ = { s₁ with heap := h', toks := tk' } ∧ Fr h₀ L h' m ∧ News h₀ L h' ((I, oI) :: (C, oC) :: (D, oD) :: news))) E' { s₁ with heap := h, toks := tk }) ∧
      (∀ D h' tk (ys : List Value), ys.length = its.size → (∀ (i : Nat) (y : Value), ys[i]? = some y → G i y) → Fr h₀ L h' m → News h₀ L h' ((D, lst ys) :: news) → (∀ p ∈ news, p.1 ≠ D) → Q (.ref D) { s₁ with heap := h', toks := tk })) E s)
    (hxy : x ≠ y)
    (hs : ∀ x, foldedSetIterable iter env x = pure x := by intro _; rfl) :
    wpAny (model prog w) A (eval (.ListComp elt [⟨.Tuple [.Name x px, .Name y py] kk tp, iter, [], 0⟩] scope pos) env) Q E s := by
  rw [eval_ListComp]
  refine wpAny_comprehension_free (use := none) rfl hs hclos hkind hnames (wpAny_mono h (fun xv s₁ h₁ => ?_) fun _ _ e => e)
  obtain ⟨⟨h₀, L, m, news, ax, its, kx, V, G, rfl, F, N, hmx, hsz, hV, helt, hQ⟩⟩ := h₁
  have hl : s₁.heap.IsList ax its := ⟨_, (N _ hmx).1, rfl, _, rfl⟩
  refine wpAny_pyIter_list hl ?_
  refine wpAny_newObj_type (wpAny_newFunctionEnv hcell (by intro y hy; simp at hy) (fun h₁ hns₁ hsb₁ => ?_) hkind)
  have hax : ax < s₁.heap.objs.size := by obtain ⟨_, e, _⟩ := hl; exact Heap.lt_size e
  have hL : L < s₁.heap.objs.size := F.ns.lt
  dsimp only at hns₁ hsb₁ ⊢
  generalize hI : s₁.heap.objs.size = I at *
  generalize hH1 : s₁.heap.push { cls := .type "list_iterator", data := .fields #[.ref ax, .int 0 0] } = H1 at *
  have sz1 : H1.objs.size = I + 1 := by rw [← hH1, Heap.size_push, hI]
  generalize hH2 : H1.push { cls := .type "list", dict := none, data := .seq ([] : List Value).toArray } = H2 at *
  have sz2 : H2.objs.size = I + 2 := by rw [← hH2, Heap.size_push, sz1]
  generalize hC : H2.objs.size = C at *
  generalize hDD : H1.objs.size = DD at *
  subst sz2 sz1
  have lt1 : I < I + 1 := Nat.lt_succ_self I
  have lt2 : I + 1 < I + 2 := Nat.lt_succ_self (I + 1)
  have lt3 : I < I + 2 := Nat.lt_trans lt1 lt2
  have up1 : ∀ b o, s₁.heap.get? b = some o → H1.get? b = some o := fun b o e => hH1 ▸ Heap.get?_push_of_some _ e
  have up2 : ∀ b o, H1.get? b = some o → H2.get? b = some o := fun b o e => hH2 ▸ Heap.get?_push_of_some _ e
  have up : ∀ b o, H2.get? b = some o → h₁.get? b = some o := fun b o e =>
    hsb₁.extBut b o (fun q => by
      have := Heap.lt_size e
      rw [hC, q] at this; exact Nat.lt_irrefl _ this) (Heap.get?_push_of_some _ e)
  have hit₁ : h₁.IsListIter I ax 0 := ⟨_, up _ _ (up2 _ _ (hI ▸ hH1 ▸ Heap.get?_push_size _ rfl)), rfl, rfl⟩
  have hacc₁ : h₁.get? (I + 1) = some (lst []) := up _ _ (hDD ▸ hH2 ▸ Heap.get?_push_size _ rfl)
  have st₁ : s₁.heap.StaysIn h₁ := fun b o e => up _ _ (up2 _ _ (up1 _ _ e))
  have old : ∀ {b o}, s₁.heap.get? b = some o → b < I := fun e => hI ▸ Heap.lt_size e
  have fresh : ∀ a, I ≤ a → h₀.get? a = none := fun a ha => by
    cases e : h₀.get? a with
    | none => rfl
    | some o' => exact absurd (old (F.keep _ _ e)) (Nat.not_lt.mpr ha)
  have offN : ∀ p ∈ news, p.1 < I := fun p hp => old (N p hp).1
  have F₁ : Fr h₀ L h₁ m := F.keeps st₁
  have N₁ : News h₀ L h₁ news := N.grown st₁
  have loop : ∀ s₃ : Shared, s₃ = { s₁ with heap := h₁, toks := s₁.toks + ([] : List (Str × Value)).length } →
      codeAny (model prog w) A (.compLoop (.ListComp elt [⟨.Tuple [.Name x px, .Name y py] kk tp, iter, [], 0⟩] scope pos) 0 (.ref I) (.ref (I + 1)) (compEnvC scope cl (I + 2) env))
        (compPost (model prog w) A E none Q (.ref (I + 1)) (I + 2)) s₃ := by
    rintro s₃ rfl
    refine kcp_loop (fun k s' => ∃ h tk i ys m', s' = { s₁ with heap := h, toks := tk } ∧ i ≤ its.size ∧ k = its.size + 1 - i ∧ ys.length = i ∧ h.IsListIter I ax i ∧ h.get? (I + 1) = some (lst ys) ∧ h.Ns (I + 2) m' ∧
      Fr h₀ L h m ∧ News h₀ L h news ∧ ∀ (j : Nat) (y : Value), ys[j]? = some y → G j y) ?_ (its.size + 1) ⟨h₁, _, 0, [], _, rfl, Nat.zero_le _, rfl, rfl, hit₁, hacc₁, hns₁, F₁, N₁, by simp⟩
    rintro k s' ⟨h, tk, i, ys, m', rfl, hi, rfl, hys, hit, hacc, hn, F₂, N₂, hG⟩
    -- a change at the iterator or at the block's names
    have moves : ∀ {g g' : Heap} {c : Addr}, I ≤ c → Fr h₀ L g m → News h₀ L g news → (∀ b o, b ≠ c → g.get? b = some o → g'.get? b = some o) → Fr h₀ L g' m ∧ News h₀ L g' news := fun {g g' c} hc Fg Ng k =>
      ⟨⟨Fg.ns.at' fun o e => k L o (neN (Nat.ne_of_lt (Nat.lt_of_lt_of_le hL hc))) e, fun b o e => k b o (neN (Nat.ne_of_lt (Nat.lt_of_lt_of_le (old (F.keep _ _ e)) hc))) (Fg.keep b o e), Fg.above⟩,
        fun p hp => ⟨k _ _ (neN (Nat.ne_of_lt (Nat.lt_of_lt_of_le (offN p hp) hc))) (Ng p hp).1, (Ng p hp).2⟩⟩
    have hl' : h.IsList ax its := ⟨_, (N₂ _ hmx).1, rfl, _, rfl⟩
    by_cases hlt : i < its.size
    · obtain ⟨a, v₁, v₂, hv, ht, hVi⟩ := hV i its[i] (by simp [hlt])
      refine wpAny_pyNext_list_item hit hl' (x := its[i]) (by simp [hlt]) fun h' hit' hs' => ?_
      obtain ⟨F₃, N₃⟩ := moves (Nat.le_refl I) F₂ N₂ hs'.extBut
      have hn' : h'.Ns (I + 2) m' := hn.sameBut hs' (neN (Nat.ne_of_gt lt3))
      have hacc' : h'.get? (I + 1) = some (lst ys) := hs'.extBut _ _ (neN (Nat.ne_of_gt lt1)) hacc
      rw [hv]
      refine wpAny_letOwnedTupleGo_listiter hit' ?_
      have ht' : h'.IsTuple a #[v₁, v₂] := by obtain ⟨o, e, r⟩ := ht; exact ⟨o, F₃.keep _ _ e, r⟩
      refine kcp_assign hh ht' (lookup_relabel_local hx) (lookup_relabel_local hy) (by simp [compEnvC, relabel, hkind]) (m := m') hn' fun h₂ tk₂ hn₂ k₂ => ?_
      obtain ⟨F₄, N₄⟩ := moves (Nat.le_of_lt lt3) F₃ N₃ k₂
      have hit₂ : h₂.IsListIter I ax (i + 1) := hit'.at fun o e => k₂ _ o (neN (Nat.ne_of_lt lt3)) e
      have hacc₂ : h₂.get? (I + 1) = some (lst ys) := k₂ _ _ (neN (Nat.ne_of_lt lt2)) hacc'
      obtain ⟨oI, heI, hI2, hI3⟩ := hit₂
      obtain ⟨oC, heC, hoC⟩ := ns_obj hn₂
      have N₅ : News h₀ L h₂ ((I, oI) :: (I + 2, oC) :: (I + 1, lst ys) :: news) := fun p hp => by
        rcases List.mem_cons.mp hp with rfl | hp
        · exact ⟨heI, neN (Nat.ne_of_gt hL), fresh _ (Nat.le_refl I)⟩
        · rcases List.mem_cons.mp hp with rfl | hp
          · exact ⟨heC, neN (Nat.ne_of_gt (Nat.lt_trans hL lt3)), fresh _ (Nat.le_of_lt lt3)⟩
          · rcases List.mem_cons.mp hp with rfl | hp
            · exact ⟨hacc₂, neN (Nat.ne_of_gt (Nat.lt_trans hL lt1)), fresh _ (Nat.le_of_lt lt1)⟩
            · exact N₄ p hp
      refine wpAny_mono (helt i v₁ v₂ I oI (I + 2) oC (I + 1) (lst ys) _ h₂ _ _ hVi hoC (by simp [hxy]) (by simp) F₄ N₅) (fun z s₄ h₄ => ?_) fun _ _ e => e
      obtain ⟨hGz, h₃, tk₃, rfl, F₆, N₆⟩ := h₄.out
      have zI := (N₆ (I, oI) List.mem_cons_self).1
      have zC := (N₆ (I + 2, oC) (List.mem_cons_of_mem _ List.mem_cons_self)).1
      have zD := (N₆ (I + 1, lst ys) (List.mem_cons_of_mem _ (List.mem_cons_of_mem _ List.mem_cons_self))).1
      have N₇ : News h₀ L h₃ news := fun p hp => N₆ p (List.mem_cons_of_mem _ (List.mem_cons_of_mem _ (List.mem_cons_of_mem _ hp)))
      refine append_at (hsz := by show ys.toArray.size ≤ sizeLine; rw [List.size_toArray]; omega) zD fun h₅ hs₅ hl₅ => ?_
      obtain ⟨F₈, N₈⟩ := moves (Nat.le_of_lt lt1) F₆ N₇ hs₅.extBut
      refine ⟨its.size + 1 - (i + 1), by omega, h₅, tk₃, i + 1, ys ++ [z], _, rfl, hlt, rfl, by simp [hys], ⟨oI, hs₅.extBut _ _ (neN (Nat.ne_of_lt lt1)) zI, hI2, hI3⟩, hl₅.trans (congrArg some (lst_snoc ys z)), (hoC.ns zC).sameBut hs₅ (neN (Nat.ne_of_gt lt2)), F₈, N₈, fun j q hj => ?_⟩
      by_cases hji : j < i
      · exact hG j q (by rwa [List.getElem?_append_left (by omega)] at hj)
      · rw [List.getElem?_append_right (by omega)] at hj
        have : j - ys.length = 0 := by
          rcases Nat.eq_zero_or_pos (j - ys.length) with h | h
          · exact h
          · rw [List.getElem?_eq_none (by simp; omega)] at hj; cases hj
        obtain rfl : j = i := by omega
        rw [this] at hj
        cases hj; exact hGz
    · obtain rfl : i = its.size := by omega
      refine wpAny_pyNext_list_end hh hit hl' (by simp) fun h' he' => ?_
      obtain ⟨F₃, N₃⟩ := moves (Nat.le_refl I) F₂ N₂ he'
      have hD' := he' _ _ (neN (Nat.ne_of_gt lt1)) hacc
      refine ⟨m', hn.extBut he' (neN (Nat.ne_of_gt lt3)), fun h'' hs'' => ?_⟩
      obtain ⟨F₄, N₄⟩ := moves (Nat.le_of_lt lt3) F₃ N₃ hs''.extBut
      refine hQ (I + 1) h'' tk ys hys hG F₄ (fun p hp => ?_) fun p hp => neN (Nat.ne_of_lt (Nat.lt_trans (offN p hp) lt1))
      rcases List.mem_cons.mp hp with rfl | hp
      · exact ⟨hs''.extBut _ _ (neN (Nat.ne_of_lt lt2)) hD', neN (Nat.ne_of_gt (Nat.lt_trans hL lt1)), fresh _ (Nat.le_of_lt lt1)⟩
      · exact N₄ p hp
  exact codeAny_compStart_list (loop _ rfl) (wpAny_pyIter_listiter hit₁ (loop _ rfl))
end
end
section
open PySem.Calls PySem.Spec PyProof.Rows.LCg
section
variable {prog : Program} {w : World} {A : Around} {E : Value → Shared → Prop} {s : Shared} {env : Env} {h₀ : Heap}
/-- how a turn of a for ends -/
structure ForEnd (h₀ : Heap) (L I : Addr) (oI : Obj) (J : (Str → Option Value) → List (Addr × Obj) → Prop) (s : Shared) (Q : Flow → Shared → Prop) (f : Flow) (s₂ : Shared) : Prop where
  out : match f with
    | .next | .cont => ∃ h' tk m' news', s₂ = { s with heap := h', toks := tk } ∧ Fr h₀ L h' m' ∧ News h₀ L h' ((I, oI) :: news') ∧ (∀ p ∈ news', p.1 ≠ I) ∧ J m' news'
    | .brk => Q .next s₂
    | .ret v => Q (.ret v) s₂
theorem ForEnd.next {L I : Addr} {oI : Obj} {J : (Str → Option Value) → List (Addr × Obj) → Prop} {Q : Flow → Shared → Prop} {h' : Heap} {tk : Nat} {m' : Str → Option Value} {all : List (Addr × Obj)} (news' : List (Addr × Obj)) (F : Fr h₀ L h' m') (N : News h₀ L h' all)
    (hs : ∀ p ∈ (I, oI) :: news', p ∈ all) (hn : ∀ p ∈ news', p.1 ≠ I) (hj : J m' news') : ForEnd h₀ L I oI J s Q .next { s with heap := h', toks := tk } := ⟨⟨h', tk, m', news', rfl, F, fun p hp => N p (hs p hp), hn, hj⟩⟩
theorem ForEnd.brk {L I : Addr} {oI : Obj} {J : (Str → Option Value) → List (Addr × Obj) → Prop} {Q : Flow → Shared → Prop} {s₂ : Shared} (h : Q .next s₂) : ForEnd h₀ L I oI J s Q .brk s₂ := ⟨h⟩
theorem ForEnd.ret {L I : Addr} {oI : Obj} {J : (Str → Option Value) → List (Addr × Obj) → Prop} {Q : Flow → Shared → Prop} {s₂ : Shared} {v : Value} (h : Q (.ret v) s₂) : ForEnd h₀ L I oI J s Q (.ret v) s₂ := ⟨h⟩
theorem for_block {x : Str} {px : Pos} {body : List Stmt} {I : Addr} {fp : List Addr} {n : Nat} {P : Nat → Value → Prop} {St : Nat → Heap → Prop} {S : List (Addr × Obj) → Prop} {m : Str → Option Value} {news : List (Addr × Obj)} {Q : Flow → Shared → Prop}
    (J : Nat → (Str → Option Value) → List (Addr × Obj) → Prop)
    (W : Walks prog w A I fp [I] n P St) (hIo : ∀ i h, St i h → ∃ o, h.get? I = some o)
    (hSt : ∀ i h h' o nw, St i h → h.get? I = some o → h'.get? I = some o → (∀ b o, h₀.get? b = some o → h'.get? b = some o) → News h₀ env.locals h' nw → S nw → St i h')
    (hS : ∀ i m' nw, J i m' nw → S nw)
    (hx : env.kindOf x = some .local) (hp : (env.scope.kind == .class || (env.scope.kind == .module && env.locals != env.globals)) = false)
    (hst : St 0 s.heap) (F : Fr h₀ env.locals s.heap m) (N : News h₀ env.locals s.heap news) (hIL : env.locals ≠ I) (hLf : env.locals ∉ fp) (hI₀ : h₀.get? I = none) (off : ∀ p ∈ news, p.1 ≠ I) (h0 : J 0 m news)
    (turn : ∀ i v m₁ news₁ oI h tk, i < n → P i v → J i m₁ news₁ → Fr h₀ env.locals h (fun y => if y = x then some v else m₁ y) → News h₀ env.locals h ((I, oI) :: news₁) → (∀ p ∈ news₁, p.1 ≠ I) →
      wpAny (model prog w) A (execs body env) (ForEnd h₀ env.locals I oI (J (i + 1)) { s with heap := h, toks := tk } Q) E { s with heap := h, toks := tk })
    (done : ∀ m₁ news₁ h tk, J n m₁ news₁ → Fr h₀ env.locals h m₁ → News h₀ env.locals h news₁ → Q .next { s with heap := h, toks := tk })
    (hE : PassesOwn (model prog w) A env E) :
    codeAny (model prog w) A (.forLoop (.Name x px) (.ref I) body [] env) (fun r s' => match r with | .ok f => Q f s' | .error e => cameBackBy (model prog w) A env E e s') s := by
  refine codeAny_forLoop (fun k s' => ∃ h tk i m₁ news₁, s' = { s with heap := h, toks := tk } ∧ i ≤ n ∧ k = n + 1 - i ∧ St i h ∧ Fr h₀ env.locals h m₁ ∧ News h₀ env.locals h news₁ ∧ (∀ p ∈ news₁, p.1 ≠ I) ∧ J i m₁ news₁) ?_ (n + 1)
    ⟨s.heap, s.toks, 0, m, news, rfl, Nat.zero_le _, rfl, hst, F, N, off, h0⟩
  rintro k s' ⟨h, tk, i, m₁, news₁, rfl, hi, rfl, st, F₁, N₁, off₁, hJ⟩
  by_cases hlt : i < n
  · refine W.item i _ _ _ hlt st fun v h₁ tk₁ hPv st₁ k₁ => ?_
    have F₂ : Fr h₀ env.locals h₁ m₁ := fr_but F₁ k₁ hIL hI₀
    have N₂ : News h₀ env.locals h₁ news₁ := news_but N₁ k₁ off₁
    refine wpAny_assign_Name (wpAny_storeName_local hx F₂.ns (fun h₂ hn₂ hs₂ => ?_) hp)
    have st₂ : St (i + 1) h₂ := W.frame _ _ _ st₁ fun b hb o e => hs₂.extBut b o (fun q => hLf (q ▸ hb)) e
    obtain ⟨oI, heI⟩ := hIo _ _ st₂
    have F₃ := F₂.set hn₂ hs₂
    have N₃ : News h₀ env.locals h₂ ((I, oI) :: news₁) := fun p hp => by
      rcases List.mem_cons.mp hp with rfl | hp
      · exact ⟨heI, Ne.symm hIL, hI₀⟩
      · exact (N₂.set hs₂) p hp
    refine wpAny_mono (turn i v m₁ news₁ oI h₂ _ hlt hPv hJ F₃ N₃ off₁) (fun f s₃ h₃ => ?_) hE
    have h₄ := h₃.out
    have fin : (∃ h' tk m' news', s₃ = { s with heap := h', toks := tk } ∧ Fr h₀ env.locals h' m' ∧ News h₀ env.locals h' ((I, oI) :: news') ∧ (∀ p ∈ news', p.1 ≠ I) ∧ J (i + 1) m' news') →
        ∃ k', k' < n + 1 - i ∧ ∃ h tk i m₁ news₁, s₃ = { s with heap := h, toks := tk } ∧ i ≤ n ∧ k' = n + 1 - i ∧ St i h ∧ Fr h₀ env.locals h m₁ ∧ News h₀ env.locals h news₁ ∧ (∀ p ∈ news₁, p.1 ≠ I) ∧ J i m₁ news₁ := by
      rintro ⟨h', tk', m', news', rfl, F₅, N₅, off₅, hJ₅⟩
      have N₆ : News h₀ env.locals h' news' := fun p hp => N₅ p (List.mem_cons_of_mem _ hp)
      exact ⟨n + 1 - (i + 1), by omega, h', tk', i + 1, m', news', rfl, hlt, rfl, hSt _ _ _ _ _ st₂ heI (N₅ _ List.mem_cons_self).1 F₅.keep N₆ (hS _ _ _ hJ₅), F₅, N₆, off₅, hJ₅⟩
    cases f with
    | next => exact fin h₄
    | cont => exact fin h₄
    | brk => exact h₄
    | ret v => exact h₄
  · obtain rfl : i = n := by omega
    refine W.done _ _ _ st fun h₁ tk₁ k₁ => ?_
    exact wpAny_execs_nil (done m₁ news₁ h₁ tk₁ hJ (fr_but F₁ k₁ hIL hI₀) (news_but N₁ k₁ off₁))
/-- for over a range by ones -/
theorem for_range {x : Str} {px pos : Pos} {iter : PySem.Expr} {body : List Stmt} {Q : Flow → Shared → Prop}
    (hx : env.kindOf x = some .local) (hp : (env.scope.kind == .class || (env.scope.kind == .module && env.locals != env.globals)) = false) (hh : A.handled = none)
    (h : wpAny (model prog w) A (eval iter env) (fun xv s₁ => Halt <| ∃ (r : Addr) (a b : Int) (t u v : Tok) (n : Nat) (m : Str → Option Value) (news : List (Addr × Obj)) (J : Nat → (Str → Option Value) → List (Addr × Obj) → Prop), xv = .ref r ∧
      Fr h₀ env.locals s₁.heap m ∧ News h₀ env.locals s₁.heap news ∧ IsRange s₁.heap r a b 1 t u v ∧ Builtin.Range.small a b 1 = true ∧ Builtin.Range.rangeSize a b 1 = ((n : Nat) : Int) ∧ J 0 m news ∧
      (∀ i m₁ news₁ t I oI h tk, i < n → J i m₁ news₁ → Fr h₀ env.locals h (fun y => if y = x then some (.int (a + (i : Nat)) t) else m₁ y) → News h₀ env.locals h ((I, oI) :: news₁) → (∀ p ∈ news₁, p.1 ≠ I) →
        wpAny (model prog w) A (execs body env) (ForEnd h₀ env.locals I oI (J (i + 1)) { s₁ with heap := h, toks := tk } Q) E { s₁ with heap := h, toks := tk }) ∧
      (∀ m₁ news₁ h tk, J n m₁ news₁ → Fr h₀ env.locals h m₁ → News h₀ env.locals h news₁ → Q .next { s₁ with heap := h, toks := tk })) E s)
    (hs : ∀ x, foldedSetIterable iter env x = pure x := by intro _; rfl)
    (hE : PassesOwn (model prog w) A env E := by passes_own) :
    wpAny (model prog w) A (exec (.For (.Name x px) iter body [] pos) env) Q E s := by
  refine wpAny_For (wpAny_mono h (fun xv s₁ h₁ => ?_) fun _ _ e => e) hs
  obtain ⟨⟨r, a, b, t, u, v, n, m, news, J, rfl, F, N, hr, hsm, hn, h0, turn, done⟩⟩ := h₁
  refine wpAny_pyIter_range hr hsm ?_
  refine for_block (S := fun _ => True) (m := m) (news := news) J (range_walks hh a n) (fun i h st => ⟨_, st⟩) range_st (fun _ _ _ _ => trivial) hx hp (by show IsRangeIter _ _ _ _ _; rw [hn]; simpa using Heap.get?_push_size _ rfl)
    (F.keeps fun _ _ e => Heap.get?_push_of_some _ e) (N.grown fun _ _ e => Heap.get?_push_of_some _ e) (Nat.ne_of_lt F.ns.lt) (fun hm => Nat.ne_of_lt F.ns.lt (List.mem_singleton.mp hm)) (next_is_new F) (fun p hp => Nat.ne_of_lt (Heap.lt_size (N p hp).1)) h0 ?_ ?_ hE
  · rintro i v m₁ news₁ oI h tk hi ⟨t, rfl⟩ hJ F₁ N₁ off
    exact turn i m₁ news₁ t _ oI h tk hi hJ F₁ N₁ off
  · intro m₁ news₁ h tk hJ F₁ N₁
    exact done m₁ news₁ h tk hJ F₁ N₁
/-- for over a list, of the base or of the ledger -/
theorem for_list {x : Str} {px pos : Pos} {iter : PySem.Expr} {body : List Stmt} {Q : Flow → Shared → Prop}
    (hx : env.kindOf x = some .local) (hp : (env.scope.kind == .class || (env.scope.kind == .module && env.locals != env.globals)) = false) (hh : A.handled = none)
    (h : wpAny (model prog w) A (eval iter env) (fun xv s₁ => Halt <| ∃ (ax : Addr) (its : Array Value) (m : Str → Option Value) (news : List (Addr × Obj)) (J : Nat → (Str → Option Value) → List (Addr × Obj) → Prop), xv = .ref ax ∧
      Fr h₀ env.locals s₁.heap m ∧ News h₀ env.locals s₁.heap news ∧ (∀ i m' nw, J i m' nw → SrcAt h₀ ax its nw) ∧ J 0 m news ∧
      (∀ i v m₁ news₁ I oI h tk, i < its.size → its[i]? = some v → J i m₁ news₁ → Fr h₀ env.locals h (fun y => if y = x then some v else m₁ y) → News h₀ env.locals h ((I, oI) :: news₁) → (∀ p ∈ news₁, p.1 ≠ I) →
        wpAny (model prog w) A (execs body env) (ForEnd h₀ env.locals I oI (J (i + 1)) { s₁ with heap := h, toks := tk } Q) E { s₁ with heap := h, toks := tk }) ∧
      (∀ m₁ news₁ h tk, J its.size m₁ news₁ → Fr h₀ env.locals h m₁ → News h₀ env.locals h news₁ → Q .next { s₁ with heap := h, toks := tk })) E s)
    (hs : ∀ x, foldedSetIterable iter env x = pure x := by intro _; rfl)
    (hE : PassesOwn (model prog w) A env E := by passes_own) :
    wpAny (model prog w) A (exec (.For (.Name x px) iter body [] pos) env) Q E s := by
  refine wpAny_For (wpAny_mono h (fun xv s₁ h₁ => ?_) fun _ _ e => e) hs
  obtain ⟨⟨ax, its, m, news, J, rfl, F, N, hS, h0, turn, done⟩⟩ := h₁
  have hl := (hS _ _ _ h0).list F.keep N
  have hlt : ax < s₁.heap.objs.size := by obtain ⟨_, e, _⟩ := hl; exact Heap.lt_size e
  have hLx : env.locals ≠ ax := fun q => by
    obtain ⟨o, es, ep, ho, hd, _⟩ := F.ns
    obtain ⟨o', ho', _, n', hd'⟩ := hl
    rw [q, ho'] at ho; cases ho; rw [hd'] at hd; cases hd
  refine wpAny_pyIter_list hl ?_
  have up : ∀ b o, s₁.heap.get? b = some o → (s₁.heap.push { cls := .type "list_iterator", data := .fields #[.ref ax, .int 0 0] }).get? b = some o := fun b o e => Heap.get?_push_of_some _ e
  refine for_block (S := SrcAt h₀ ax its) (m := m) (news := news) J (Walks.list hh s₁.heap.objs.size ax (Nat.ne_of_lt hlt) its) (fun i h st => by obtain ⟨o, e, _⟩ := st.1; exact ⟨o, e⟩) list_st hS hx hp ⟨⟨_, Heap.get?_push_size _ rfl, rfl, rfl⟩, hl.push _⟩
    (F.keeps up) (N.grown up) (Nat.ne_of_lt F.ns.lt) (fun hm => ?_) (next_is_new F) (fun p hp => Nat.ne_of_lt (Heap.lt_size (N p hp).1)) h0 ?_ ?_ hE
  · rcases List.mem_cons.mp hm with e | hm
    · exact Nat.ne_of_lt F.ns.lt e
    · exact hLx (List.mem_singleton.mp hm)
  · intro i v m₁ news₁ oI h tk hi hPv hJ F₁ N₁ off
    exact turn i v m₁ news₁ _ oI h tk hi hPv hJ F₁ N₁ off
  · intro m₁ news₁ h tk hJ F₁ N₁
    exact done m₁ news₁ h tk hJ F₁ N₁
end
end
section
open PySem.Calls PySem.Spec PyProof.Rows.LCg PyProof.Rows.LCt
section
variable {prog : Program} {w : World} {A : Around} {E : Value → Shared → Prop} {s : Shared} {env : Env} {h₀ : Heap} {L : Addr} {m : Str → Option Value}
/-- the end of an element: the ledger stands as it stood -/
def EltEnd (h₀ : Heap) (L : Addr) (m : Str → Option Value) (s : Shared) (I : Addr) (oI : Obj) (C : Addr) (oC : Obj) (D : Addr) (oD : Obj) (news : List (Addr × Obj)) (J : Value → Prop) (y : Value) (s₂ : Shared) : Prop :=
  Halt (∃ h' tk, s₂ = { s with heap := h', toks := tk } ∧ Fr h₀ L h' m ∧ News h₀ L h' ((I, oI) :: (C, oC) :: (D, oD) :: news) ∧ J y)
theorem EltEnd.mk {I : Addr} {oI : Obj} {C : Addr} {oC : Obj} {D : Addr} {oD : Obj} {news all : List (Addr × Obj)} {J : Value → Prop} {y : Value} {h' : Heap} {tk : Nat} (F : Fr h₀ L h' m) (N : News h₀ L h' all) (sub : ∀ p ∈ (I, oI) :: (C, oC) :: (D, oD) :: news, p ∈ all) (hj : J y) :
    EltEnd h₀ L m s I oI C oC D oD news J y { s with heap := h', toks := tk } := ⟨⟨h', tk, rfl, F, fun p hp => N p (sub p hp), hj⟩⟩
/-- a comprehension with a test that leaves the ledger, by what holds of the values made so far -/
theorem compT_ind {ct elt : PySem.Expr} {x : Str} {scope : Scope} {cl : List (Str × Addr)} {S : List (Addr × Obj) → Prop} {P : Nat → Value → Prop} {Fin : List Value → List (Addr × Obj) → Prop} {news : List (Addr × Obj)} {N : Nat}
    (Inv : Nat → List Value → Prop) (hS : S news) (h0 : Inv 0 []) (fin : ∀ ys, Inv N ys → Fin ys news)
    (step : ∀ i ys, i < N → Inv i ys → ∀ v I oI C oC D m₂ h tk (E' : Value → Shared → Prop), P i v → NsObj oC m₂ → m₂ x = some v → Fr h₀ L h m → News h₀ L h ((I, oI) :: (C, oC) :: (D, lst ys) :: news) → Off3 I C D news → ((@Ne Nat I C) ∧ (@Ne Nat I D) ∧ (@Ne Nat C D)) →
      wpAny (model prog w) A (isTrue ct (compEnvC scope cl C env) (eval ct (compEnvC scope cl C env))) (fun ok s' => if ok = true then
        wpAny (model prog w) A (eval elt (compEnvC scope cl C env)) (EltEnd h₀ L m { s with heap := h, toks := tk } I oI C oC D (lst ys) news (fun y => Inv (i + 1) (ys ++ [y]))) E' s'
        else EltEnd h₀ L m { s with heap := h, toks := tk } I oI C oC D (lst ys) news (fun _ => Inv (i + 1) ys) Value.none s') E' { s with heap := h, toks := tk }) :
    CompRestT prog w A h₀ L m env ct elt x scope cl s S P Fin N 0 [] news := by
  have all : ∀ k i ys, i + k = N → Inv i ys → CompRestT prog w A h₀ L m env ct elt x scope cl s S P Fin k i ys news := by
    intro k
    induction k with
    | zero =>
      intro i ys hi hI
      have : i = N := by omega
      subst this
      exact CompRestT.zero (fin ys hI)
    | succ k ih =>
      intro i ys hi hI
      refine CompRestT.succ fun v I oI C oC D m₂ h tk E' hP hC hx F N off ne => ?_
      refine wpAny_mono (step i ys (by omega) hI v I oI C oC D m₂ h tk E' hP hC hx F N off ne) (fun ok s' h' => ?_) fun _ _ e => e
      cases ok with
      | true =>
        simp only [if_true] at h' ⊢
        refine wpAny_mono h' (fun y s₂ h₂ => ?_) fun _ _ e => e
        obtain ⟨h3, tk3, rfl, F3, N3, hj⟩ := h₂.out
        exact CompEnd.intro F3 N3 news (fun p hp => hp) off hS (ih (i + 1) _ (by omega) hj)
      | false =>
        simp only [Bool.false_eq_true, if_false] at h' ⊢
        obtain ⟨h3, tk3, rfl, F3, N3, hj⟩ := h'.out
        exact CompEnd.intro F3 N3 news (fun p hp => hp) off hS (ih (i + 1) _ (by omega) hj)
  exact all N 0 [] (by omega) h0
/-- the end of an element that may add to the ledger or change it -/
def EltEndN (h₀ : Heap) (L : Addr) (m : Str → Option Value) (s : Shared) (I : Addr) (oI : Obj) (C : Addr) (oC : Obj) (D : Addr) (oD : Obj) (J : Value → List (Addr × Obj) → Prop) (y : Value) (s₂ : Shared) : Prop :=
  Halt (∃ h' tk news', s₂ = { s with heap := h', toks := tk } ∧ Fr h₀ L h' m ∧ News h₀ L h' ((I, oI) :: (C, oC) :: (D, oD) :: news') ∧ Off3 I C D news' ∧ J y news')
theorem EltEndN.mk {I : Addr} {oI : Obj} {C : Addr} {oC : Obj} {D : Addr} {oD : Obj} {all : List (Addr × Obj)} {J : Value → List (Addr × Obj) → Prop} {y : Value} {h' : Heap} {tk : Nat} (news' : List (Addr × Obj)) (F : Fr h₀ L h' m) (N : News h₀ L h' all) (sub : ∀ p ∈ (I, oI) :: (C, oC) :: (D, oD) :: news', p ∈ all) (off : Off3 I C D news') (hj : J y news') :
    EltEndN h₀ L m s I oI C oC D oD J y { s with heap := h', toks := tk } := ⟨⟨h', tk, news', rfl, F, fun p hp => N p (sub p hp), off, hj⟩⟩
theorem compU_ind {elt : PySem.Expr} {x : Str} {scope : Scope} {cl : List (Str × Addr)} {S : List (Addr × Obj) → Prop} {P : Nat → Value → Prop} {Fin : List Value → List (Addr × Obj) → Prop} {news : List (Addr × Obj)} {N : Nat}
    (Inv : Nat → List Value → List (Addr × Obj) → Prop) (hS : ∀ i ys nw, Inv i ys nw → S nw) (h0 : Inv 0 [] news) (fin : ∀ ys nw, Inv N ys nw → Fin ys nw)
    (step : ∀ i ys nw, i < N → Inv i ys nw → ∀ v I oI C oC D m₂ h tk (E' : Value → Shared → Prop), P i v → NsObj oC m₂ → m₂ x = some v → Fr h₀ L h m → News h₀ L h ((I, oI) :: (C, oC) :: (D, lst ys) :: nw) → Off3 I C D nw → ((@Ne Nat I C) ∧ (@Ne Nat I D) ∧ (@Ne Nat C D)) →
      wpAny (model prog w) A (eval elt (compEnvC scope cl C env)) (EltEndN h₀ L m { s with heap := h, toks := tk } I oI C oC D (lst ys) (fun y nw' => Inv (i + 1) (ys ++ [y]) nw')) E' { s with heap := h, toks := tk }) :
    CompRest prog w A h₀ L m env elt x scope cl s S P Fin N 0 [] news := by
  have all : ∀ k i ys nw, i + k = N → Inv i ys nw → CompRest prog w A h₀ L m env elt x scope cl s S P Fin k i ys nw := by
    intro k
    induction k with
    | zero =>
      intro i ys nw hi hI
      have : i = N := by omega
      subst this
      exact CompRest.zero (fin ys nw hI)
    | succ k ih =>
      intro i ys nw hi hI
      refine CompRest.succ fun v I oI C oC D m₂ h tk E' hP hC hx F N off ne => ?_
      refine wpAny_mono (step i ys nw (by omega) hI v I oI C oC D m₂ h tk E' hP hC hx F N off ne) (fun y s₂ h₂ => ?_) fun _ _ e => e
      obtain ⟨h3, tk3, nw', rfl, F3, N3, off3, hj⟩ := h₂.out
      exact CompEnd.intro F3 N3 nw' (fun p hp => hp) off3 (hS _ _ _ hj) (ih (i + 1) _ nw' (by omega) hj)
  exact all N 0 [] news (by omega) h0
theorem add_lists2 {l b : Addr} {its its2 : Array Value} {news : List (Addr × Obj)} {Q : Value → Shared → Prop} (F : Fr h₀ L s.heap m) (N : News h₀ L s.heap news) (hl : s.heap.IsList l its) (hb : s.heap.IsList b its2)
    (h : ∀ D h', Fr h₀ L h' m → News h₀ L h' ((D, ({ cls := .type "list", data := .seq (its.toList ++ its2.toList).toArray } : Obj)) :: news) → (∀ p ∈ news, p.1 < D) → Q (.ref D) { s with heap := h' })
    (hsz : its.size + its2.size ≤ sizeLine) :
    wpAny (model prog w) A (binaryOp .Add (.ref l) (.ref b)) Q E s :=
  add_arrays F N hl hb (fun h' F' N' => h _ h' F' N' fun p hp => Heap.lt_size (N p hp).1) hsz
theorem news1 {h : Heap} {a : Addr × Obj} {all : List (Addr × Obj)} (N : News h₀ L h all) (h1 : a ∈ all) : News h₀ L h [a] := fun p hp => by
  rw [List.mem_singleton.mp hp]; exact N _ h1
theorem news_cons {h : Heap} {a : Addr × Obj} {all r : List (Addr × Obj)} (N : News h₀ L h all) (h1 : a ∈ all) (h2 : News h₀ L h r) : News h₀ L h (a :: r) := fun p hp => by
  rcases List.mem_cons.mp hp with rfl | hp
  · exact N _ h1
  · exact h2 p hp
theorem news2 {h : Heap} {a b : Addr × Obj} {all : List (Addr × Obj)} (N : News h₀ L h all) (h1 : a ∈ all) (h2 : b ∈ all) : News h₀ L h [a, b] := news_cons N h1 (news1 N h2)
theorem news3 {h : Heap} {a b c : Addr × Obj} {all : List (Addr × Obj)} (N : News h₀ L h all) (h1 : a ∈ all) (h2 : b ∈ all) (h3 : c ∈ all) : News h₀ L h [a, b, c] := news_cons N h1 (news2 N h2 h3)
theorem ForEnd.next3 {I : Addr} {oI : Obj} {a c : Addr × Obj} {J : (Str → Option Value) → List (Addr × Obj) → Prop} {Q : Flow → Shared → Prop} {h' : Heap} {tk : Nat} {m' : Str → Option Value} (F : Fr h₀ L h' m') (N : News h₀ L h' [a, (I, oI), c])
    (h1 : a.1 ≠ I) (h2 : c.1 ≠ I) (hj : J m' [a, c]) : ForEnd h₀ L I oI J s Q .next { s with heap := h', toks := tk } :=
  ForEnd.next [a, c] F N (fun p hp => by
    rcases List.mem_cons.mp hp with rfl | hp
    · exact List.mem_cons_of_mem _ List.mem_cons_self
    · rcases List.mem_cons.mp hp with rfl | hp
      · exact List.mem_cons_self
      · exact List.mem_cons_of_mem _ (List.mem_cons_of_mem _ hp)) (fun p hp => by
    rcases List.mem_cons.mp hp with rfl | hp
    · exact h1
    · rw [List.mem_singleton.mp hp]; exact h2) hj
end
end
section
def lO : Str := Str.ofString "("
def lC : Str := Str.ofString ")"
def lK : Str := Str.ofString ":"
def lX : Str := Str.ofString "x"
/-- the tokens that the law makes -/
def Tab : List TK := [(Str.ofString "sign", Str.ofString "("), (Str.ofString "sign", Str.ofString ")"), (Str.ofString "sign", Str.ofString ":"), (Str.ofString "word", Str.ofString "A"), (Str.ofString "literal", Str.ofString ":"), (Str.ofString "literal", Str.ofString "(")]
def ltr (t : TK) : Str := if SG "(" t then Str.ofString "(" else if SG ")" t then Str.ofString ")" else if SG ":" t then Str.ofString ":" else Str.ofString "x"
def isEnd (cs : List Str) (i : Nat) : Bool := (cs[i]? == some (Str.ofString ")")) && (cs.take i).any (· == Str.ofString "(")
def endsOf (cs : List Str) : List Nat := (List.range cs.length).filter (isEnd cs)
def isOpen (cs : List Str) (i : Nat) : Bool := cs[i]? == some (Str.ofString "(")
def opensOf (cs : List Str) (e : Nat) : List Nat := (List.range e).filter (isOpen cs)
def topOf : List Nat → Nat := List.foldl max 0
def cutAt (cs : List Str) (b e : Nat) : List Str := cs.take b ++ [Str.ofString "x"] ++ cs.drop (e + 1)
def reduce (cs : List Str) : Option (List Str) := match endsOf cs with
  | [] => none
  | e :: _ => some (cutAt cs (topOf (opensOf cs e)) e)
def reduceN : Nat → List Str → List Str
  | 0, cs => cs
  | n + 1, cs => match reduce cs with
    | none => cs
    | some cs' => reduceN n cs'
def look : List Str → Bool
  | [] => false
  | c :: r => if c = Str.ofString "(" ∨ c = Str.ofString ")" then false else if c = Str.ofString ":" then true else look r
def due : List TK → Bool
  | [] => false
  | t :: r => if SG "(" t then look (reduceN r.length (r.map ltr)) else false
/-- the four letters -/
def Good (cs : List Str) : Prop := ∀ c ∈ cs, c = Str.ofString "(" ∨ c = Str.ofString ")" ∨ c = Str.ofString ":" ∨ c = Str.ofString "x"
theorem good_ltr (ts : List TK) : Good (ts.map ltr) := by
  intro c hc
  obtain ⟨t, _, rfl⟩ := List.mem_map.mp hc
  unfold ltr
  split
  · exact .inl rfl
  · split
    · exact .inr (.inl rfl)
    · split
      · exact .inr (.inr (.inl rfl))
      · exact .inr (.inr (.inr rfl))
theorem good_cut {cs : List Str} (h : Good cs) (b e : Nat) : Good (cutAt cs b e) := by
  intro c hc
  unfold cutAt at hc
  rcases List.mem_append.mp hc with hc | hc
  · rcases List.mem_append.mp hc with hc | hc
    · exact h c (List.mem_of_mem_take hc)
    · rw [List.mem_singleton.mp hc]; exact .inr (.inr (.inr rfl))
  · exact h c (List.mem_of_mem_drop hc)
theorem reduceN_none {cs : List Str} {n : Nat} (h : endsOf cs = []) : reduceN n cs = cs := by
  cases n with
  | zero => rfl
  | succ n => simp [reduceN, reduce, h]
theorem reduceN_some {cs : List Str} {n e : Nat} {r : List Nat} (h : endsOf cs = e :: r) : reduceN (n + 1) cs = reduceN n (cutAt cs (topOf (opensOf cs e)) e) := by
  simp [reduceN, reduce, h]
theorem mem_endsOf {cs : List Str} {e : Nat} {r : List Nat} (h : endsOf cs = e :: r) : e < cs.length ∧ isEnd cs e = true := by
  have : e ∈ endsOf cs := by rw [h]; exact List.mem_cons_self
  unfold endsOf at this
  rw [List.mem_filter, List.mem_range] at this
  exact this
theorem opens_pos {cs : List Str} {e : Nat} (h : isEnd cs e = true) : 0 < (opensOf cs e).length := by
  unfold isEnd at h
  rw [Bool.and_eq_true] at h
  obtain ⟨c, hc, h2⟩ := List.any_eq_true.mp h.2
  obtain ⟨i, hi, rfl⟩ := List.mem_iff_getElem.mp hc
  have hi' : i < e := by simp at hi; omega
  have : i ∈ opensOf cs e := by
    unfold opensOf
    rw [List.mem_filter, List.mem_range]
    refine ⟨hi', ?_⟩
    unfold isOpen
    rw [List.getElem_take] at h2
    rw [List.getElem?_eq_getElem (by simp at hi; omega)]
    simpa using h2
  exact List.length_pos_of_mem this
theorem foldl_max_le (l : List Nat) : ∀ a : Nat, a ≤ l.foldl max a ∧ ∀ x ∈ l, x ≤ l.foldl max a := by
  induction l with
  | nil => intro a; exact ⟨Nat.le_refl _, by simp⟩
  | cons x r ih =>
    intro a
    rw [List.foldl_cons]
    obtain ⟨h1, h2⟩ := ih (max a x)
    refine ⟨by omega, fun y hy => ?_⟩
    rcases List.mem_cons.mp hy with rfl | hy
    · omega
    · exact h2 y hy
theorem foldl_max_mem (l : List Nat) : ∀ a : Nat, l.foldl max a = a ∨ l.foldl max a ∈ l := by
  induction l with
  | nil => intro a; exact .inl rfl
  | cons x r ih =>
    intro a
    rw [List.foldl_cons]
    rcases ih (max a x) with h | h
    · rcases Nat.le_total a x with h1 | h1
      · rw [h, Nat.max_eq_right h1]; exact .inr List.mem_cons_self
      · rw [h, Nat.max_eq_left h1]; exact .inl rfl
    · exact .inr (List.mem_cons_of_mem _ h)
theorem top_lt {cs : List Str} {e : Nat} (h : isEnd cs e = true) : topOf (opensOf cs e) < e := by
  have hp := opens_pos h
  have hm : topOf (opensOf cs e) ∈ opensOf cs e := by
    unfold topOf
    rcases foldl_max_mem (opensOf cs e) 0 with h0 | h0
    · rw [h0]
      obtain ⟨x, hx⟩ := List.exists_mem_of_length_pos hp
      have := (foldl_max_le (opensOf cs e) 0).2 x hx
      rw [h0] at this
      obtain rfl : x = 0 := by omega
      exact hx
    · exact h0
  unfold opensOf at hm
  rw [List.mem_filter, List.mem_range] at hm
  exact hm.1
theorem cut_length {cs : List Str} {e : Nat} (h : isEnd cs e = true) (he : e < cs.length) : (cutAt cs (topOf (opensOf cs e)) e).length ≤ cs.length := by
  have := top_lt h
  unfold cutAt
  simp only [List.length_append, List.length_take, List.length_drop, List.length_cons, List.length_nil]
  omega
/-- what max of the list of ints gives -/
theorem topOf_eq {l : List Nat} {M : Int} (h1 : M ∈ l.map Int.ofNat) (h2 : ∀ a ∈ l.map Int.ofNat, a ≤ M) : M = (topOf l : Int) := by
  obtain ⟨k, hk, rfl⟩ := List.mem_map.mp h1
  have := (foldl_max_le l 0).2 k hk
  rcases foldl_max_mem l 0 with h | h
  · unfold topOf; simp only [Int.ofNat_eq_natCast]; omega
  · have := h2 _ (List.mem_map.mpr ⟨_, h, rfl⟩)
    unfold topOf; simp only [Int.ofNat_eq_natCast] at *; omega
end
section
/-- what is_part_next looks for, on the letters -/
def scanL : Nat → List Str → Bool
  | 0, _ => false
  | _ + 1, [] => false
  | d + 1, t :: r => if t = Str.ofString "(" then scanL (d + 2) r else if t = Str.ofString ")" then scanL d r else if d = 0 ∧ t = Str.ofString ":" then true else scanL (d + 1) r
theorem ne_OC : Str.ofString ")" ≠ Str.ofString "(" := by decide
theorem ne_KO : Str.ofString ":" ≠ Str.ofString "(" := by decide
theorem ne_KC : Str.ofString ":" ≠ Str.ofString ")" := by decide
theorem ne_XO : Str.ofString "x" ≠ Str.ofString "(" := by decide
theorem ne_XC : Str.ofString "x" ≠ Str.ofString ")" := by decide
theorem ne_XK : Str.ofString "x" ≠ Str.ofString ":" := by decide
theorem SG_OC {t : TK} (h : SG "(" t = true) : SG ")" t = false := by
  unfold SG at *
  rw [Bool.and_eq_true] at h
  rw [beq_iff_eq.mp h.2]
  have : (Str.ofString "(" == Str.ofString ")") = false := by decide
  rw [this, Bool.and_false]
theorem scan_ltr (ts : List TK) : ∀ d, scan d ts = scanL d (ts.map ltr) := by
  induction ts with
  | nil => intro d; cases d <;> rfl
  | cons t r ih =>
    intro d
    cases d with
    | zero => rfl
    | succ d =>
      simp only [List.map_cons, scan, scanL, ih]
      unfold ltr
      cases h1 : SG "(" t with
      | true => simp
      | false =>
        cases h2 : SG ")" t with
        | true => simp [ne_OC]
        | false =>
          cases h3 : SG ":" t with
          | true => simp [ne_KO, ne_KC]
          | false => simp [ne_XO, ne_XC, ne_XK]
theorem part_ltr (ts : List TK) : partNext ts = match ts with | [] => false | t :: r => if SG "(" t then scanL 1 (r.map ltr) else false := by
  cases ts with
  | nil => rfl
  | cons t r => simp only [partNext, scan_ltr]
/-- a stretch without brackets is passed over, within brackets -/
theorem scanL_skip {xs : List Str} (h : ∀ c ∈ xs, c ≠ Str.ofString "(" ∧ c ≠ Str.ofString ")") (d : Nat) (r : List Str) : scanL (d + 2) (xs ++ r) = scanL (d + 2) r := by
  induction xs with
  | nil => rfl
  | cons c xs ih =>
    obtain ⟨h1, h2⟩ := h c List.mem_cons_self
    rw [List.cons_append, scanL]
    simp only [h1, h2, if_false]
    have : ¬ (d + 1 = 0 ∧ c = Str.ofString ":") := by omega
    simp only [this, if_false]
    exact ih fun c hc => h c (List.mem_cons_of_mem _ hc)
/-- an innermost pair may be taken out -/
theorem scanL_pair {mid post : List Str} (h : ∀ c ∈ mid, c ≠ Str.ofString "(" ∧ c ≠ Str.ofString ")") (d : Nat) :
    scanL (d + 1) (Str.ofString "(" :: (mid ++ Str.ofString ")" :: post)) = scanL (d + 1) (Str.ofString "x" :: post) := by
  rw [scanL, if_pos rfl]
  rw [scanL_skip h d]
  rw [scanL, if_neg ne_OC, if_pos rfl]
  rw [scanL, if_neg ne_XO, if_neg ne_XC, if_neg (by intro h; exact ne_XK h.2)]
theorem scanL_append {a b : List Str} (h : ∀ d, scanL d a = scanL d b) (pre : List Str) : ∀ d, scanL d (pre ++ a) = scanL d (pre ++ b) := by
  induction pre with
  | nil => exact h
  | cons c r ih =>
    intro d
    cases d with
    | zero => rfl
    | succ d => simp only [List.cons_append, scanL, ih]
theorem scanL_cut {pre mid post : List Str} (h : ∀ c ∈ mid, c ≠ Str.ofString "(" ∧ c ≠ Str.ofString ")") (d : Nat) :
    scanL d (pre ++ (Str.ofString "(" :: (mid ++ Str.ofString ")" :: post))) = scanL d (pre ++ (Str.ofString "x" :: post)) :=
  scanL_append (fun d => by cases d with
    | zero => rfl
    | succ d => exact scanL_pair h d) pre d
theorem look_O (r : List Str) : look (Str.ofString "(" :: r) = false := by rw [look, if_pos (.inl rfl)]
theorem look_C (r : List Str) : look (Str.ofString ")" :: r) = false := by rw [look, if_pos (.inr rfl)]
theorem look_K (r : List Str) : look (Str.ofString ":" :: r) = true := by
  rw [look, if_neg (by intro q; rcases q with q | q; exact ne_KO q; exact ne_KC q), if_pos rfl]
theorem look_X (r : List Str) : look (Str.ofString "x" :: r) = look r := by
  rw [look, if_neg (by intro q; rcases q with q | q; exact ne_XO q; exact ne_XC q), if_neg ne_XK]
end
section
theorem isEnd_of {cs : List Str} {i j : Nat} (h1 : cs[i]? = some (Str.ofString ")")) (h2 : cs[j]? = some (Str.ofString "(")) (hji : j < i) : isEnd cs i = true := by
  unfold isEnd
  rw [h1, Bool.and_eq_true]
  refine ⟨by simp, List.any_eq_true.mpr ⟨Str.ofString "(", ?_, by simp⟩⟩
  obtain ⟨hl, he⟩ := List.getElem?_eq_some_iff.mp h2
  rw [← he]
  exact List.mem_take_iff_getElem.mpr ⟨j, by omega, rfl⟩
theorem lt_of_get {cs : List Str} {i : Nat} {c : Str} (h : cs[i]? = some c) : i < cs.length := (List.getElem?_eq_some_iff.mp h).1
theorem ends_first {cs : List Str} {e : Nat} {r : List Nat} (h : endsOf cs = e :: r) {i : Nat} (hi : i < e) : isEnd cs i = false := by
  cases hb : isEnd cs i with
  | false => rfl
  | true =>
    exfalso
    have he := mem_endsOf h
    have hm : i ∈ endsOf cs := by
      unfold endsOf
      rw [List.mem_filter, List.mem_range]
      exact ⟨by omega, hb⟩
    have hs : (endsOf cs).Pairwise (· < ·) := List.Pairwise.filter _ List.pairwise_lt_range
    rw [h] at hs hm
    rcases List.mem_cons.mp hm with rfl | hm
    · omega
    · have := (List.pairwise_cons.mp hs).1 i hm
      omega
theorem top_open {cs : List Str} {e : Nat} (h : isEnd cs e = true) : cs[topOf (opensOf cs e)]? = some (Str.ofString "(") ∧ ∀ i, topOf (opensOf cs e) < i → i < e → cs[i]? ≠ some (Str.ofString "(") := by
  have hp := opens_pos h
  have hm : topOf (opensOf cs e) ∈ opensOf cs e := by
    unfold topOf
    rcases foldl_max_mem (opensOf cs e) 0 with h0 | h0
    · rw [h0]
      obtain ⟨x, hx⟩ := List.exists_mem_of_length_pos hp
      have := (foldl_max_le (opensOf cs e) 0).2 x hx
      rw [h0] at this
      obtain rfl : x = 0 := by omega
      exact hx
    · exact h0
  constructor
  · have h2 : ∀ b, isOpen cs b = true → cs[b]? = some (Str.ofString "(") := fun b hb => by
      unfold isOpen at hb
      simpa using hb
    have hm2 : topOf (opensOf cs e) ∈ List.filter (isOpen cs) (List.range e) := hm
    exact h2 _ (List.mem_filter.mp hm2).2
  · intro i hi hie hc
    have : i ∈ opensOf cs e := by
      unfold opensOf
      rw [List.mem_filter, List.mem_range]
      exact ⟨hie, by unfold isOpen; rw [hc]; simp⟩
    have := (foldl_max_le (opensOf cs e) 0).2 i this
    unfold topOf at hi
    omega
theorem split_at {cs : List Str} {b e : Nat} {x y : Str} (hb : cs[b]? = some x) (he : cs[e]? = some y) (hbe : b < e) :
    cs = cs.take b ++ (x :: ((cs.drop (b + 1)).take (e - (b + 1)) ++ y :: cs.drop (e + 1))) := by
  obtain ⟨h1, h2⟩ := List.getElem?_eq_some_iff.mp hb
  obtain ⟨h3, h4⟩ := List.getElem?_eq_some_iff.mp he
  have e1 : cs.drop b = x :: cs.drop (b + 1) := by rw [List.drop_eq_getElem_cons h1, h2]
  have e2 : cs.drop e = y :: cs.drop (e + 1) := by rw [List.drop_eq_getElem_cons h3, h4]
  have e3 : cs.drop (b + 1) = (cs.drop (b + 1)).take (e - (b + 1)) ++ cs.drop e := by
    have := (List.take_append_drop (e - (b + 1)) (cs.drop (b + 1))).symm
    rw [List.drop_drop, show b + 1 + (e - (b + 1)) = e by omega] at this
    exact this
  calc cs = cs.take b ++ cs.drop b := (List.take_append_drop b cs).symm
    _ = _ := by rw [e1, ← e2, ← e3]
theorem scan_cut {cs : List Str} {e : Nat} {r : List Nat} (h : endsOf cs = e :: r) (d : Nat) : scanL d (cutAt cs (topOf (opensOf cs e)) e) = scanL d cs := by
  obtain ⟨he, hE⟩ := mem_endsOf h
  obtain ⟨ho, hno⟩ := top_open hE
  have hlt := top_lt hE
  have hc : cs[e]? = some (Str.ofString ")") := by
    unfold isEnd at hE
    rw [Bool.and_eq_true] at hE
    simpa using hE.1
  generalize topOf (opensOf cs e) = b at *
  conv => rhs; rw [split_at ho hc hlt]
  rw [scanL_cut]
  · unfold cutAt
    rw [List.append_assoc]
    rfl
  · intro c hcm
    obtain ⟨i, hi, rfl⟩ := List.mem_iff_getElem.mp hcm
    simp only [List.length_take, List.length_drop] at hi
    rw [List.getElem_take, List.getElem_drop]
    have hg : cs[b + 1 + i]? = some cs[b + 1 + i] := List.getElem?_eq_getElem (by omega)
    refine ⟨fun q => hno (b + 1 + i) (by omega) (by omega) (by rw [hg, q]), fun q => ?_⟩
    have := isEnd_of (cs := cs) (i := b + 1 + i) (j := b) (by rw [hg, q]) ho (by omega)
    rw [ends_first h (by omega)] at this
    cases this
theorem cut_shorter {cs : List Str} {e : Nat} {r : List Nat} (h : endsOf cs = e :: r) : (cutAt cs (topOf (opensOf cs e)) e).length < cs.length := by
  obtain ⟨he, hE⟩ := mem_endsOf h
  have := top_lt hE
  unfold cutAt
  simp only [List.length_append, List.length_take, List.length_drop, List.length_cons, List.length_nil]
  omega
theorem reduceN_spec : ∀ (n : Nat) (cs : List Str), cs.length ≤ n → endsOf (reduceN n cs) = [] ∧ ∀ d, scanL d (reduceN n cs) = scanL d cs := by
  intro n
  induction n with
  | zero =>
    intro cs h
    obtain rfl : cs = [] := List.eq_nil_of_length_eq_zero (by omega)
    exact ⟨rfl, fun _ => rfl⟩
  | succ n ih =>
    intro cs h
    cases hE : endsOf cs with
    | nil => rw [reduceN_none hE]; exact ⟨hE, fun _ => rfl⟩
    | cons e r =>
      rw [reduceN_some hE]
      have := cut_shorter hE
      obtain ⟨h1, h2⟩ := ih (cutAt cs (topOf (opensOf cs e)) e) (by omega)
      exact ⟨h1, fun d => by rw [h2, scan_cut hE]⟩
theorem good_reduceN : ∀ (n : Nat) (cs : List Str), Good cs → Good (reduceN n cs) := by
  intro n
  induction n with
  | zero => intro cs h; exact h
  | succ n ih =>
    intro cs h
    cases hE : endsOf cs with
    | nil => rw [reduceN_none hE]; exact h
    | cons e r => rw [reduceN_some hE]; exact ih _ (good_cut h _ _)
/-- no closing bracket behind an opening one -/
def NoEnd (cs : List Str) : Prop := ∀ i j : Nat, j < i → cs[i]? = some (Str.ofString ")") → cs[j]? = some (Str.ofString "(") → False
theorem noEnd_of {cs : List Str} (h : endsOf cs = []) : NoEnd cs := fun i j hji h1 h2 => by
  have hm : i ∈ endsOf cs := by
    unfold endsOf
    rw [List.mem_filter, List.mem_range]
    exact ⟨lt_of_get h1, isEnd_of h1 h2 hji⟩
  rw [h] at hm; cases hm
theorem scanL_open {cs : List Str} (h : ∀ c ∈ cs, c ≠ Str.ofString ")") : ∀ d, scanL (d + 2) cs = false := by
  induction cs with
  | nil => intro d; rfl
  | cons c r ih =>
    intro d
    have hr := ih fun c hc => h c (List.mem_cons_of_mem _ hc)
    have h1 := h c List.mem_cons_self
    have h2 : ¬ (d + 1 = 0 ∧ c = Str.ofString ":") := by omega
    rw [scanL]
    simp only [h1, h2, if_false, hr]
    split <;> rfl
theorem look_eq (cs : List Str) (hg : Good cs) (h : NoEnd cs) : scanL 1 cs = look cs := by
  induction cs with
  | nil => rfl
  | cons c r ih =>
    have hr : NoEnd r := fun i j hji h1 h2 => h (i + 1) (j + 1) (by omega) (by simpa using h1) (by simpa using h2)
    have ih' := ih (fun c hc => hg c (List.mem_cons_of_mem _ hc)) hr
    rcases hg c List.mem_cons_self with rfl | rfl | rfl | rfl
    · rw [scanL, if_pos rfl, look, if_pos (.inl rfl)]
      refine scanL_open (fun c hc q => ?_) 0
      obtain ⟨i, hi, rfl⟩ := List.mem_iff_getElem.mp hc
      exact h (i + 1) 0 (by omega) (by rw [List.getElem?_cons_succ, List.getElem?_eq_getElem hi, q]) rfl
    · rw [scanL, if_neg ne_OC, if_pos rfl, look, if_pos (.inr rfl)]; cases r <;> rfl
    · rw [scanL, if_neg ne_KO, if_neg ne_KC, if_pos ⟨rfl, rfl⟩, look, if_neg (by intro q; rcases q with q | q; exact ne_KO q; exact ne_KC q), if_pos rfl]
    · rw [scanL, if_neg ne_XO, if_neg ne_XC, if_neg (by intro q; exact ne_XK q.2), look, if_neg (by intro q; rcases q with q | q; exact ne_XO q; exact ne_XC q), if_neg ne_XK]
      exact ih'
/-- the plain law -/
theorem part_due (ts : List TK) : partNext ts = due ts := by
  rw [part_ltr]
  cases ts with
  | nil => rfl
  | cons t r =>
    simp only [due]
    cases SG "(" t with
    | false => rfl
    | true =>
      obtain ⟨h1, h2⟩ := reduceN_spec r.length (r.map ltr) (by simp)
      rw [if_pos rfl, if_pos rfl, ← h2, look_eq _ (good_reduceN _ _ (good_ltr r)) (noEnd_of h1)]
end
section
open PySem.Calls PySem.Spec
/-- a tuple of two texts -/
def TupAt (h : Heap) (a : Addr) (k x : Str) : Prop := ∃ n t t', h.get? a = some ({ cls := .type "tuple", data := .seq #[.str k t, .str x t'] n } : Obj)
def RowsAt (h : Heap) (l : Addr) (as : List Addr) (ts : List TK) : Prop :=
  h.IsList l (as.map Value.ref).toArray ∧ as.length = ts.length ∧ ∀ (i : Nat) (a : Addr) (t : TK), as[i]? = some a → ts[i]? = some t → TupAt h a t.1 t.2
abbrev pair (t : TK) : PyData := .tuple [.str t.1, .str t.2]
theorem pair_eq {t : TK} (h : t ∈ Tab) : PyData.eqv (.list [pair t]) (.list [pair (Str.ofString "sign", Str.ofString "(")]) = SG "(" t := by
  revert t
  decide +kernel
theorem pair_shaped {t : TK} (h : t ∈ Tab) : SeqAt.shaped (.list [pair t]) = true := by
  revert t
  decide +kernel
theorem TupAt.reads {h : Heap} {a : Addr} {t : TK} (x : TupAt h a t.1 t.2) : ∃ as, Reads h (.ref a) (pair t) as := by
  obtain ⟨n, t1, t2, e⟩ := x
  exact ⟨_, reads_tuple_at e rfl rfl (ReadsAll.cons (Reads.str _ _) (ReadsAll.cons (Reads.str _ _) ReadsAll.nil))⟩
theorem TupAt.keep {h h' : Heap} {a : Addr} {k x : Str} (H : TupAt h a k x) (st : h.StaysIn h') : TupAt h' a k x := by
  obtain ⟨n, t1, t2, e⟩ := H
  exact ⟨n, t1, t2, st _ _ e⟩
theorem pick_one (a : Value) (r : List Value) : slicePick (a :: r).toArray none (some 1) none = #[a] := by
  rw [kms_pick_eq]
  simp [kms_pick, kms_lo, kms_hi]
theorem pick_rest (a : Value) (r : List Value) : slicePick (a :: r).toArray (some 1) none none = r.toArray := by
  rw [kms_pick_eq]
  simp [kms_pick, kms_lo, kms_hi]
theorem pick_upto {vs : List Value} {k : Int} {j : Nat} (h : k = j) : slicePick vs.toArray none (some k) none = (vs.take j).toArray := by
  subst h
  rw [kms_pick_eq]
  have : ¬ ((j : Int) < 0) := by omega
  simp only [kms_pick, kms_lo, kms_hi, if_neg this, Int.toNat_natCast, List.drop_zero, Nat.sub_zero]
  congr 1
  rcases Nat.le_total j vs.length with h | h
  · rw [Nat.min_eq_left h]
  · rw [Nat.min_eq_right h, List.take_length, List.take_of_length_le h]
theorem pick_from {vs : List Value} {k : Int} {j : Nat} (h : k = j) : slicePick vs.toArray (some k) none none = (vs.drop j).toArray := by
  subst h
  rw [kms_pick_eq]
  have : ¬ ((j : Int) < 0) := by omega
  simp only [kms_pick, kms_lo, kms_hi, if_neg this, Int.toNat_natCast]
  congr 1
  rcases Nat.le_total j vs.length with h | h
  · rw [Nat.min_eq_left h, List.take_of_length_le (by simp)]
  · rw [Nat.min_eq_right h, List.drop_length, List.drop_eq_nil_of_le h]; simp
theorem pick_nil : slicePick ([] : List Value).toArray none (some 1) none = #[] := by
  rw [kms_pick_eq]
  simp [kms_pick, kms_lo, kms_hi]
theorem rng_small {n : Nat} (h : n ≤ 20) : Builtin.Range.small 0 (n : Int) 1 = true := by
  unfold Builtin.Range.small
  have : n ≤ 20 := h
  rcases n with _ | _ | _ | _ | _ | _ | _ | _ | _ | _ | _ | _ | _ | _ | _ | _ | _ | _ | _ | _ | _ | n <;> first | decide | omega
theorem rng_size (n : Nat) : Builtin.Range.rangeSize 0 (n : Int) 1 = ((n : Nat) : Int) := by
  unfold Builtin.Range.rangeSize
  simp
  omega
theorem strsAre_of : ∀ {ys : List Value} {cs : List Str}, ys.length = cs.length → (∀ (i : Nat) (y : Value), ys[i]? = some y → ∃ c t, cs[i]? = some c ∧ y = .str c t) → StrsAre ys cs
  | [], [], _, _ => .nil
  | [], _ :: _, h, _ => by simp at h
  | _ :: _, [], h, _ => by simp at h
  | y :: ys, c :: cs, h, k => by
    obtain ⟨c', t, h1, rfl⟩ := k 0 y rfl
    have : c = c' := by simpa using h1
    subst this
    exact .cons c t (strsAre_of (by simpa using h) fun i y hy => by
      obtain ⟨c', t, h1, h2⟩ := k (i + 1) y (by simpa using hy)
      exact ⟨c', t, by simpa using h1, h2⟩)
section
variable (w : World) (p : Program) (loose : List Str) (mean : ExcName → Option Value) (mg mb : Str → Option Value)
theorem due_pc (l : Addr) (as : List Addr) (ts : List TK) (hlen : ts.length ≤ 20) (hT : ∀ t ∈ ts, t ∈ Tab) :
    PCall w p loose mean mg mb 293 [.ref l] 8 200 (fun h => RowsAt h l as ts) (.bool (due ts)) := by
  unfold PCall
  w_top off
  k_fill
  intro _ dp un gd cn cs a ccd cl outer A₀ base h₀ L m s Q E B F X T hk hd hu hp hret
  obtain ⟨hl, hal, hts⟩ := hp
  refine wpAny_call ?_
  k_dflt (refine' code_pureC ?k1 ?k2 ?k3 ?k5 ?kA ?kF ?kK ?k6 ?k7 ?k8 ?k9 ?kB ?kD ?_ ?c2 ?c3 ?c4; (case kA => exact rfl); (case kF => exact rfl); (case kK => assumption); (case k1 => k_asm); (case k2 => k_asm); (case k3 => k_asm); (case k5 => k_asm); (case k6 => k_is); (case k7 => k_is); (case k8 => ktr_room); (case k9 => first | exact BindsTo.of_eq rfl | exact binds_K (by k_in) rfl (by k_is) rfl rfl rfl); (case kB => exact rfl); (case kD => decide +kernel); (case c2 => exact rfl); (case c3 => exact rfl); (case c4 => exact rfl); k_whole; intro L' h' tk' cells' F' N' Y' B' X' T')
  obtain ⟨oc, rfl, hc⟩ := CellsAre.one Y'
  replace hc : oc.data = .cell none := hc
  replace F' : Fr s.heap L' h' (fun y => if y = Str.ofString "rows" then some (.ref l) else none) := F'
  clear Y'
  try dsimp only
  clear B F X T
  k_steps
  constructor
  k_dflt (refine' kmk_slice ?yF ?yN ?yl ?yp ?yq ?_ ?ys ?yt ?yz; (case yF => k_asm); (case yN => k_asm); (case yl => kmk_list); (case yp => kmk_part); (case yq => kmk_part); (case ys => with_unfolding_all rfl); (case yt => kmk_pure); (case yz => (simp only [List.size_toArray, List.length_map, sizeLine_eq]; omega)))
  intro sD sh sF sN sl
  (try k_lt sl)
  k_steps
  constructor
  cases as with
  | nil => 
    obtain rfl : ts = [] := by cases ts <;> simp_all
    rename News _ _ _ _ => N1
    simp only [List.map_nil, pick_nil] at N1
    refine ne_dataH (reads_list_at (News.get N1 (by k_mem)) rfl rfl ReadsAll.nil) (reads_list_at (News.get N1 (by k_mem)) rfl rfl (ReadsAll.cons (reads_tuple_at (News.get N1 (by k_mem)) rfl rfl (ReadsAll.cons (Reads.str _ _) (ReadsAll.cons (Reads.str _ _) ReadsAll.nil))) ReadsAll.nil)) (by decide +kernel) (by decide +kernel) (by ktr_units) ?_
    rw [show PyData.eqv (.list []) (.list [.tuple [.str (Str.ofString "sign"), .str (Str.ofString "(")]]) = false from by decide +kernel]
    simp only [Bool.not_false]
    k_steps
    (try dsimp only)
    (dsimp only [PureEnd]; refine pure_end hret (by k_asm) ?_)
    rfl
  | cons a r =>
    obtain ⟨t, ts, rfl⟩ : ∃ t r, ts = t :: r := by cases ts <;> simp_all
    have ht := (hts 0 a t rfl rfl)
    rename News _ _ _ _ => N1
    simp only [List.map_cons, pick_one] at N1
    rename Fr _ _ _ _ => F1
    obtain ⟨_, hr⟩ := (ht.keep F1.keep).reads
    refine ne_dataH (reads_list_at (News.get N1 (by k_mem)) rfl rfl (ReadsAll.cons hr ReadsAll.nil)) (reads_list_at (News.get N1 (by k_mem)) rfl rfl (ReadsAll.cons (reads_tuple_at (News.get N1 (by k_mem)) rfl rfl (ReadsAll.cons (Reads.str _ _) (ReadsAll.cons (Reads.str _ _) ReadsAll.nil))) ReadsAll.nil)) (pair_shaped (hT t List.mem_cons_self)) (by decide +kernel) (by ktr_units) ?_
    rw [show PyData.eqv _ _ = SG "(" t from pair_eq (hT t List.mem_cons_self)]
    cases hs : SG "(" t with
    | false =>
      simp only [Bool.not_false]
      k_steps
      (try dsimp only)
      (dsimp only [PureEnd]; refine pure_end hret (by k_asm) ?_)
      simp [due, hs]
    | true =>
      simp only [Bool.not_true]
      k_steps
      constructor
      have N2 : News s.heap L' _ [(L' + 1, oc)] := fun p hp => N1 p (List.mem_of_mem_getLast? (by simp_all))
      clear N1
      refine wpAny_Assign_Name ?_
      refine comp_pairs rfl (by with_unfolding_all rfl) (by decide) rfl (by decide) rfl rfl ?_ (by decide)
      k_steps
      constructor
      k_dflt (refine' kmk_slice ?yF ?yN ?yl ?yp ?yq ?_ ?ys ?yt ?yz; (case yF => k_asm); (case yN => k_asm); (case yl => kmk_list); (case yp => kmk_part); (case yq => kmk_part); (case ys => with_unfolding_all rfl); (case yt => kmk_pure); (case yz => (simp only [List.size_toArray, List.length_map, sizeLine_eq]; omega)))
      intro sD sh F3 N3 sl
      (try k_lt sl)
      k_steps
      constructor
      simp only [List.map_cons, pick_rest] at N3
      refine ⟨_, _, _, _, _, _, _, fun i v₁ v₂ => ∃ (t : TK) (t1 t2 : Tok), ts[i]? = some t ∧ v₁ = .str t.1 t1 ∧ v₂ = .str t.2 t2, fun i y => ∃ (t : TK) (ty : Tok), ts[i]? = some t ∧ y = .str (ltr t) ty, rfl, F3, N3, by k_mem, ?_, ?_, ?_, ?_⟩
      · simp only [List.size_toArray, List.length_map, sizeLine_eq]
        simp at hal hlen; omega
      · intro i v hv
        have hv' : r[i]?.map Value.ref = some v := by simpa using hv
        obtain ⟨b, hb, rfl⟩ := Option.map_eq_some_iff.mp hv'
        obtain ⟨t', ht'⟩ : ∃ t', ts[i]? = some t' := by
          have := (List.getElem?_eq_some_iff.mp hb).1
          simp at hal
          exact ⟨ts[i]'(by omega), by simp⟩
        obtain ⟨n, t1, t2, e⟩ := hts (i + 1) b t' (by simpa using hb) (by simpa using ht')
        exact ⟨b, _, _, rfl, ⟨_, e, rfl, _, rfl⟩, t', t1, t2, ht', rfl, rfl⟩
      · rintro i v1 v2 I oI C oC D oD m₂ h3 tk3 E' ⟨t', t1, t2, ht', rfl, rfl⟩ hC hk3 hw3 F4 N4
        have hm : t' ∈ Tab := hT t' (List.mem_cons_of_mem _ (List.mem_of_getElem? ht'))
        clear hts F3 N3 N2 hr F1
        simp only [Tab, List.mem_cons, List.not_mem_nil, or_false] at hm
        rcases hm with rfl | rfl | rfl | rfl | rfl | rfl
        all_goals
          k_steps
        all_goals
          refine ⟨⟨_, _, ht', congrArg (Value.str · _) (by decide +kernel)⟩, _, _, rfl, by k_asm, ?_⟩
          first
          | exact N4
          | (rename News _ _ _ _ => N5
             exact fun p hp => N5 p (List.mem_cons_of_mem _ hp))
      · intro D h3 tk3 ys hlen3 hG F4 N4 hne
        clear hts F3 N3 N2 hr F1
        have hne : ∀ p ∈ [(L' + 1, oc)], p.1 ≠ D := fun p hp => hne p (List.mem_cons_of_mem _ hp)
        have hys : StrsAre ys (ts.map ltr) := strsAre_of (by simp at hlen3 hal ⊢; omega) fun i y hy => by
          obtain ⟨t', ty, h1, h2⟩ := hG i y hy
          exact ⟨ltr t', ty, by rw [List.getElem?_map, h1]; rfl, h2⟩
        k_steps
        rename_i h5 o5 F5 N5 hc5
        constructor
        have N6 : News s.heap L' h5 [(D, LCg.lst ys), (L' + 1, o5)] := fun p hp => N5 p (by simp at hp ⊢; rcases hp with rfl | rfl <;> simp)
        clear N5
        refine wpAny_mono (Q := fun f s' => Halt (f = .next ∧ ∃ D ys k o m' h tk, s' = { s with heap := h, toks := tk } ∧ Fr s.heap L' h m' ∧ News s.heap L' h [(D, ({ cls := .type "list", data := .seq ys.toArray k } : Obj)), (L' + 1, o)] ∧ o.data = .cell (some (.ref D)) ∧
          StrsAre ys (reduceN (ts.map ltr).length (ts.map ltr)) ∧ (reduceN (ts.map ltr).length (ts.map ltr)).length ≤ 20 ∧ Good (reduceN (ts.map ltr).length (ts.map ltr)))) ?_ ?_ (fun _ _ e => e)
        rotate_left
        · rintro f s' ⟨rfl, D, ys, k, o, m', h, tk, rfl, F, N, ho, hS, hl, hg⟩
          have hyl := hS.length
          have hdue : due (t :: ts) = look (reduceN (ts.map ltr).length (ts.map ltr)) := by
            simp only [due, hs, if_true, List.length_map]
          generalize reduceN (ts.map ltr).length (ts.map ltr) = cs at *
          clear N6 F5 hys
          k_steps
          constructor
          refine for_list (h₀ := s.heap) rfl rfl rfl ?_
          k_steps
          constructor
          refine ⟨D, ys.toArray, _, _, fun i m₁ news₁ => ∃ c oc, news₁ = [(D, ({ cls := .type "list", data := .seq ys.toArray k } : Obj)), (c, oc)] ∧ look cs = look (cs.drop i), rfl, (by k_asm), (by k_asm), ?_, ⟨_, _, rfl, rfl⟩, ?_, ?_⟩
          · rintro i m' nw ⟨c, oc, rfl, _⟩
            exact .inr ⟨_, List.mem_cons_self, rfl, _, rfl⟩
          · rintro i v m₁ news₁ I oI h7 tk7 hi hv ⟨c, oc, rfl, hlk⟩ F7 N7 off7
            replace F7 : Fr s.heap L' h7 _ := F7
            replace N7 : News s.heap L' h7 _ := N7
            have hi' : i < cs.length := by rw [← hyl]; simpa using hi
            obtain ⟨tv, htv⟩ := hS.at (List.getElem?_eq_getElem hi')
            have hvv : v = .str cs[i] tv := by
              have : ys[i]? = some v := by simpa using hv
              rw [htv] at this; exact (Option.some.inj this).symm
            subst hvv
            rw [List.drop_eq_getElem_cons hi'] at hlk
            have hgi := hg cs[i] (List.getElem_mem hi')
            generalize cs[i] = ci at *
            rcases hgi with rfl | rfl | rfl | rfl
            all_goals
              k_steps
            all_goals (try dsimp only)
            all_goals first
              | (exfalso; rename List.isEmpty _ = _ => hq; revert hq; decide +kernel)
              | (refine ForEnd.ret ?_; dsimp only [PureEnd]; refine pure_end hret (by k_asm) ?_; rw [hdue, hlk, look_O])
              | (refine ForEnd.ret ?_; dsimp only [PureEnd]; refine pure_end hret (by k_asm) ?_; rw [hdue, hlk, look_C])
              | (refine ForEnd.ret ?_; dsimp only [PureEnd]; refine pure_end hret (by k_asm) ?_; rw [hdue, hlk, look_K])
              | (rw [look_X] at hlk; exact ForEnd.next _ F7 N7 (fun p hp => hp) off7 ⟨_, _, rfl, hlk⟩)
          · rintro m₁ news₁ h7 tk7 ⟨c, oc, rfl, hlk⟩ F7 N7
            replace F7 : Fr s.heap L' h7 _ := F7
            k_steps
            (dsimp only [PureEnd]; refine pure_end hret (by k_asm) ?_)
            rw [hdue, hlk, List.drop_of_length_le (by simp; omega)]; rfl
        refine for_range (h₀ := s.heap) rfl rfl rfl ?_
        have hyl : ys.length = (ts.map ltr).length := hys.length
        have hcl : (ts.map ltr).length ≤ 20 := by simp at hlen ⊢; omega
        generalize hcs : ts.map ltr = cs at *
        k_steps
        constructor
        k_dflt (refine' len_vs ?k1 ?k2 ?k3 ?_; (case k1 => exact News.isList (by k_asm) (by k_mem)); (case k2 => k_asm); (case k3 => omega); k_whole)
        k_steps
        constructor
        refine ⟨_, _, _, _, _, _, cs.length, _, _, fun i m₁ news₁ => ∃ D ys cs' o k, news₁ = [(D, ({ cls := .type "list", data := .seq ys.toArray k } : Obj)), (L' + 1, o)] ∧ o.data = .cell (some (.ref D)) ∧ StrsAre ys cs' ∧ 
           cs'.length ≤ 20 ∧ L' + 1 ≠ D ∧ Good cs' ∧ reduceN (cs.length - i) cs' = reduceN cs.length cs, rfl, (by k_asm), (by k_asm), (by assumption), rng_small hcl, rng_size _, ⟨D, ys, cs, o5, _, rfl, hc5, hys, hcl, hne _ List.mem_cons_self, hcs ▸ good_ltr ts, rfl⟩, ?_, ?_⟩
        · rintro i m₁ news₁ t I oI h7 tk7 hi ⟨D, ys, cs', o, k, rfl, ho, hS, hl', hne', hgood, hR⟩ F7 N7 off7
          have hyl' : ys.length = cs'.length := hS.length
          replace F7 : Fr s.heap L' h7 _ := F7
          replace N7 : News s.heap L' h7 _ := N7
          k_steps
          constructor
          refine LCt.Assign_ListComp_T (F₀ := by k_asm) (by rfl) (by with_unfolding_all rfl) (by with_unfolding_all rfl) (by decide) (by rfl) (by decide) (by rfl) (by rfl) (by rfl) ?_
          k_steps
          constructor
          k_dflt (refine' len_vs ?k1 ?k2 ?k3 ?_; (case k1 => exact News.isList (by k_asm) (by k_mem)); (case k2 => k_asm); (case k3 => omega); k_whole)
          k_steps
          constructor
          refine LCt.CompSrcT.range rfl (by k_asm) (by k_asm) (by assumption) (rng_small hl') (rng_size _) (by rw [sizeLine_eq]; omega) (fun g => ?_)
          refine compT_ind (fun i ys => IntsAre ys (((List.range i).filter (isEnd cs')).map Int.ofNat)) trivial .nil ?_ ?_
          · intro zs hz D9 h9 tk9 F9 N9 o9
            have hzl : zs.length = ((endsOf cs').map Int.ofNat).length := hz.length
            replace hz : IntsAre zs ((endsOf cs').map Int.ofNat) := hz
            cases hE : endsOf cs' with
            | nil =>
              rw [hE] at hz
              cases hz
              k_steps
              · (try dsimp only)
                refine ForEnd.brk ?_
                exact ⟨rfl, D, ys, k, o, _, _, _, rfl, (by k_asm), (fun p hp => by rename News _ _ _ _ => N9; exact N9 p (by simp at hp ⊢; rcases hp with rfl | rfl <;> simp)), ho, by rw [← hR, reduceN_none hE]; exact hS, by rw [← hR, reduceN_none hE]; exact hl', by rw [← hR, reduceN_none hE]; exact hgood⟩
            | cons e er =>
              rw [hE] at hz
              obtain ⟨he1, he2⟩ := mem_endsOf hE
              cases hz with
              | cons n te hz' =>
              k_steps
              · exfalso
                rename decide _ = true => hbad
                simp at hbad
              constructor
              refine LCt.ListComp_T (F₀ := by k_asm) (by with_unfolding_all rfl) (by decide) (by rfl) (by decide) (by rfl) ?_
              k_steps
              constructor
              rename IsRange _ _ _ _ _ _ _ _ => R9
              replace R9 : IsRange _ _ 0 (e : Int) 1 _ _ _ := R9
              refine LCt.CompSrcT.range rfl (by k_asm) (by k_asm) R9 (rng_small (by omega)) (rng_size _) (by rw [sizeLine_eq]; omega) (fun g => ?_)
              refine compT_ind (fun i ys => IntsAre ys (((List.range i).filter (isOpen cs')).map Int.ofNat)) trivial .nil ?_ ?_
              · intro ws hw D6 h6 tk6 F6 N6 o6
                have hwl : ws.length = ((opensOf cs' e).map Int.ofNat).length := hw.length
                replace hw : IntsAre ws ((opensOf cs' e).map Int.ofNat) := hw
                have hpos : 0 < ((opensOf cs' e).map Int.ofNat).length := by
                  rw [List.length_map]; exact opens_pos he2
                k_steps
                constructor
                k_dflt (refine' kmk_slice ?yF ?yN ?yl ?yp ?yq ?_ ?ys ?yt ?yz; (case yF => k_asm); (case yN => k_asm); (case yl => kmk_list); (case yp => kmk_part); (case yq => kmk_part); (case ys => with_unfolding_all rfl); (case yt => kmk_pure); (case yz => (simp only [List.size_toArray, List.length_map, sizeLine_eq]; omega)))
                intro sD sh sF sN sl
                (try k_lt sl)
                k_steps
                constructor
                rename _ ∈ List.map Int.ofNat (opensOf _ _) => hM7
                rename ∀ a, a ∈ List.map Int.ofNat (opensOf _ _) → a ≤ _ => hM8
                have hM := topOf_eq hM7 hM8
                subst hM
                rename Fr _ _ _ _ => F10
                rename News _ _ _ _ => N10
                rw [pick_upto rfl] at N10
                refine add_lists2 F10 N10 (News.isList N10 (by k_mem)) (News.isList N10 (by k_mem)) ?_ (by simp [sizeLine_eq]; omega)
                intro D11 h11 F11 N11 l11
                (try k_lt l11)
                k_steps
                constructor
                k_dflt (refine' kmk_slice ?yF ?yN ?yl ?yp ?yq ?_ ?ys ?yt ?yz; (case yF => k_asm); (case yN => k_asm); (case yl => kmk_list); (case yp => kmk_part); (case yq => kmk_part); (case ys => with_unfolding_all rfl); (case yt => kmk_pure); (case yz => (simp only [List.size_toArray, List.length_map, sizeLine_eq]; omega)))
                intro sD2 sh2 sF2 sN2 sl2
                (try k_lt sl2)
                k_steps
                constructor
                rename Fr _ _ _ _ => F12
                rename News _ _ _ _ => N12
                rw [pick_from (j := e + 1)] at N12
                rotate_left
                · rfl
                refine add_lists2 F12 N12 (News.isList N12 (by k_mem)) (News.isList N12 (by k_mem)) ?_ (by simp [sizeLine_eq]; omega)
                intro D13 h13 F13 N13 l13
                have N14 := news3 N13 (List.Mem.head _) (show (I, oI) ∈ _ by k_mem) (show (L' + 1, o) ∈ _ by k_mem)
                have l14 : @LT.lt Nat _ (L' + 1) D13 := l13 (L' + 1, o) (by k_mem)
                have l15 : @LT.lt Nat _ I D13 := l13 (I, oI) (by k_mem)
                have l16 : @Ne Nat (L' + 1) I := off7 (L' + 1, o) (by k_mem)
                clear N13 N12 N11 N10 F12 F11 F10
                k_steps
                rename_i h14 o14 F14 N14 hc14
                refine ForEnd.next3 F14 N14 (Nat.ne_of_gt l15) l16 ⟨D13, _, cutAt cs' (topOf (opensOf cs' e)) e, o14, _, rfl, hc14, StrsAre.append' (StrsAre.append' (hS.take' _) (.cons _ _ .nil)) (hS.drop' _), Nat.le_trans (cut_length he2 he1) hl', Nat.ne_of_lt l14, good_cut hgood _ _, ?_⟩
                rw [← hR, show cs.length - i = (cs.length - (i + 1)) + 1 by omega, reduceN_some hE]
              · rintro j ws hj hw v I2 oI2 C2 oC2 D2 m2 h8 tk8 E8 ⟨tj, rfl⟩ hC2 hm2 F8 N8 off8 ne8
                have hjj : ((0 : Int) + (j : Int)).toNat = j := by omega
                have hfil : ∀ b, isOpen cs' j = b → (List.range (j + 1)).filter (isOpen cs') = if b = true then (List.range j).filter (isOpen cs') ++ [j] else (List.range j).filter (isOpen cs') := by
                  intro b hb
                  rw [List.range_succ, List.filter_append]
                  cases b <;> simp [hb]
                have hend : isOpen cs' j = (cs'.getD j Str.empty == Str.ofString "(") := by
                  unfold isOpen
                  rw [List.getElem?_eq_getElem (by omega), List.getD_eq_getElem?_getD, List.getElem?_eq_getElem (by omega)]
                  rfl
                k_steps
                · refine EltEnd.mk (by k_asm) N8 (fun p hp => hp) ?_
                  have hb : isOpen cs' j = true := by
                    rw [hend, ← hjj]; simp_all
                  rw [hfil _ hb, if_pos rfl, List.map_append]
                  exact IntsAre.append hw (by rw [Int.zero_add]; exact .cons _ _ .nil)
                · refine EltEnd.mk (by k_asm) N8 (fun p hp => hp) ?_
                  have hb : isOpen cs' j = false := by
                    rw [hend, ← hjj]; simp_all
                  rw [hfil _ hb, if_neg (by decide)]
                  exact hw
          · rintro j zs hj hz v I2 oI2 C2 oC2 D2 m2 h8 tk8 E8 ⟨tj, rfl⟩ hC2 hm2 F8 N8 off8 ne8
            have hjj : ((0 : Int) + (j : Int)).toNat = j := by omega
            have hfil : ∀ b, isEnd cs' j = b → (List.range (j + 1)).filter (isEnd cs') = if b = true then (List.range j).filter (isEnd cs') ++ [j] else (List.range j).filter (isEnd cs') := by
              intro b hb
              rw [List.range_succ, List.filter_append]
              cases b <;> simp [hb]
            have hend : isEnd cs' j = ((cs'.getD j Str.empty == Str.ofString ")") && ((cs'.take j).any (· == Str.ofString "("))) := by
              unfold isEnd
              rw [List.getElem?_eq_getElem hj, List.getD_eq_getElem?_getD, List.getElem?_eq_getElem hj]
              rfl
            k_steps
            · constructor
              k_dflt (refine' kmk_slice ?yF ?yN ?yl ?yp ?yq ?_ ?ys ?yt ?yz; (case yF => k_asm); (case yN => k_asm); (case yl => kmk_list); (case yp => kmk_part); (case yq => kmk_part); (case ys => with_unfolding_all rfl); (case yt => kmk_pure); (case yz => (simp only [List.size_toArray, List.length_map, sizeLine_eq]; omega)))
              intro sD sh sF sN sl
              (try k_lt sl)
              k_steps
              constructor
              rename News _ _ _ _ => N9
              rw [pick_upto (j := j) (by omega)] at N9
              refine in_list_strs (News.isList N9 (by k_mem)) (hS.take' j) ?_
              k_steps
              · refine EltEnd.mk (by k_asm) N9 (fun p hp => List.mem_cons_of_mem _ hp) ?_
                have hb : isEnd cs' j = true := by
                  rw [hend, ← hjj]; simp_all
                rw [hfil _ hb, if_pos rfl, List.map_append]
                exact IntsAre.append hz (by rw [Int.zero_add]; exact .cons _ _ .nil)
              · refine EltEnd.mk (by k_asm) N9 (fun p hp => List.mem_cons_of_mem _ hp) ?_
                have hb : isEnd cs' j = false := by
                  rw [hend, ← hjj]; simp_all
                rw [hfil _ hb, if_neg (by decide)]
                exact hz
            · refine EltEnd.mk (by k_asm) N8 (fun p hp => hp) ?_
              have hb : isEnd cs' j = false := by
                rw [hend, ← hjj]; simp_all
              rw [hfil _ hb, if_neg (by decide)]
              exact hz
        · rintro m₁ news₁ h7 tk7 ⟨D, ys, cs', o, k, rfl, ho, hS, hl', hne', hgood, hR⟩ F7 N7
          rw [Nat.sub_self] at hR
          obtain rfl : cs' = reduceN cs.length cs := hR
          exact ⟨by first | rfl | trivial, D, ys, k, o, m₁, h7, tk7, rfl, F7, N7, ho, hS, hl', hgood⟩
end
end
section
open PySem.Calls PySem.Spec PyProof.Rows.LCg
section
variable {prog : Program} {w : World} {A : Around} {E : Value → Shared → Prop} {s : Shared} {env : Env} {h₀ : Heap}
/-- how a turn of a for ends whose name is a cell -/
structure ForEndC (h₀ : Heap) (L I : Addr) (oI : Obj) (cx : Addr) (J : (Str → Option Value) → List (Addr × Obj) → Prop) (s : Shared) (Q : Flow → Shared → Prop) (f : Flow) (s₂ : Shared) : Prop where
  out : match f with
    | .next | .cont => ∃ h' tk m' o v news', s₂ = { s with heap := h', toks := tk } ∧ Fr h₀ L h' m' ∧ News h₀ L h' ((I, oI) :: (cx, o) :: news') ∧ o.data = .cell v ∧ (∀ p ∈ news', p.1 ≠ I ∧ p.1 ≠ cx) ∧ J m' news'
    | .brk => Q .next s₂
    | .ret v => Q (.ret v) s₂
theorem for_tuple_cell {x : Str} {px pos : Pos} {iter : PySem.Expr} {body : List Stmt} {Q : Flow → Shared → Prop} {cx : Addr}
    (hk : env.scope.kind = .function) (hx : env.kindOf x = some .cell) (hc : env.cells.lookup x = some cx) (hh : A.handled = none)
    (h : wpAny (model prog w) A (eval iter env) (fun xv s₁ => Halt <| ∃ (ax : Addr) (its : Array Value) (m : Str → Option Value) (o₀ : Obj) (v₀ : Option Value) (news : List (Addr × Obj)) (J : Nat → (Str → Option Value) → List (Addr × Obj) → Prop), xv = .ref ax ∧
      Fr h₀ env.locals s₁.heap m ∧ News h₀ env.locals s₁.heap ((cx, o₀) :: news) ∧ o₀.data = .cell v₀ ∧ (∀ p ∈ news, p.1 ≠ cx) ∧
      (∀ i m' nw, J i m' nw → ∃ o n, (ax, o) ∈ nw ∧ o.cls = .type "tuple" ∧ o.data = .seq its n) ∧ J 0 m news ∧
      (∀ i v m₁ news₁ o I oI h tk, i < its.size → its[i]? = some v → J i m₁ news₁ → o.data = .cell (some v) → Fr h₀ env.locals h m₁ → News h₀ env.locals h ((I, oI) :: (cx, o) :: news₁) → (∀ p ∈ news₁, p.1 ≠ I ∧ p.1 ≠ cx) → cx ≠ I →
        wpAny (model prog w) A (execs body env) (ForEndC h₀ env.locals I oI cx (J (i + 1)) { s₁ with heap := h, toks := tk } Q) E { s₁ with heap := h, toks := tk }) ∧
      (∀ m₁ o v news₁ h tk, J its.size m₁ news₁ → Fr h₀ env.locals h m₁ → News h₀ env.locals h ((cx, o) :: news₁) → o.data = .cell v → Q .next { s₁ with heap := h, toks := tk })) E s)
    (hs : ∀ x, foldedSetIterable iter env x = pure x := by intro _; rfl)
    (hE : PassesOwn (model prog w) A env E := by passes_own) :
    wpAny (model prog w) A (exec (.For (.Name x px) iter body [] pos) env) Q E s := by
  refine wpAny_For (wpAny_mono h (fun xv s₁ h₁ => ?_) fun _ _ e => e) hs
  obtain ⟨⟨ax, its, m, o₀, v₀, news, J, rfl, F, N, hd, offc, hS, h0, turn, done⟩⟩ := h₁
  obtain ⟨oa, na, hma, hca, hda⟩ := hS _ _ _ h0
  have hl : s₁.heap.IsTuple ax its := ⟨oa, (N _ (List.mem_cons_of_mem _ hma)).1, hca, na, hda⟩
  have hlt : ax < s₁.heap.objs.size := by obtain ⟨_, e, _⟩ := hl; exact Heap.lt_size e
  have hcx : cx < s₁.heap.objs.size := Heap.lt_size (N _ List.mem_cons_self).1
  refine wpAny_pyIter_tuple hl ?_
  have up : ∀ b o, s₁.heap.get? b = some o → (s₁.heap.push { cls := .type "tuple_iterator", data := .fields #[.ref ax, .int 0 0] }).get? b = some o := fun b o e => Heap.get?_push_of_some _ e
  have W := Walks.tuple (prog := prog) (w := w) hh s₁.heap.objs.size ax (Nat.ne_of_lt hlt) its
  have hIL : env.locals ≠ s₁.heap.objs.size := Nat.ne_of_lt F.ns.lt
  have hI₀ : h₀.get? s₁.heap.objs.size = none := next_is_new F
  have hcI : cx ≠ s₁.heap.objs.size := Nat.ne_of_lt hcx
  have hst₀ : (s₁.heap.push { cls := .type "tuple_iterator", data := .fields #[.ref ax, .int 0 0] }).IsTupleIter s₁.heap.objs.size ax 0 := ⟨_, Heap.get?_push_size _ rfl, rfl, rfl⟩
  have F₀ := F.keeps up
  have N₀ := N.grown up
  have offI : ∀ p ∈ news, p.1 ≠ s₁.heap.objs.size := fun p hp => Nat.ne_of_lt (Heap.lt_size (N p (List.mem_cons_of_mem _ hp)).1)
  generalize hI : s₁.heap.objs.size = I at *
  generalize s₁.heap.push { cls := .type "tuple_iterator", data := .fields #[.ref ax, .int 0 0] } = H at *
  refine codeAny_forLoop (fun k s' => ∃ h tk i m₁ o v news₁, s' = { s₁ with heap := h, toks := tk } ∧ i ≤ its.size ∧ k = its.size + 1 - i ∧ h.IsTupleIter I ax i ∧ Fr h₀ env.locals h m₁ ∧ News h₀ env.locals h ((cx, o) :: news₁) ∧ o.data = .cell v ∧ (∀ p ∈ news₁, p.1 ≠ I ∧ p.1 ≠ cx) ∧ J i m₁ news₁) ?_ (its.size + 1)
    ⟨H, s₁.toks, 0, m, o₀, v₀, news, rfl, Nat.zero_le _, rfl, hst₀, F₀, N₀, hd, fun p hp => ⟨offI p hp, offc p hp⟩, h0⟩
  rintro k s' ⟨h, tk, i, m₁, o, v, news₁, rfl, hi, rfl, st, F₁, N₁, hd₁, off₁, hJ⟩
  obtain ⟨oa, na, hma, hca, hda⟩ := hS _ _ _ hJ
  have hl₁ : h.IsTuple ax its := ⟨oa, (N₁ _ (List.mem_cons_of_mem _ hma)).1, hca, na, hda⟩
  have offI' : ∀ p ∈ (cx, o) :: news₁, p.1 ≠ I := fun p hp => by
    rcases List.mem_cons.mp hp with rfl | hp
    · exact hcI
    · exact (off₁ p hp).1
  by_cases hlt' : i < its.size
  · refine W.item i _ _ _ hlt' ⟨st, hl₁⟩ fun u h₁ tk₁ hPv st₁ k₁ => ?_
    have F₂ : Fr h₀ env.locals h₁ m₁ := fr_but F₁ k₁ hIL hI₀
    have N₂ : News h₀ env.locals h₁ ((cx, o) :: news₁) := news_but N₁ k₁ offI'
    have hcN := N₂ (cx, o) List.mem_cons_self
    refine wpAny_assign_Name (wpAny_storeName_cell hk hx hc ⟨o, hcN.1, hd₁⟩ fun h₂ hv₂ hs₂ => ?_)
    obtain ⟨o', ho', hd'⟩ := hv₂
    have F₃ : Fr h₀ env.locals h₂ m₁ := F₂.change hs₂ hcN.2.1 hcN.2.2
    have st₂ : h₂.IsTupleIter I ax (i + 1) := by
      obtain ⟨q, e, r⟩ := st₁.1
      exact ⟨q, hs₂.extBut _ _ (Ne.symm hcI) e, r⟩
    obtain ⟨oI, heI, hI2⟩ := id st₂
    have N₃ : News h₀ env.locals h₂ ((I, oI) :: (cx, o') :: news₁) := fun p hp => by
      rcases List.mem_cons.mp hp with rfl | hp
      · exact ⟨heI, Ne.symm hIL, hI₀⟩
      · rcases List.mem_cons.mp hp with rfl | hp
        · exact ⟨ho', hcN.2⟩
        · have z := N₂ p (List.mem_cons_of_mem _ hp)
          exact ⟨hs₂.extBut _ _ (off₁ p hp).2 z.1, z.2⟩
    refine wpAny_mono (turn i u m₁ news₁ o' I oI h₂ _ hlt' hPv hJ hd' F₃ N₃ off₁ hcI) (fun f s₃ h₃ => ?_) hE
    have h₄ := h₃.out
    have fin : (∃ h' tk m' o v news', s₃ = { s₁ with heap := h', toks := tk } ∧ Fr h₀ env.locals h' m' ∧ News h₀ env.locals h' ((I, oI) :: (cx, o) :: news') ∧ o.data = .cell v ∧ (∀ p ∈ news', p.1 ≠ I ∧ p.1 ≠ cx) ∧ J (i + 1) m' news') →
        ∃ k', k' < its.size + 1 - i ∧ ∃ h tk i m₁ o v news₁, s₃ = { s₁ with heap := h, toks := tk } ∧ i ≤ its.size ∧ k' = its.size + 1 - i ∧ h.IsTupleIter I ax i ∧ Fr h₀ env.locals h m₁ ∧ News h₀ env.locals h ((cx, o) :: news₁) ∧ o.data = .cell v ∧ (∀ p ∈ news₁, p.1 ≠ I ∧ p.1 ≠ cx) ∧ J i m₁ news₁ := by
      rintro ⟨h', tk', m', o5, v5, news', rfl, F₅, N₅, hd₅, off₅, hJ₅⟩
      exact ⟨its.size + 1 - (i + 1), by omega, h', tk', i + 1, m', o5, v5, news', rfl, hlt', rfl, ⟨oI, (N₅ _ List.mem_cons_self).1, hI2⟩, F₅, fun p hp => N₅ p (List.mem_cons_of_mem _ hp), hd₅, off₅, hJ₅⟩
    cases f with
    | next => exact fin h₄
    | cont => exact fin h₄
    | brk => exact h₄
    | ret v => exact h₄
  · obtain rfl : i = its.size := by omega
    refine W.done _ _ _ ⟨st, hl₁⟩ fun h₁ tk₁ k₁ => ?_
    exact wpAny_execs_nil (done m₁ o v news₁ h₁ tk₁ hJ (fr_but F₁ k₁ hIL hI₀) (news_but N₁ k₁ offI') hd₁)
end
end
section
open PySem.Calls PySem.Spec
def tok8L : List TK := [(Str.ofString "sign", Str.ofString "("), (Str.ofString "sign", Str.ofString ")"), (Str.ofString "sign", Str.ofString ":"), (Str.ofString "word", Str.ofString "A"), (Str.ofString "sign", Str.ofString "("), (Str.ofString "sign", Str.ofString ")"),
  (Str.ofString "literal", Str.ofString ":"), (Str.ofString "literal", Str.ofString "(")]
def tok8 (j : Nat) : TK := tok8L.getD j (Str.ofString "word", Str.ofString "A")
theorem tok8_tab (j : Nat) : tok8 j ∈ Tab := by
  rcases j with _ | _ | _ | _ | _ | _ | _ | _ | j
  iterate 8 exact (by decide +kernel)
  have : tok8 (j + 8) = (Str.ofString "word", Str.ofString "A") := by
    unfold tok8
    rw [List.getD_eq_getElem?_getD, List.getElem?_eq_none (by simp [tok8L])]
    rfl
  rw [this]; decide +kernel
abbrev pairO (k x : Str) (t t' : Tok) (n : Nat) : Obj := { cls := .type "tuple", data := .seq #[.str k t, .str x t'] n }
/-- the rows stand in the base or in the ledger -/
def RowsIn (h₀ : Heap) (nw : List (Addr × Obj)) (as : List Addr) (ts : List TK) : Prop := as.length = ts.length ∧
  ∀ (i : Nat) (a : Addr) (t : TK), as[i]? = some a → ts[i]? = some t → TupAt h₀ a t.1 t.2 ∨ ∃ n t1 t2, (a, pairO t.1 t.2 t1 t2 n) ∈ nw
theorem RowsIn.tup {h₀ h : Heap} {L : Addr} {m : Str → Option Value} {nw all : List (Addr × Obj)} {as : List Addr} {ts : List TK} (R : RowsIn h₀ nw as ts) (F : Fr h₀ L h m) (N : News h₀ L h all) (hs : ∀ p ∈ nw, p ∈ all) {i : Nat} {a : Addr} {t : TK} (h1 : as[i]? = some a) (h2 : ts[i]? = some t) : TupAt h a t.1 t.2 := by
  rcases R.2 i a t h1 h2 with h | ⟨n, t1, t2, h⟩
  · exact h.keep F.keep
  · exact ⟨n, t1, t2, (N _ (hs _ h)).1⟩
theorem news_named {h₀ h : Heap} {L : Addr} {x1 x2 x3 x4 x5 f : Addr × Obj} (N : News h₀ L h [x1, x2, x3, x4, x5, f]) (h1 : x1.1 ≠ f.1) (h2 : x2.1 ≠ f.1) (h3 : x3.1 ≠ f.1) (h4 : x4.1 ≠ f.1) (h5 : x5.1 ≠ f.1) :
    ∃ NW, News h₀ L h (f :: NW) ∧ (∀ p ∈ NW, p.1 ≠ f.1) ∧ x1 ∈ NW ∧ x2 ∈ NW ∧ x4 ∈ NW ∧ x5 ∈ NW := by
  refine ⟨[x1, x2, x3, x4, x5], fun p hp => N p ?_, fun p hp => ?_, by simp, by simp, by simp, by simp⟩
  · simp only [List.mem_cons, List.not_mem_nil, or_false] at hp ⊢
    rcases hp with h | h | h | h | h | h <;> simp [h]
  · simp only [List.mem_cons, List.not_mem_nil, or_false] at hp
    rcases hp with rfl | rfl | rfl | rfl | rfl <;> assumption
theorem rows_first {h₀ : Heap} {nw : List (Addr × Obj)} (js : List Nat) (h : ∀ j, j < 8 → TupAt h₀ (280 + j) (tok8 j).1 (tok8 j).2) (hj : ∀ j ∈ js, j < 8) : RowsIn h₀ nw (js.map (280 + ·)) (js.map tok8) := by
  refine ⟨by simp, fun i a t h1 h2 => .inl ?_⟩
  rw [List.getElem?_map] at h1 h2
  cases e : js[i]? with
  | none => rw [e] at h1; cases h1
  | some j =>
    rw [e] at h1 h2
    cases h1; cases h2
    exact h j (hj j (List.mem_of_getElem? e))
theorem rows_second {h₀ : Heap} {nw : List (Addr × Obj)} {as : List Addr} {ts : List TK} {a : Addr} {n : Nat} {t1 t2 : Tok} {k x : Str} (R : RowsIn h₀ nw as ts) (h : (a, pairO k x t1 t2 n) ∈ nw) : RowsIn h₀ nw (a :: as) ((k, x) :: ts) := by
  refine ⟨by simp [R.1], fun i b t h1 h2 => ?_⟩
  cases i with
  | zero => cases h1; cases h2; exact .inr ⟨n, t1, t2, h⟩
  | succ i => exact R.2 i b t h1 h2
/-- a token of the ledger -/
def TokIn (l : List (Addr × Obj)) (a : Addr) (k x : Str) : Prop := ∃ dx h1 t1 t1' h2 t2 t2' h3 t3 v3 h4 t4 v4 ep, (a, instObj 268 dx) ∈ l ∧
  (dx, dictOf [⟨h1, .str (Str.ofString "kind") t1, .str k t1'⟩, ⟨h2, .str (Str.ofString "worth") t2, .str x t2'⟩, ⟨h3, .str (Str.ofString "at") t3, v3⟩, ⟨h4, .str (Str.ofString "is_in_a") t4, v4⟩] ep) ∈ l
theorem TokIn.mono {l l' : List (Addr × Obj)} {a : Addr} {k x : Str} (H : TokIn l a k x) (s : ∀ p ∈ l, p ∈ l') : TokIn l' a k x := by
  obtain ⟨dx, h1, t1, t1', h2, t2, t2', h3, t3, v3, h4, t4, v4, ep, a1, a2⟩ := H
  exact ⟨dx, h1, t1, t1', h2, t2, t2', h3, t3, v3, h4, t4, v4, ep, s _ a1, s _ a2⟩
theorem TokIn.at {h₀ h : Heap} {L : Addr} {l : List (Addr × Obj)} {a : Addr} {k x : Str} (H : TokIn l a k x) (N : News h₀ L h l) : TokAt h a k x := by
  obtain ⟨dx, h1, t1, t1', h2, t2, t2', h3, t3, v3, h4, t4, v4, ep, a1, a2⟩ := H
  exact ⟨dx, ep, h1, t1, t1', h2, t2, t2', h3, t3, v3, h4, t4, v4, (N _ a1).1, rfl, rfl, (N _ a2).1⟩
def ToksIn (l : List (Addr × Obj)) (as : List Addr) (ts : List TK) : Prop := ∀ (i : Nat) (a : Addr) (t : TK), as[i]? = some a → ts[i]? = some t → TokIn l a t.1 t.2
theorem ToksIn.snoc {l l' : List (Addr × Obj)} {as : List Addr} {ts : List TK} {a : Addr} {t : TK} (H : ToksIn l as ts) (s : ∀ p ∈ l, p ∈ l') (h : ts[as.length]? = some t) (ha : TokIn l' a t.1 t.2) : ToksIn l' (as ++ [a]) ts := fun i b u h1 h2 => by
  by_cases hi : i < as.length
  · rw [List.getElem?_append_left hi] at h1
    exact (H i b u h1 h2).mono s
  · rw [List.getElem?_append_right (by omega)] at h1
    have : i - as.length = 0 := by
      rcases Nat.eq_zero_or_pos (i - as.length) with h | h
      · exact h
      · rw [List.getElem?_eq_none (by simp; omega)] at h1; cases h1
    obtain rfl : i = as.length := by omega
    rw [this] at h1
    cases h1
    rw [h] at h2; cases h2
    exact ha
theorem tok_pack {h₀ h : Heap} {L xo dx : Addr} {r : List (Addr × Obj)} {k x : Str} {h1 : Int} {t1 t1' : Tok} {h2 : Int} {t2 t2' : Tok} {h3 : Int} {t3 : Tok} {v3 : Value} {h4 : Int} {t4 : Tok} {v4 : Value} {ep : Nat}
    (N : News h₀ L h ((xo, instObj 268 dx) :: (dx, dictOf [⟨h1, .str (Str.ofString "kind") t1, .str k t1'⟩, ⟨h2, .str (Str.ofString "worth") t2, .str x t2'⟩, ⟨h3, .str (Str.ofString "at") t3, v3⟩, ⟨h4, .str (Str.ofString "is_in_a") t4, v4⟩] ep) :: r)) :
    ∃ ob, News h₀ L h ((xo, instObj 268 dx) :: (dx, ob) :: r) ∧ ∀ l, (xo, instObj 268 dx) ∈ l → (dx, ob) ∈ l → TokIn l xo k x :=
  ⟨_, N, fun _ a b => ⟨dx, h1, t1, t1', h2, t2, t2', h3, t3, v3, h4, t4, v4, ep, a, b⟩⟩
end
local macro_rules | `(tactic| walk_at $s:str) => if ["subscriptTail Name Name ref int", "subscriptTail Subscript Name Name Constant ref int"].contains s.getString then `(tactic| refine Halt.out ?_) else Lean.Macro.throwUnsupported
section
open PySem.Calls PySem.Spec
theorem news_pick5 {h₀ h : Heap} {L : Addr} {a b x c d : Addr × Obj} (N : News h₀ L h [a, b, x, c, d]) : News h₀ L h [a, b, c, d] := fun p hp => N p (by
  simp only [List.mem_cons, List.not_mem_nil, or_false] at hp ⊢
  rcases hp with h | h | h | h <;> simp [h])
theorem news_pick6 {h₀ h : Heap} {L : Addr} {a b x y c d : Addr × Obj} (N : News h₀ L h [a, b, x, y, c, d]) : News h₀ L h [a, b, c, d] := fun p hp => N p (by
  simp only [List.mem_cons, List.not_mem_nil, or_false] at hp ⊢
  rcases hp with h | h | h | h <;> simp [h])
theorem news_draw {h₀ h h2 : Heap} {L ta cc : Addr} {all r : List (Addr × Obj)} {x y : Addr × Obj} (N : News h₀ L h all) (N2 : News h₀ L h2 [x, y]) (hk : ∀ b o, b ∉ [ta, cc] → h.get? b = some o → h2.get? b = some o) (hr : ∀ p ∈ r, p ∈ all ∧ p.1 ∉ [ta, cc]) :
    News h₀ L h2 (x :: y :: r) := fun p hp => by
  rcases List.mem_cons.mp hp with rfl | hp
  · exact N2 _ List.mem_cons_self
  · rcases List.mem_cons.mp hp with rfl | hp
    · exact N2 _ (List.mem_cons_of_mem _ List.mem_cons_self)
    · obtain ⟨h1, h2⟩ := hr p hp
      exact ⟨hk _ _ h2 (N p h1).1, (N p h1).2⟩
theorem gen_post {α : Type} {M : Model} {A : Around} {t : Sem α} {Q : α → Shared → Prop} {E : Value → Shared → Prop} {s : Shared} (h : ∀ Q' : α → Shared → Prop, (∀ v s', Q v s' → Q' v s') → wpAny M A t Q' E s) : wpAny M A t Q E s := h Q fun _ _ x => x
theorem off2 {a b c : Nat} (h1 : a ≠ b) (h2 : a ≠ c) : (a : Addr) ∉ [(b : Addr), (c : Addr)] := fun h => by
  rcases List.mem_cons.mp h with e | h
  · exact h1 e
  · exact h2 (List.mem_singleton.mp h)
section
local macro_rules | `(tactic| k_all) => `(tactic| assumption)
theorem holds : PySem.Challenge.rw_pb0248_01.Holds := Mine.hd rfl rfl rfl (by
  w_strict (k_go0; (all_goals try k_fold); k_steps)
  constructor
  rename World => w
  rename Shared => s1
  rename Frag.In _ _ => KX
  rename Top _ _ _ _ _ _ => T
  rename IntsAre _ _ => hI0
  rename Below _ _ _ _ => K0
  replace K0 : Below callerA s1.heap [] s1.heap := K0
  rename Fr _ _ _ _ => F
  rename News _ _ _ _ => N
  rename_i h1 tk1 oS oT hcs0 hct0 X0
  replace hcs0 : oS.data = .cell none := hcs0
  replace hct0 : oT.data = .cell none := hct0
  clear X0
  refine wpAny_mono (Q := fun f s' => Halt (f = .next ∧ ∃ (ta c : Addr) (vs : List Value) (ns : List Int) (t : Tok) (n1 n2 : Nat) (oct ocs : Obj) (h : Heap) (m : Str → Option Value) (tk : Nat), s' = { s1 with heap := h, toks := tk } ∧ Fr s1.heap s1.heap.objs.size h m ∧
    News s1.heap s1.heap.objs.size h [(ta, tapeO c 0 t n1), (c, lstO vs n2), (s1.heap.objs.size + 1 + 1, ocs), (s1.heap.objs.size + 1, oct)] ∧ oct.data = .cell (some (.ref ta)) ∧ ocs.data = .cell none ∧ IntsAre vs ns ∧ 0 < ns.length ∧ ns.length ≤ 40 ∧
    @Ne Nat ta c ∧ @LT.lt Nat _ (s1.heap.objs.size + 1 + 1) ta ∧ @LT.lt Nat _ (s1.heap.objs.size + 1 + 1) c)) (E := fun _ _ => False) ?_ ?_ (fun _ _ e => e.elim)
  · refine wpAny_Assign_Name ?_
    k_steps
    constructor
    k_dflt (refine' kmk_slice_ints ?yF ?yN ?yl ?yp ?yq ?yi ?ym ?yc ?_ ?ys ?yt ?yz; (case yF => k_asm); (case yN => k_asm); (case yl => kmk_list); (case yp => kmk_part); (case yq => kmk_part); (case yi => l_ints); (case ym => kmk_nums); (case yc => kmk_len); (case ys => with_unfolding_all rfl); (case yt => kmk_pure); (case yz => kmk_size))
    intro D' ws' h' F' N' l1 hI' hC' hL'
    (try simp only [Int.reduceNeg, Int.neg_neg, Int.reduceToNat] at hI' hC' hL')
    (try k_lt l1)
    (try k_sweep)
    k_steps
    · rename Obj.data _ = Data.cell (some _) => hd1
      rename News _ _ _ _ => N1
      exact ⟨trivial, _, _, _, _, _, _, _, _, _, _, _, _, rfl, (by k_asm), news_pick5 N1, hd1, hcs0, (by assumption), (by assumption), (by simp; omega), (by omega), (by omega), (by omega)⟩
    · rename Obj.data _ = Data.cell (some _) => hd1
      rename News _ _ _ _ => N1
      exact ⟨trivial, _, _, [.int 0 _], _, _, _, _, _, _, _, _, _, rfl, (by k_asm), news_pick6 N1, hd1, hcs0, .cons _ _ .nil, (by simp), (by simp), (by omega), (by omega), (by omega)⟩
  · rintro f s' ⟨rfl, ta, c, vs, ns, t, n1, n2, oct, ocs, h, m, tk, rfl, F1, N1, hct, hcs, hI, hpos, hlen, hne, hlt1, hlt2⟩
    clear F N hct0 hcs0
    k_steps
    constructor
    refine LCg.Assign_ListComp_U (F₀ := F1) rfl (by with_unfolding_all rfl) (by with_unfolding_all rfl) (by decide) (by rfl) (by decide) (by rfl) (by rfl) (by rfl) ?_
    refine gen_post fun QE hQE => ?_
    k_steps
    constructor
    refine draw_spec w _ _ _ _ _ ta c vs ns 0 _ _ _ _ _ _ _ _ _ _ _ _ _ _ _ _ _ _ _ _ _ rfl K0 F1 KX T rfl (by decide) (by decide) (news2 N1 (by k_mem) (by k_mem)) hI hne hpos hlen (by omega) (by omega) ?_
    intro h2 tk2 d td t2 vs2 ns2 m1 m2 hk2 F2 N2 hI2 hlen2 hd0 hd1
    have N3 := news_draw (r := [(s1.heap.objs.size + 1 + 1, ocs), (s1.heap.objs.size + 1, oct)]) N1 N2 hk2 (by
      intro p hp
      rcases List.mem_cons.mp hp with rfl | hp
      · exact ⟨by k_mem, off2 (Nat.ne_of_lt hlt1) (Nat.ne_of_lt hlt2)⟩
      · rw [List.mem_singleton.mp hp]
        exact ⟨by k_mem, off2 (by omega) (by omega)⟩)
    clear N1 N2 F1
    k_steps
    refine hQE _ _ ?_
    k_steps
    constructor
    rename IsRange _ _ _ _ _ _ _ _ => R9
    obtain ⟨n, hn⟩ : ∃ n : Nat, (1 + d : Int) = n := ⟨(1 + d).toNat, by omega⟩
    rw [hn] at R9
    refine LCg.CompSrc.range rfl (by k_asm) (by k_asm) R9 (rng_small (by omega)) (rng_size _) (by rw [sizeLine_eq]; omega) (fun g => ?_)
    refine compU_ind (fun i ys nw => ∃ (js : List Nat) (t : Tok) (vs : List Value) (ns : List Int) (n1 n2 : Nat), nw = [(ta, tapeO c (1 + (i : Nat)) t n1), (c, lstO vs n2), (s1.heap.objs.size + 1 + 1, ocs), (s1.heap.objs.size + 1, oct)] ∧ IntsAre vs ns ∧
      0 < ns.length ∧ ns.length ≤ 40 ∧ ys = js.map (fun j => Value.ref (280 + j)) ∧ js.length = i ∧ ∀ j ∈ js, j < 8) (fun _ _ _ _ => trivial) ⟨[], _, _, _, _, _, rfl, hI2, by omega, by omega, rfl, rfl, by simp⟩ ?_ ?_
    · rintro ys nw ⟨js, t3, vs3, ns3, n13, n23, rfl, hI3, hpos3, hlen3, rfl, hjl, hj8⟩
      intro D9 h9 tk9 F9 N9 o9
      replace o9 : (@Ne Nat ta D9) ∧ (@Ne Nat c D9) ∧ (@Ne Nat (s1.heap.objs.size + 1 + 1) D9) ∧ (@Ne Nat (s1.heap.objs.size + 1) D9) ∧ True := o9
      have N10 : News s1.heap s1.heap.objs.size h9 [(D9, lstO (js.map (fun j => Value.ref (280 + j))) (js.map (fun j => Value.ref (280 + j))).length), (s1.heap.objs.size + 1 + 1, ocs)] := news2 N9 (by k_mem) (by k_mem)
      have hn8 : n ≤ 8 := by omega
      clear N9 R9 hk2 hI hI2 hI3 hct
      rename Fr _ _ h2 _ => Fx
      rename News _ _ h2 _ => Nx
      clear Fx Nx
      k_steps
      constructor
      refine for_tuple_cell (h₀ := s1.heap) (cx := s1.heap.objs.size + 1 + 1) rfl rfl rfl rfl ?_
      refine gen_post fun QF hQF => ?_
      k_steps
      constructor
      (refine' add_lists2 ?F ?N ?u1 ?u2 ?_ ?z; (case F => k_asm); (case N => k_asm); (case u1 => exact News.isList (by k_asm) (by k_mem)); (case u2 => exact News.isList (by k_asm) (by k_mem)); (case z => (simp only [List.size_toArray, List.length_map, List.length_cons, List.length_nil, sizeLine_eq]; omega)))
      intro dAd hq3 F' N' lq3
      (try k_lt lq3)
      k_steps
      refine hQF _ _ ?_
      constructor
      rename Fr _ _ _ _ => F11
      rename News _ _ _ _ => N11
      rename_i dSg hq1 lq1 dLs hq2 lq2 dTp hq4 lq4
      obtain ⟨NW, N12, hoff, hx1, hx2, hx4, hx5⟩ := news_named N11 (neN (by dsimp only; omega)) (neN (by dsimp only; omega)) (neN (by dsimp only; omega)) (neN (by dsimp only; omega)) (neN (by dsimp only; omega))
      clear N11
      refine ⟨dTp, #[Value.ref D9, Value.ref dAd], _, ocs, none, NW, fun i m' nw => nw = NW, rfl, F11, N12, hcs, hoff, ?_, rfl, ?_, ?_⟩
      · rintro i m' nw rfl
        exact ⟨_, _, hx1, rfl, rfl⟩
      · rintro i v m₁ nw o I oI h3 tk3 hi hv rfl ho F3 N3 off hcI
        replace F3 : Fr s1.heap s1.heap.objs.size h3 _ := F3
        replace N3 : News s1.heap s1.heap.objs.size h3 _ := N3
        have h8 : ∀ j, j < 8 → TupAt s1.heap (280 + j) (tok8 j).1 (tok8 j).2 := fun j hj => by
          rcases j with _ | _ | _ | _ | _ | _ | _ | _ | j
          · exact ⟨_, _, _, KX 280 _ rfl⟩
          · exact ⟨_, _, _, KX 281 _ rfl⟩
          · exact ⟨_, _, _, KX 282 _ rfl⟩
          · exact ⟨_, _, _, KX 283 _ rfl⟩
          · exact ⟨_, _, _, KX 284 _ rfl⟩
          · exact ⟨_, _, _, KX 285 _ rfl⟩
          · exact ⟨_, _, _, KX 286 _ rfl⟩
          · exact ⟨_, _, _, KX 287 _ rfl⟩
          · exact absurd hj (Nat.not_lt.mpr (Nat.le_add_left 8 j))
        have R1 : RowsIn s1.heap nw (js.map (280 + ·)) (js.map tok8) := rows_first js h8 hj8
        have key : ∃ (lo : Addr) (as : List Addr) (ts : List TK) (k : Nat), v = .ref lo ∧ (lo, lstO (as.map Value.ref) k) ∈ nw ∧ RowsIn s1.heap nw as ts ∧ ts.length ≤ 9 ∧ ∀ t ∈ ts, t ∈ Tab := by
          rcases i with _ | _ | i
          · cases hv
            exact ⟨_, js.map (280 + ·), js.map tok8, _, rfl, by rw [List.map_map]; exact hx5, R1, by simp; omega, fun t ht => by obtain ⟨j, _, rfl⟩ := List.mem_map.mp ht; exact tok8_tab j⟩
          · cases hv
            refine ⟨_, _ :: js.map (280 + ·), (Str.ofString "sign", Str.ofString "(") :: js.map tok8, 0, rfl, ?_, rows_second R1 hx4, by simp; omega, fun t ht => ?_⟩
            · rw [List.map_cons, List.map_map]; exact hx2
            · rcases List.mem_cons.mp ht with rfl | ht
              · decide +kernel
              · obtain ⟨j, _, rfl⟩ := List.mem_map.mp ht; exact tok8_tab j
          · exact absurd hi (by simp)
        obtain ⟨lo, as, ts, k, rfl, hlo, R, htl, htab⟩ := key
        clear R1 h8 hx1 hx2 hx4 hx5 hv
        have hal := R.1
        have hal9 : as.length ≤ 9 := by omega
        have N4 : News s1.heap s1.heap.objs.size h3 ((I, oI) :: (s1.heap.objs.size + 1 + 1, o) :: (lo, lstO (as.map Value.ref) k) :: nw) := news_cons N3 (by k_mem) (news_cons N3 (by k_mem) (news_cons N3 (List.mem_cons_of_mem _ (List.mem_cons_of_mem _ hlo)) (fun p hp => N3 p (List.mem_cons_of_mem _ (List.mem_cons_of_mem _ hp)))))
        clear N3 N12
        refine gen_post fun QA hQA => ?_
        k_steps
        constructor
        refine LCg.ListComp_U (F₀ := F3) (by with_unfolding_all rfl) (by decide) (by rfl) (by decide) (by rfl) ?_
        refine gen_post fun QG hQG => ?_
        k_steps
        constructor
        refine len_vs (News.isList (by k_asm) (by k_mem)) (List.length_map _) (by omega) ?_
        k_steps
        refine hQG _ _ ?_
        k_steps
        constructor
        rename IsRange _ _ _ _ _ _ _ _ => R9
        refine LCg.CompSrc.range rfl (by k_asm) (by k_asm) R9 (rng_small (by omega)) (rng_size _) (by rw [sizeLine_eq]; omega) (fun g => ?_)
        refine compU_ind (fun i ys nw' => ∃ (tas : List Addr) (rest : List (Addr × Obj)), nw' = (I, oI) :: (s1.heap.objs.size + 1 + 1, o) :: (lo, lstO (as.map Value.ref) k) :: rest ∧ (∀ p ∈ nw, p ∈ rest) ∧ ys = tas.map Value.ref ∧ tas.length = i ∧ ToksIn rest tas ts)
          (fun _ _ _ _ => trivial) ⟨[], nw, rfl, fun _ h => h, rfl, rfl, fun i a t h => by simp at h⟩ ?_ ?_
        · rintro ys nw' ⟨tas, rest, rfl, hsub, rfl, hjl2, htoks⟩ DT hT tkT FT NT oT
          k_steps
          constructor
          refine reader_spec w _ _ _ _ _ DT _ _ _ _ _ _ _ _ _ _ _ _ _ _ _ _ _ _ rfl K0 FT KX T rfl (by decide) (by decide) NT ?_
          intro hR tkR xr dr b1 b2 b3 b4 b5 b6 b7 b8 FR NR lR lR2
          have r1 : @LT.lt Nat _ DT dr := lR (DT, LCg.lst (tas.map Value.ref)) (by k_mem)
          have r2 : @LT.lt Nat _ I dr := lR (I, oI) (by k_mem)
          have r3 : @LT.lt Nat _ (s1.heap.objs.size + 1 + 1) dr := lR (s1.heap.objs.size + 1 + 1, o) (by k_mem)
          have r4 : @LT.lt Nat _ lo dr := lR (lo, lstO (as.map Value.ref) k) (by k_mem)
          have r5 : ∀ p ∈ rest, p.1 ≠ dr := fun p hp => neN (Nat.ne_of_lt (lR p (List.mem_cons_of_mem _ (List.mem_cons_of_mem _ (List.mem_cons_of_mem _ (List.mem_cons_of_mem _ hp))))))
          clear lR
          k_steps
          constructor
          refine for_range (h₀ := s1.heap) rfl rfl rfl ?_
          refine gen_post fun QI hQI => ?_
          k_steps
          constructor
          refine len_vs (News.isList (by k_asm) (by k_mem)) (List.length_map _) (by omega) ?_
          k_steps
          refine hQI _ _ ?_
          constructor
          rename IsRange _ _ _ _ _ _ _ _ => R10
          replace R10 : IsRange _ _ 0 ((as.length + 1 : Nat) : Int) 1 _ _ _ := R10
          refine ⟨_, _, _, _, _, _, as.length + 1, _, _, fun i m₁ nw2 => m₁ (Str.ofString "reader") = some (.ref xr) ∧ ∃ (c1 : Int) (c2 : Tok) (c3 : Int) (c4 : Tok) (av : Int) (c5 : Tok) (c6 : Int) (c7 : Tok) (c8 : Value),
            nw2 = (xr, instObj 238 dr) :: (dr, dictOf [⟨c1, .str (Str.ofString "tokens") c2, .ref DT⟩, ⟨c3, .str (Str.ofString "at") c4, .int av c5⟩, ⟨c6, .str (Str.ofString "named") c7, c8⟩] 3) :: (DT, LCg.lst (tas.map Value.ref)) :: (I, oI) :: (s1.heap.objs.size + 1 + 1, o) :: (lo, lstO (as.map Value.ref) k) :: rest,
            rfl, (by k_asm), (by k_asm), R10, rng_small (by omega), rng_size _, ⟨rfl, _, _, _, _, _, _, _, _, _, rfl⟩, ?_, ?_⟩
          · rintro i2 m₂ nw2 t5 I3 oI3 h6 tk6 hi2 ⟨hmr, c1, c2, c3, c4, av, c5, c6, c7, c8, rfl⟩ F6 N6 off6
            replace F6 : Fr s1.heap s1.heap.objs.size h6 (fun y => if y = Str.ofString "at" then some (.int (0 + (i2 : Int)) t5) else if y = Str.ofString "reader" then some (.ref xr) else m₂ y) := fr_cong F6 fun y => by
              by_cases h1 : y = Str.ofString "at"
              · rw [if_pos h1, if_pos h1]
              · rw [if_neg h1, if_neg h1]
                by_cases h2 : y = Str.ofString "reader"
                · rw [if_pos h2, h2, hmr]
                · rw [if_neg h2]
            replace N6 : News s1.heap s1.heap.objs.size h6 _ := N6
            have r6 : @Ne Nat dr I3 := off6 (dr, _) (List.mem_cons_of_mem _ List.mem_cons_self)
            refine gen_post fun QD hQD => ?_
            k_steps
            constructor
            rename Fr _ _ _ _ => F9
            rename News _ _ _ _ => N9
            have hR9 : RdrAt _ xr DT (0 + (i2 : Int)) := ⟨dr, 3, _, _, _, _, _, _, _, _, InstAt.of_news N9 (by k_mem) (by k_mem)⟩
            rw [Int.zero_add] at hR9
            refine pcall_use K0 F9 KX T (is_part_pc w _ _ _ _ _ xr DT tas ts i2 (by omega)) rfl (by decide) (by decide) ⟨hR9, ⟨News.isList N9 (by k_mem), by omega, fun i a t h1 h2 => (htoks i a t h1 h2).at (fun p hp => N9 p (by simp [hp]))⟩, by omega, by omega, by omega⟩ ?_
            intro hP tkP FP stP
            have NP := N9.grown stP
            clear N9 F9 hR9 stP
            simp only [part_due]
            k_steps
            constructor
            k_dflt (refine' kmk_slice ?yF ?yN ?yl ?yp ?yq ?_ ?ys ?yt ?yz; (case yF => k_asm); (case yN => k_asm); (case yl => exact News.isList (by k_asm) (by k_mem)); (case yp => kmk_part); (case yq => kmk_part); (case ys => with_unfolding_all rfl); (case yt => kmk_pure); (case yz => (simp only [List.size_toArray, List.length_map, sizeLine_eq]; omega)))
            intro D' h' F' N' l1
            (try k_lt l1)
            k_steps
            constructor
            rename Fr _ _ _ _ => F9
            rename News _ _ _ _ => N9
            rw [pick_from (j := i2) (by omega), ← List.map_drop] at N9
            refine pcall_use K0 F9 KX T (due_pc w _ _ _ _ _ _ (as.drop i2) (ts.drop i2) (by simp; omega) (fun t ht => htab t (List.mem_of_mem_drop ht))) rfl (by decide) (by decide) ⟨News.isList N9 (by k_mem), by simp [hal], fun i a t h1 h2 => R.tup F9 N9 (fun p hp => by simp [hsub p hp]) (by rw [List.getElem?_drop] at h1; exact h1) (by rw [List.getElem?_drop] at h2; exact h2)⟩ ?_
            intro hQ tkQ FQ stQ
            have NQ := N9.grown stQ
            clear N9 F9 stQ NP FP
            k_steps
            · rename_i hb
              exact absurd hb (by simp)
            · rename_i hb
              exact absurd rfl hb
            · refine hQD _ _ (ForEnd.next _ FQ NQ (fun p hp => List.mem_cons_of_mem _ hp) (fun p hp => ?_) ⟨by (try dsimp only); rw [if_neg (by decide), if_pos rfl], c1, c2, c3, c4, _, _, c6, c7, c8, rfl⟩)
              rcases List.mem_cons.mp hp with rfl | hp
              · exact off6 _ List.mem_cons_self
              · rcases List.mem_cons.mp hp with rfl | hp
                · exact r6
                · exact off6 p (List.mem_cons_of_mem _ (List.mem_cons_of_mem _ hp))
          · rintro m₂ nw2 h6 tk6 ⟨hmr, c1, c2, c3, c4, av, c5, c6, c7, c8, rfl⟩ F6 N6
            replace F6 : Fr s1.heap s1.heap.objs.size h6 _ := F6
            replace N6 : News s1.heap s1.heap.objs.size h6 _ := N6
            k_steps
            refine hQA _ _ ⟨⟨h6, tk6, m₂, o, _, nw, rfl, F6, fun p hp => N6 p ?_, ho, off, rfl⟩⟩
            rcases List.mem_cons.mp hp with rfl | hp
            · k_mem
            · rcases List.mem_cons.mp hp with rfl | hp
              · k_mem
              · simp [hsub p hp]
        · rintro j ys nw' hj ⟨tas, rest, rfl, hsub, rfl, hjl2, htoks⟩ v I2 oI2 C2 oC2 D2 m2 h5 tk5 E' ⟨tj, rfl⟩ hC2 hm2 F5 N5 off5 ne5
          obtain ⟨a, ha⟩ : ∃ a, as[j]? = some a := ⟨as[j]'(by omega), by simp⟩
          obtain ⟨t, ht⟩ : ∃ t, ts[j]? = some t := ⟨ts[j]'(by omega), by simp⟩
          have hx : (as.map Value.ref)[((0 : Int) + (j : Int)).toNat]? = some (.ref a) := by
            rw [show ((0 : Int) + (j : Int)).toNat = j by omega, List.getElem?_map, ha]; rfl
          have hjl3 : (0 : Int) + (j : Int) < 2 ^ 63 := by omega
          obtain ⟨nt, tt1, tt2, htup⟩ := R.tup F5 N5 (fun p hp => List.mem_cons_of_mem _ (List.mem_cons_of_mem _ (List.mem_cons_of_mem _ (List.mem_cons_of_mem _ (List.mem_cons_of_mem _ (List.mem_cons_of_mem _ (hsub p hp))))))) ha ht
          refine gen_post fun QC hQC => ?_
          have htup2 : IsTup h5 a [Value.str t.1 tt1, Value.str t.2 tt2].toArray := ⟨_, htup, rfl, _, rfl⟩
          k_steps
          constructor
          refine item_listL (News.isList N5 (by k_mem)) (by omega) hjl3 hx ?_
          k_steps
          constructor
          refine item_tupleT (j := 0) htup2 (by decide) (by decide) (by rfl) rfl ?_ (by with_unfolding_all rfl)
          k_steps
          constructor
          refine item_listL (News.isList N5 (by k_mem)) (by omega) hjl3 hx ?_
          k_steps
          constructor
          refine item_tupleT (j := 1) htup2 (by decide) (by decide) (by rfl) rfl ?_ (by with_unfolding_all rfl)
          k_steps
          constructor
          rename Fr _ _ _ _ => F6
          rename News _ _ _ _ => N6
          refine tok_spec w _ _ _ _ _ t.1 t.2 _ _ _ _ _ _ _ _ _ _ _ _ _ _ _ _ _ _ _ _ _ rfl K0 F6 KX T rfl (by decide) (by decide) N6 ?_
          intro h8 tk8 xo dx b1 b2 b3 b4 b5 b6 b7 b8 b9 b10 b11 b12 F8 N8 l8 l9
          have q1 : @LT.lt Nat _ I2 dx := l8 (I2, oI2) (by k_mem)
          have q2 : @LT.lt Nat _ C2 dx := l8 (C2, oC2) (by k_mem)
          have q3 : @LT.lt Nat _ D2 dx := l8 (D2, LCg.lst (tas.map Value.ref)) (by k_mem)
          obtain ⟨ob, N9, hob⟩ := tok_pack N8
          clear N8
          refine hQC _ _ (EltEndN.mk ((I, oI) :: (s1.heap.objs.size + 1 + 1, o) :: (lo, lstO (as.map Value.ref) k) :: (xo, instObj 268 dx) :: (dx, ob) :: rest) F8 N9 ?_ ?_ ⟨tas ++ [xo], (xo, instObj 268 dx) :: (dx, ob) :: rest, rfl, ?_, by simp, by simp [hjl2], ?_⟩)
          · intro p hp
            simp only [List.mem_cons] at hp ⊢
            rcases hp with h | h | h | h | h | h | h | h | h <;> simp [h]
          · exact ⟨off5.1, off5.2.1, off5.2.2.1, ⟨neN (by dsimp only; omega), neN (by dsimp only; omega), neN (by dsimp only; omega)⟩, ⟨neN (by dsimp only; omega), neN (by dsimp only; omega), neN (by dsimp only; omega)⟩, off5.2.2.2⟩
          · exact fun p hp => List.mem_cons_of_mem _ (List.mem_cons_of_mem _ (hsub p hp))
          · exact htoks.snoc (fun p hp => List.mem_cons_of_mem _ (List.mem_cons_of_mem _ hp)) (by rw [hjl2]; exact ht) (hob _ List.mem_cons_self (List.mem_cons_of_mem _ List.mem_cons_self))
      · intro m₁ o v nw h3 tk3 hJ F3 N3 ho
        replace F3 : Fr s1.heap s1.heap.objs.size h3 _ := F3
        k_steps
    · rintro i ys nw hi ⟨js, t3, vs3, ns3, n13, n23, rfl, hI3, hpos3, hlen3, rfl, hjl, hj8⟩ v I oI C oC D m3 h3 tk3 E' ⟨tj, rfl⟩ hC hm F4 N4 off ne
      refine gen_post fun QB hQB => ?_
      k_steps
      constructor
      refine draw_spec w _ _ _ _ _ ta c vs3 ns3 _ _ _ _ _ _ _ _ _ _ _ _ _ _ _ _ _ _ _ _ _ _ rfl K0 F4 KX T rfl (by decide) (by decide) (news2 N4 (by k_mem) (by k_mem)) hI3 hne hpos3 hlen3 (by omega) (by omega) ?_
      intro h5 tk5 d5 td5 t5 vs5 ns5 m15 m25 hk5 F5 N5 hI5 hlen5 hd50 hd51
      have o1 := off.mem _ List.mem_cons_self
      have o2 := off.mem _ (List.mem_cons_of_mem _ List.mem_cons_self)
      have N6 := news_draw (r := [(I, oI), (C, oC), (D, LCg.lst (js.map (fun j => Value.ref (280 + j)))), (s1.heap.objs.size + 1 + 1, ocs), (s1.heap.objs.size + 1, oct)]) N4 N5 hk5 (by
        intro p hp
        simp only [List.mem_cons, List.not_mem_nil, or_false] at hp
        rcases hp with rfl | rfl | rfl | rfl | rfl
        · exact ⟨by k_mem, off2 (Ne.symm o1.1) (Ne.symm o2.1)⟩
        · exact ⟨by k_mem, off2 (Ne.symm o1.2.1) (Ne.symm o2.2.1)⟩
        · exact ⟨by k_mem, off2 (Ne.symm o1.2.2) (Ne.symm o2.2.2)⟩
        · exact ⟨by k_mem, off2 (Nat.ne_of_lt hlt1) (Nat.ne_of_lt hlt2)⟩
        · exact ⟨by k_mem, off2 (by omega) (by omega)⟩)
      have hmenu : IsTup h5 288 [Value.ref 280, Value.ref 281, Value.ref 282, Value.ref 283, Value.ref 284, Value.ref 285, Value.ref 286, Value.ref 287].toArray := ⟨_, F5.keep _ _ (KX 288 _ rfl), rfl, _, rfl⟩
      have hitem : [Value.ref 280, Value.ref 281, Value.ref 282, Value.ref 283, Value.ref 284, Value.ref 285, Value.ref 286, Value.ref 287][d5.toNat]? = some (Value.ref (280 + d5.toNat)) := by
        have : d5.toNat < 8 := by omega
        generalize d5.toNat = q at *
        rcases q with _ | _ | _ | _ | _ | _ | _ | _ | q <;> first | rfl | omega
      clear N4 N5 F4
      refine item_tupleT hmenu (by omega) (by omega) (seqIndex_of hd50 (by simpa using hd51)) hitem ?_ (by with_unfolding_all rfl)
      refine hQB _ _ (EltEndN.mk [(ta, tapeO c (1 + ((i + 1 : Nat) : Int)) t5 m15), (c, lstO vs5 m25), (s1.heap.objs.size + 1 + 1, ocs), (s1.heap.objs.size + 1, oct)] F5 N6 ?_ ?_ ?_)
      · rw [show (1 + ((i + 1 : Nat) : Int)) = 1 + (i : Nat) + 1 by omega]
        intro p hp
        simp only [List.mem_cons, List.not_mem_nil, or_false] at hp ⊢
        rcases hp with h | h | h | h | h | h | h <;> simp [h]
      · exact off
      · refine ⟨js ++ [d5.toNat], t5, vs5, ns5, m15, m25, rfl, hI5, by omega, by omega, by simp, by simp [hjl], fun j hj => ?_⟩
        rcases List.mem_append.mp hj with hj | hj
        · exact hj8 j hj
        · rw [List.mem_singleton.mp hj]; omega)
end
end
end Mine
theorem PySem.Challenge.cw_pb0248_01_holds : PySem.Challenge.rw_pb0248_01.Holds := by
  exact Mine.holds
