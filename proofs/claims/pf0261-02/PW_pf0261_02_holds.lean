import PyProof.Rows.All
import Wide.All
import OpenK.AllK
import Wide.FinOn
import Lean
import PySem.Challenge.RW_pf0261_02
set_option Elab.async false
set_option maxRecDepth 100000
set_option linter.all false
namespace Mine
open PySem PySem.Spec PySem.W PyProof.Rows PySem.Calls

section
noncomputable def pg : Program := PySem.Challenge.pw_pf0261_02
def nthS : Nat → List Stmt → Stmt
  | 0, a :: _ => a
  | n + 1, _ :: r => nthS n r
  | _, [] => .Return none ⟨0, 0, 0, 0⟩
noncomputable def topS (i : Nat) : Stmt := nthS i pg.main.body
noncomputable def memS (i j : Nat) : Stmt := match topS i with | .ClassDef _ _ _ b _ _ _ _ _ _ _ => nthS j b | s => s
/-- the function object that a def's statement leaves -/
def fnO (s : Stmt) (qual : Str) (cls : Value) (dict : Option Addr) (slots : Array (Option Value)) (globals : Addr) (closure : List (Str × Addr)) (dV kV doc md : Value) (an : Option Addr) (code ct : Value) (bu : Addr) : Obj := match s with
  | .FunctionDef n a b _ _ _ sc _ _ _ => { cls := cls, dict := dict, data := .func { name := n, qualname := qual, params := a, body := .stmts b, scope := sc, globals := globals, closure := closure, defaults := dV, kwdefaults := kV, doc := doc, pyModule := md, annotations := an, code := code, closureTuple := ct, builtins := bu }, slots := slots }
  | _ => { cls := cls }
noncomputable def heapK : Params → Frag := fun P =>
(nat_lit 2, { cls := Value.none, data := Data.dict #[] }) ::
 (nat_lit 3, { cls := Value.type "dict", data := Data.dict #[{ hash := PyData.keyHash P (Str.ofString "__name__"), key := Value.str (Str.ofString "__name__") 165, val := Value.str (Str.ofString "law_pf0261_02") 448 }, { hash := PyData.keyHash P (Str.ofString "__doc__"), key := Value.str (Str.ofString "__doc__") 166, val := Value.none }, { hash := PyData.keyHash P (Str.ofString "__package__"), key := Value.str (Str.ofString "__package__") 167, val := Value.none }, { hash := PyData.keyHash P (Str.ofString "__loader__"), key := Value.str (Str.ofString "__loader__") 168, val := Value.builtin "__main__.__loader__#opaque" }, { hash := PyData.keyHash P (Str.ofString "__spec__"), key := Value.str (Str.ofString "__spec__") 169, val := Value.none }, { hash := PyData.keyHash P (Str.ofString "__annotations__"), key := Value.str (Str.ofString "__annotations__") 170, val := Value.ref 6 }, { hash := PyData.keyHash P (Str.ofString "__builtins__"), key := Value.str (Str.ofString "__builtins__") 171, val := Value.ref 4 }, { hash := PyData.keyHash P (Str.ofString "__file__"), key := Value.str (Str.ofString "__file__") 173, val := Value.str (Str.ofString "/claim/cut.py") 172 }, { hash := PyData.keyHash P (Str.ofString "__cached__"), key := Value.str (Str.ofString "__cached__") 174, val := Value.none }, { hash := PyData.keyHash P (Str.ofString "_wall"), key := Value.str (Str.ofString "_wall") 193, val := Value.ref 21 }, { hash := PyData.keyHash P (Str.ofString "add_number"), key := Value.str (Str.ofString "add_number") 203, val := Value.ref 28 }, { hash := PyData.keyHash P (Str.ofString "add_range"), key := Value.str (Str.ofString "add_range") 215, val := Value.ref 35 }, { hash := PyData.keyHash P (Str.ofString "has_number"), key := Value.str (Str.ofString "has_number") 221, val := Value.ref 40 }, { hash := PyData.keyHash P (Str.ofString "ack_of"), key := Value.str (Str.ofString "ack_of") 229, val := Value.ref 47 }, { hash := PyData.keyHash P (Str.ofString "prune"), key := Value.str (Str.ofString "prune") 235, val := Value.ref 52 }, { hash := PyData.keyHash P (Str.ofString "MOST_RANGES"), key := Value.str (Str.ofString "MOST_RANGES") 239, val := Value.int 32 238 }, { hash := PyData.keyHash P (Str.ofString "KEPT_RANGES"), key := Value.str (Str.ofString "KEPT_RANGES") 241, val := Value.int 64 240 }, { hash := PyData.keyHash P (Str.ofString "ACK_EACH"), key := Value.str (Str.ofString "ACK_EACH") 243, val := Value.int 2 242 }, { hash := PyData.keyHash P (Str.ofString "ECN_PLACES"), key := Value.str (Str.ofString "ECN_PLACES") 247, val := Value.ref 53 }, { hash := PyData.keyHash P (Str.ofString "Space"), key := Value.str (Str.ofString "Space") 440, val := Value.ref 196 }, { hash := PyData.keyHash P (Str.ofString "kept_ranges"), key := Value.str (Str.ofString "kept_ranges") 447, val := Value.ref 207 }, { hash := PyData.keyHash P (Str.ofString "_law_draw"), key := Value.str (Str.ofString "_law_draw") 459, val := Value.ref 214 }, { hash := PyData.keyHash P (Str.ofString "_law_singles"), key := Value.str (Str.ofString "_law_singles") 465, val := Value.ref 219 }, { hash := PyData.keyHash P (Str.ofString "_law_joined"), key := Value.str (Str.ofString "_law_joined") 471, val := Value.ref 224 }, { hash := PyData.keyHash P (Str.ofString "_law_known_right"), key := Value.str (Str.ofString "_law_known_right") 485, val := Value.ref 231 }, { hash := PyData.keyHash P (Str.ofString "law"), key := Value.str (Str.ofString "law") 491, val := Value.ref 236 }] 26 }) ::
 (nat_lit 15, { cls := Value.type "tuple", data := Data.seq #[] }) ::
 (nat_lit 17, { cls := Value.type "tuple", data := Data.seq #[Value.str (Str.ofString "k") 190] }) ::
 (nat_lit 18, { cls := Value.type "tuple", data := Data.seq #[] }) ::
 (nat_lit 20, { cls := Value.type "code", data := Data.fields #[Value.str (Str.ofString "_wall") 187, Value.str (Str.ofString "_wall") 188, Value.str (Str.ofString "/claim/cut.py") 189, Value.int 1 0, Value.int 1 0, Value.int 0 0, Value.int 0 0, Value.int 3 0, Value.ref 15, Value.bool true, Value.int 181 0, Value.ref 16, Value.none, Value.ref 17, Value.ref 18, Value.ref 19, Value.int 191 0, Value.int 1 0, Value.str (Str.ofString "/claim/cut.py") 192] }) ::
 (nat_lit 21, fnO (topS 0) (Str.ofString "_wall") (Value.type "function") (none) (#[]) (3) ([]) (Value.none) (Value.none) (Value.none) (Value.str (Str.ofString "__main__") 164) (none) (Value.ref 20) (Value.none) (0)) ::
 (nat_lit 22, { cls := Value.type "tuple", data := Data.seq #[] }) ::
 (nat_lit 24, { cls := Value.type "tuple", data := Data.seq #[Value.str (Str.ofString "ranges") 199, Value.str (Str.ofString "n") 200] }) ::
 (nat_lit 25, { cls := Value.type "tuple", data := Data.seq #[] }) ::
 (nat_lit 27, { cls := Value.type "code", data := Data.fields #[Value.str (Str.ofString "add_number") 196, Value.str (Str.ofString "add_number") 197, Value.str (Str.ofString "/claim/cut.py") 198, Value.int 5 0, Value.int 2 0, Value.int 0 0, Value.int 0 0, Value.int 3 0, Value.ref 22, Value.bool true, Value.int 181 0, Value.ref 23, Value.none, Value.ref 24, Value.ref 25, Value.ref 26, Value.int 201 0, Value.int 5 0, Value.str (Str.ofString "/claim/cut.py") 202] }) ::
 (nat_lit 28, fnO (topS 2) (Str.ofString "add_number") (Value.type "function") (none) (#[]) (3) ([]) (Value.none) (Value.none) (Value.none) (Value.str (Str.ofString "quic.ranges") 194) (none) (Value.ref 27) (Value.none) (0)) ::
 (nat_lit 29, { cls := Value.type "tuple", data := Data.seq #[] }) ::
 (nat_lit 31, { cls := Value.type "tuple", data := Data.seq #[Value.str (Str.ofString "ranges") 207, Value.str (Str.ofString "low") 208, Value.str (Str.ofString "high") 209, Value.str (Str.ofString "found") 210, Value.str (Str.ofString "is_in") 211, Value.str (Str.ofString "one") 212] }) ::
 (nat_lit 32, { cls := Value.type "tuple", data := Data.seq #[] }) ::
 (nat_lit 34, { cls := Value.type "code", data := Data.fields #[Value.str (Str.ofString "add_range") 204, Value.str (Str.ofString "add_range") 205, Value.str (Str.ofString "/claim/cut.py") 206, Value.int 7 0, Value.int 3 0, Value.int 0 0, Value.int 0 0, Value.int 3 0, Value.ref 29, Value.bool true, Value.int 181 0, Value.ref 30, Value.none, Value.ref 31, Value.ref 32, Value.ref 33, Value.int 213 0, Value.int 7 0, Value.str (Str.ofString "/claim/cut.py") 214] }) ::
 (nat_lit 35, fnO (topS 3) (Str.ofString "add_range") (Value.type "function") (none) (#[]) (3) ([]) (Value.none) (Value.none) (Value.none) (Value.str (Str.ofString "quic.ranges") 194) (none) (Value.ref 34) (Value.none) (0)) ::
 (nat_lit 36, { cls := Value.type "tuple", data := Data.seq #[] }) ::
 (nat_lit 39, { cls := Value.type "code", data := Data.fields #[Value.str (Str.ofString "has_number") 216, Value.str (Str.ofString "has_number") 217, Value.str (Str.ofString "/claim/cut.py") 218, Value.int 20 0, Value.int 2 0, Value.int 0 0, Value.int 0 0, Value.int 3 0, Value.ref 36, Value.bool true, Value.int 181 0, Value.ref 37, Value.none, Value.none, Value.none, Value.ref 38, Value.int 219 0, Value.int 20 0, Value.str (Str.ofString "/claim/cut.py") 220] }) ::
 (nat_lit 40, fnO (topS 4) (Str.ofString "has_number") (Value.type "function") (none) (#[]) (3) ([]) (Value.none) (Value.none) (Value.none) (Value.str (Str.ofString "quic.ranges") 194) (none) (Value.ref 39) (Value.none) (0)) ::
 (nat_lit 41, { cls := Value.type "tuple", data := Data.seq #[] }) ::
 (nat_lit 43, { cls := Value.type "tuple", data := Data.seq #[Value.str (Str.ofString "ranges") 225, Value.str (Str.ofString "most") 226] }) ::
 (nat_lit 44, { cls := Value.type "tuple", data := Data.seq #[] }) ::
 (nat_lit 46, { cls := Value.type "code", data := Data.fields #[Value.str (Str.ofString "ack_of") 222, Value.str (Str.ofString "ack_of") 223, Value.str (Str.ofString "/claim/cut.py") 224, Value.int 22 0, Value.int 2 0, Value.int 0 0, Value.int 0 0, Value.int 3 0, Value.ref 41, Value.bool true, Value.int 181 0, Value.ref 42, Value.none, Value.ref 43, Value.ref 44, Value.ref 45, Value.int 227 0, Value.int 22 0, Value.str (Str.ofString "/claim/cut.py") 228] }) ::
 (nat_lit 47, fnO (topS 5) (Str.ofString "ack_of") (Value.type "function") (none) (#[]) (3) ([]) (Value.none) (Value.none) (Value.none) (Value.str (Str.ofString "quic.ranges") 194) (none) (Value.ref 46) (Value.none) (0)) ::
 (nat_lit 48, { cls := Value.type "tuple", data := Data.seq #[] }) ::
 (nat_lit 51, { cls := Value.type "code", data := Data.fields #[Value.str (Str.ofString "prune") 230, Value.str (Str.ofString "prune") 231, Value.str (Str.ofString "/claim/cut.py") 232, Value.int 24 0, Value.int 2 0, Value.int 0 0, Value.int 0 0, Value.int 3 0, Value.ref 48, Value.bool true, Value.int 181 0, Value.ref 49, Value.none, Value.none, Value.none, Value.ref 50, Value.int 233 0, Value.int 24 0, Value.str (Str.ofString "/claim/cut.py") 234] }) ::
 (nat_lit 52, fnO (topS 6) (Str.ofString "prune") (Value.type "function") (none) (#[]) (3) ([]) (Value.none) (Value.none) (Value.none) (Value.str (Str.ofString "quic.ranges") 194) (none) (Value.ref 51) (Value.none) (0)) ::
 (nat_lit 53, { cls := Value.type "tuple", data := Data.seq #[Value.none, Value.int 1 244, Value.int 0 245, Value.int 2 246] }) ::
 (nat_lit 61, { cls := Value.type "tuple", data := Data.seq #[] }) ::
 (nat_lit 63, { cls := Value.type "tuple", data := Data.seq #[Value.str (Str.ofString "self") 263, Value.str (Str.ofString "name") 264] }) ::
 (nat_lit 64, { cls := Value.type "tuple", data := Data.seq #[] }) ::
 (nat_lit 66, { cls := Value.type "code", data := Data.fields #[Value.str (Str.ofString "__init__") 260, Value.str (Str.ofString "Space.__init__") 261, Value.str (Str.ofString "/claim/cut.py") 262, Value.int 33 0, Value.int 2 0, Value.int 0 0, Value.int 0 0, Value.int 3 0, Value.ref 61, Value.bool true, Value.int 181 0, Value.ref 62, Value.none, Value.ref 63, Value.ref 64, Value.ref 65, Value.int 265 0, Value.int 33 0, Value.str (Str.ofString "/claim/cut.py") 266] }) ::
 (nat_lit 67, fnO (memS 12 0) (Str.ofString "Space.__init__") (Value.type "function") (none) (#[]) (3) ([]) (Value.none) (Value.none) (Value.none) (Value.str (Str.ofString "quic.spaces") 236) (none) (Value.ref 66) (Value.none) (0)) ::
 (nat_lit 68, { cls := Value.type "tuple", data := Data.seq #[] }) ::
 (nat_lit 70, { cls := Value.type "tuple", data := Data.seq #[Value.str (Str.ofString "self") 271, Value.str (Str.ofString "number") 272] }) ::
 (nat_lit 71, { cls := Value.type "tuple", data := Data.seq #[] }) ::
 (nat_lit 73, { cls := Value.type "code", data := Data.fields #[Value.str (Str.ofString "is_known") 268, Value.str (Str.ofString "Space.is_known") 269, Value.str (Str.ofString "/claim/cut.py") 270, Value.int 52 0, Value.int 2 0, Value.int 0 0, Value.int 0 0, Value.int 3 0, Value.ref 68, Value.bool true, Value.int 181 0, Value.ref 69, Value.none, Value.ref 70, Value.ref 71, Value.ref 72, Value.int 273 0, Value.int 52 0, Value.str (Str.ofString "/claim/cut.py") 274] }) ::
 (nat_lit 74, fnO (memS 12 1) (Str.ofString "Space.is_known") (Value.type "function") (none) (#[]) (3) ([]) (Value.none) (Value.none) (Value.none) (Value.str (Str.ofString "quic.spaces") 236) (none) (Value.ref 73) (Value.none) (0)) ::
 (nat_lit 75, { cls := Value.type "tuple", data := Data.seq #[] }) ::
 (nat_lit 77, { cls := Value.type "tuple", data := Data.seq #[Value.str (Str.ofString "self") 279, Value.str (Str.ofString "number") 280, Value.str (Str.ofString "now") 281, Value.str (Str.ofString "has_eliciting") 282, Value.str (Str.ofString "mark") 283, Value.str (Str.ofString "is_gap") 284, Value.str (Str.ofString "ranges") 285] }) ::
 (nat_lit 78, { cls := Value.type "tuple", data := Data.seq #[] }) ::
 (nat_lit 80, { cls := Value.type "code", data := Data.fields #[Value.str (Str.ofString "on_received") 276, Value.str (Str.ofString "Space.on_received") 277, Value.str (Str.ofString "/claim/cut.py") 278, Value.int 57 0, Value.int 5 0, Value.int 0 0, Value.int 0 0, Value.int 3 0, Value.ref 75, Value.bool true, Value.int 181 0, Value.ref 76, Value.none, Value.ref 77, Value.ref 78, Value.ref 79, Value.int 286 0, Value.int 57 0, Value.str (Str.ofString "/claim/cut.py") 287] }) ::
 (nat_lit 81, fnO (memS 12 2) (Str.ofString "Space.on_received") (Value.type "function") (none) (#[]) (3) ([]) (Value.none) (Value.none) (Value.none) (Value.str (Str.ofString "quic.spaces") 236) (none) (Value.ref 80) (Value.none) (0)) ::
 (nat_lit 82, { cls := Value.type "tuple", data := Data.seq #[] }) ::
 (nat_lit 84, { cls := Value.type "tuple", data := Data.seq #[Value.str (Str.ofString "self") 292, Value.str (Str.ofString "now") 293, Value.str (Str.ofString "exponent") 294, Value.str (Str.ofString "delay") 295, Value.str (Str.ofString "marks") 296] }) ::
 (nat_lit 85, { cls := Value.type "tuple", data := Data.seq #[] }) ::
 (nat_lit 87, { cls := Value.type "code", data := Data.fields #[Value.str (Str.ofString "ack_frame") 289, Value.str (Str.ofString "Space.ack_frame") 290, Value.str (Str.ofString "/claim/cut.py") 291, Value.int 74 0, Value.int 3 0, Value.int 0 0, Value.int 0 0, Value.int 3 0, Value.ref 82, Value.bool true, Value.int 181 0, Value.ref 83, Value.none, Value.ref 84, Value.ref 85, Value.ref 86, Value.int 297 0, Value.int 74 0, Value.str (Str.ofString "/claim/cut.py") 298] }) ::
 (nat_lit 88, fnO (memS 12 3) (Str.ofString "Space.ack_frame") (Value.type "function") (none) (#[]) (3) ([]) (Value.none) (Value.none) (Value.none) (Value.str (Str.ofString "quic.spaces") 236) (none) (Value.ref 87) (Value.none) (0)) ::
 (nat_lit 89, { cls := Value.type "tuple", data := Data.seq #[] }) ::
 (nat_lit 91, { cls := Value.type "tuple", data := Data.seq #[Value.str (Str.ofString "self") 303] }) ::
 (nat_lit 92, { cls := Value.type "tuple", data := Data.seq #[] }) ::
 (nat_lit 94, { cls := Value.type "code", data := Data.fields #[Value.str (Str.ofString "on_ack_sent") 300, Value.str (Str.ofString "Space.on_ack_sent") 301, Value.str (Str.ofString "/claim/cut.py") 302, Value.int 81 0, Value.int 1 0, Value.int 0 0, Value.int 0 0, Value.int 3 0, Value.ref 89, Value.bool true, Value.int 181 0, Value.ref 90, Value.none, Value.ref 91, Value.ref 92, Value.ref 93, Value.int 304 0, Value.int 81 0, Value.str (Str.ofString "/claim/cut.py") 305] }) ::
 (nat_lit 95, fnO (memS 12 4) (Str.ofString "Space.on_ack_sent") (Value.type "function") (none) (#[]) (3) ([]) (Value.none) (Value.none) (Value.none) (Value.str (Str.ofString "quic.spaces") 236) (none) (Value.ref 94) (Value.none) (0)) ::
 (nat_lit 96, { cls := Value.type "tuple", data := Data.seq #[] }) ::
 (nat_lit 98, { cls := Value.type "tuple", data := Data.seq #[Value.str (Str.ofString "self") 310] }) ::
 (nat_lit 99, { cls := Value.type "tuple", data := Data.seq #[] }) ::
 (nat_lit 101, { cls := Value.type "code", data := Data.fields #[Value.str (Str.ofString "owes_ack") 307, Value.str (Str.ofString "Space.owes_ack") 308, Value.str (Str.ofString "/claim/cut.py") 309, Value.int 84 0, Value.int 1 0, Value.int 0 0, Value.int 0 0, Value.int 3 0, Value.ref 96, Value.bool true, Value.int 181 0, Value.ref 97, Value.none, Value.ref 98, Value.ref 99, Value.ref 100, Value.int 311 0, Value.int 84 0, Value.str (Str.ofString "/claim/cut.py") 312] }) ::
 (nat_lit 102, fnO (memS 12 5) (Str.ofString "Space.owes_ack") (Value.type "function") (none) (#[]) (3) ([]) (Value.none) (Value.none) (Value.none) (Value.str (Str.ofString "quic.spaces") 236) (none) (Value.ref 101) (Value.none) (0)) ::
 (nat_lit 103, { cls := Value.type "tuple", data := Data.seq #[] }) ::
 (nat_lit 105, { cls := Value.type "tuple", data := Data.seq #[Value.str (Str.ofString "self") 317] }) ::
 (nat_lit 106, { cls := Value.type "tuple", data := Data.seq #[] }) ::
 (nat_lit 108, { cls := Value.type "code", data := Data.fields #[Value.str (Str.ofString "take_number") 314, Value.str (Str.ofString "Space.take_number") 315, Value.str (Str.ofString "/claim/cut.py") 316, Value.int 87 0, Value.int 1 0, Value.int 0 0, Value.int 0 0, Value.int 3 0, Value.ref 103, Value.bool true, Value.int 181 0, Value.ref 104, Value.none, Value.ref 105, Value.ref 106, Value.ref 107, Value.int 318 0, Value.int 87 0, Value.str (Str.ofString "/claim/cut.py") 319] }) ::
 (nat_lit 109, fnO (memS 12 6) (Str.ofString "Space.take_number") (Value.type "function") (none) (#[]) (3) ([]) (Value.none) (Value.none) (Value.none) (Value.str (Str.ofString "quic.spaces") 236) (none) (Value.ref 108) (Value.none) (0)) ::
 (nat_lit 110, { cls := Value.type "tuple", data := Data.seq #[] }) ::
 (nat_lit 112, { cls := Value.type "tuple", data := Data.seq #[Value.str (Str.ofString "self") 324, Value.str (Str.ofString "number") 325, Value.str (Str.ofString "now") 326, Value.str (Str.ofString "size") 327, Value.str (Str.ofString "frames") 328] }) ::
 (nat_lit 113, { cls := Value.type "tuple", data := Data.seq #[] }) ::
 (nat_lit 115, { cls := Value.type "code", data := Data.fields #[Value.str (Str.ofString "on_sent") 321, Value.str (Str.ofString "Space.on_sent") 322, Value.str (Str.ofString "/claim/cut.py") 323, Value.int 90 0, Value.int 5 0, Value.int 0 0, Value.int 0 0, Value.int 3 0, Value.ref 110, Value.bool true, Value.int 181 0, Value.ref 111, Value.none, Value.ref 112, Value.ref 113, Value.ref 114, Value.int 329 0, Value.int 90 0, Value.str (Str.ofString "/claim/cut.py") 330] }) ::
 (nat_lit 116, fnO (memS 12 7) (Str.ofString "Space.on_sent") (Value.type "function") (none) (#[]) (3) ([]) (Value.none) (Value.none) (Value.none) (Value.str (Str.ofString "quic.spaces") 236) (none) (Value.ref 115) (Value.none) (0)) ::
 (nat_lit 117, { cls := Value.type "tuple", data := Data.seq #[] }) ::
 (nat_lit 119, { cls := Value.type "tuple", data := Data.seq #[Value.str (Str.ofString "self") 335, Value.str (Str.ofString "numbers") 336] }) ::
 (nat_lit 120, { cls := Value.type "tuple", data := Data.seq #[] }) ::
 (nat_lit 122, { cls := Value.type "code", data := Data.fields #[Value.str (Str.ofString "take") 332, Value.str (Str.ofString "Space.take") 333, Value.str (Str.ofString "/claim/cut.py") 334, Value.int 93 0, Value.int 2 0, Value.int 0 0, Value.int 0 0, Value.int 3 0, Value.ref 117, Value.bool true, Value.int 181 0, Value.ref 118, Value.none, Value.ref 119, Value.ref 120, Value.ref 121, Value.int 337 0, Value.int 93 0, Value.str (Str.ofString "/claim/cut.py") 338] }) ::
 (nat_lit 123, fnO (memS 12 8) (Str.ofString "Space.take") (Value.type "function") (none) (#[]) (3) ([]) (Value.none) (Value.none) (Value.none) (Value.str (Str.ofString "quic.spaces") 236) (none) (Value.ref 122) (Value.none) (0)) ::
 (nat_lit 124, { cls := Value.type "tuple", data := Data.seq #[] }) ::
 (nat_lit 126, { cls := Value.type "tuple", data := Data.seq #[Value.str (Str.ofString "self") 343, Value.str (Str.ofString "ranges") 344] }) ::
 (nat_lit 127, { cls := Value.type "tuple", data := Data.seq #[] }) ::
 (nat_lit 129, { cls := Value.type "code", data := Data.fields #[Value.str (Str.ofString "acked_by") 340, Value.str (Str.ofString "Space.acked_by") 341, Value.str (Str.ofString "/claim/cut.py") 342, Value.int 96 0, Value.int 2 0, Value.int 0 0, Value.int 0 0, Value.int 3 0, Value.ref 124, Value.bool true, Value.int 181 0, Value.ref 125, Value.none, Value.ref 126, Value.ref 127, Value.ref 128, Value.int 345 0, Value.int 96 0, Value.str (Str.ofString "/claim/cut.py") 346] }) ::
 (nat_lit 130, fnO (memS 12 9) (Str.ofString "Space.acked_by") (Value.type "function") (none) (#[]) (3) ([]) (Value.none) (Value.none) (Value.none) (Value.str (Str.ofString "quic.spaces") 236) (none) (Value.ref 129) (Value.none) (0)) ::
 (nat_lit 131, { cls := Value.type "tuple", data := Data.seq #[] }) ::
 (nat_lit 133, { cls := Value.type "tuple", data := Data.seq #[Value.str (Str.ofString "self") 351, Value.str (Str.ofString "numbers") 352, Value.str (Str.ofString "number") 353] }) ::
 (nat_lit 134, { cls := Value.type "tuple", data := Data.seq #[] }) ::
 (nat_lit 136, { cls := Value.type "code", data := Data.fields #[Value.str (Str.ofString "note_acked") 348, Value.str (Str.ofString "Space.note_acked") 349, Value.str (Str.ofString "/claim/cut.py") 350, Value.int 99 0, Value.int 2 0, Value.int 0 0, Value.int 0 0, Value.int 3 0, Value.ref 131, Value.bool true, Value.int 181 0, Value.ref 132, Value.none, Value.ref 133, Value.ref 134, Value.ref 135, Value.int 354 0, Value.int 99 0, Value.str (Str.ofString "/claim/cut.py") 355] }) ::
 (nat_lit 137, fnO (memS 12 10) (Str.ofString "Space.note_acked") (Value.type "function") (none) (#[]) (3) ([]) (Value.none) (Value.none) (Value.none) (Value.str (Str.ofString "quic.spaces") 236) (none) (Value.ref 136) (Value.none) (0)) ::
 (nat_lit 138, { cls := Value.type "tuple", data := Data.seq #[] }) ::
 (nat_lit 140, { cls := Value.type "tuple", data := Data.seq #[Value.str (Str.ofString "self") 360, Value.str (Str.ofString "ranges") 361] }) ::
 (nat_lit 141, { cls := Value.type "tuple", data := Data.seq #[] }) ::
 (nat_lit 143, { cls := Value.type "code", data := Data.fields #[Value.str (Str.ofString "note_ranges") 357, Value.str (Str.ofString "Space.note_ranges") 358, Value.str (Str.ofString "/claim/cut.py") 359, Value.int 103 0, Value.int 2 0, Value.int 0 0, Value.int 0 0, Value.int 3 0, Value.ref 138, Value.bool true, Value.int 181 0, Value.ref 139, Value.none, Value.ref 140, Value.ref 141, Value.ref 142, Value.int 362 0, Value.int 103 0, Value.str (Str.ofString "/claim/cut.py") 363] }) ::
 (nat_lit 144, fnO (memS 12 11) (Str.ofString "Space.note_ranges") (Value.type "function") (none) (#[]) (3) ([]) (Value.none) (Value.none) (Value.none) (Value.str (Str.ofString "quic.spaces") 236) (none) (Value.ref 143) (Value.none) (0)) ::
 (nat_lit 145, { cls := Value.type "tuple", data := Data.seq #[] }) ::
 (nat_lit 147, { cls := Value.type "tuple", data := Data.seq #[Value.str (Str.ofString "self") 368, Value.str (Str.ofString "ranges") 369] }) ::
 (nat_lit 148, { cls := Value.type "tuple", data := Data.seq #[] }) ::
 (nat_lit 150, { cls := Value.type "code", data := Data.fields #[Value.str (Str.ofString "is_beyond") 365, Value.str (Str.ofString "Space.is_beyond") 366, Value.str (Str.ofString "/claim/cut.py") 367, Value.int 106 0, Value.int 2 0, Value.int 0 0, Value.int 0 0, Value.int 3 0, Value.ref 145, Value.bool true, Value.int 181 0, Value.ref 146, Value.none, Value.ref 147, Value.ref 148, Value.ref 149, Value.int 370 0, Value.int 106 0, Value.str (Str.ofString "/claim/cut.py") 371] }) ::
 (nat_lit 151, fnO (memS 12 12) (Str.ofString "Space.is_beyond") (Value.type "function") (none) (#[]) (3) ([]) (Value.none) (Value.none) (Value.none) (Value.str (Str.ofString "quic.spaces") 236) (none) (Value.ref 150) (Value.none) (0)) ::
 (nat_lit 152, { cls := Value.type "tuple", data := Data.seq #[] }) ::
 (nat_lit 154, { cls := Value.type "tuple", data := Data.seq #[Value.str (Str.ofString "self") 376, Value.str (Str.ofString "number") 377] }) ::
 (nat_lit 155, { cls := Value.type "tuple", data := Data.seq #[] }) ::
 (nat_lit 157, { cls := Value.type "code", data := Data.fields #[Value.str (Str.ofString "note_largest") 373, Value.str (Str.ofString "Space.note_largest") 374, Value.str (Str.ofString "/claim/cut.py") 375, Value.int 109 0, Value.int 2 0, Value.int 0 0, Value.int 0 0, Value.int 3 0, Value.ref 152, Value.bool true, Value.int 181 0, Value.ref 153, Value.none, Value.ref 154, Value.ref 155, Value.ref 156, Value.int 378 0, Value.int 109 0, Value.str (Str.ofString "/claim/cut.py") 379] }) ::
 (nat_lit 158, fnO (memS 12 13) (Str.ofString "Space.note_largest") (Value.type "function") (none) (#[]) (3) ([]) (Value.none) (Value.none) (Value.none) (Value.str (Str.ofString "quic.spaces") 236) (none) (Value.ref 157) (Value.none) (0)) ::
 (nat_lit 159, { cls := Value.type "tuple", data := Data.seq #[] }) ::
 (nat_lit 161, { cls := Value.type "tuple", data := Data.seq #[Value.str (Str.ofString "self") 384] }) ::
 (nat_lit 162, { cls := Value.type "tuple", data := Data.seq #[] }) ::
 (nat_lit 164, { cls := Value.type "code", data := Data.fields #[Value.str (Str.ofString "eliciting_left") 381, Value.str (Str.ofString "Space.eliciting_left") 382, Value.str (Str.ofString "/claim/cut.py") 383, Value.int 112 0, Value.int 1 0, Value.int 0 0, Value.int 0 0, Value.int 3 0, Value.ref 159, Value.bool true, Value.int 181 0, Value.ref 160, Value.none, Value.ref 161, Value.ref 162, Value.ref 163, Value.int 385 0, Value.int 112 0, Value.str (Str.ofString "/claim/cut.py") 386] }) ::
 (nat_lit 165, fnO (memS 12 14) (Str.ofString "Space.eliciting_left") (Value.type "function") (none) (#[]) (3) ([]) (Value.none) (Value.none) (Value.none) (Value.str (Str.ofString "quic.spaces") 236) (none) (Value.ref 164) (Value.none) (0)) ::
 (nat_lit 166, { cls := Value.type "tuple", data := Data.seq #[] }) ::
 (nat_lit 168, { cls := Value.type "tuple", data := Data.seq #[Value.str (Str.ofString "self") 391] }) ::
 (nat_lit 169, { cls := Value.type "tuple", data := Data.seq #[] }) ::
 (nat_lit 171, { cls := Value.type "code", data := Data.fields #[Value.str (Str.ofString "bare_numbers") 388, Value.str (Str.ofString "Space.bare_numbers") 389, Value.str (Str.ofString "/claim/cut.py") 390, Value.int 115 0, Value.int 1 0, Value.int 0 0, Value.int 0 0, Value.int 3 0, Value.ref 166, Value.bool true, Value.int 181 0, Value.ref 167, Value.none, Value.ref 168, Value.ref 169, Value.ref 170, Value.int 392 0, Value.int 115 0, Value.str (Str.ofString "/claim/cut.py") 393] }) ::
 (nat_lit 172, fnO (memS 12 15) (Str.ofString "Space.bare_numbers") (Value.type "function") (none) (#[]) (3) ([]) (Value.none) (Value.none) (Value.none) (Value.str (Str.ofString "quic.spaces") 236) (none) (Value.ref 171) (Value.none) (0)) ::
 (nat_lit 173, { cls := Value.type "tuple", data := Data.seq #[] }) ::
 (nat_lit 175, { cls := Value.type "tuple", data := Data.seq #[Value.str (Str.ofString "self") 398] }) ::
 (nat_lit 176, { cls := Value.type "tuple", data := Data.seq #[] }) ::
 (nat_lit 178, { cls := Value.type "code", data := Data.fields #[Value.str (Str.ofString "octets_out") 395, Value.str (Str.ofString "Space.octets_out") 396, Value.str (Str.ofString "/claim/cut.py") 397, Value.int 118 0, Value.int 1 0, Value.int 0 0, Value.int 0 0, Value.int 3 0, Value.ref 173, Value.bool true, Value.int 181 0, Value.ref 174, Value.none, Value.ref 175, Value.ref 176, Value.ref 177, Value.int 399 0, Value.int 118 0, Value.str (Str.ofString "/claim/cut.py") 400] }) ::
 (nat_lit 179, fnO (memS 12 16) (Str.ofString "Space.octets_out") (Value.type "function") (none) (#[]) (3) ([]) (Value.none) (Value.none) (Value.none) (Value.str (Str.ofString "quic.spaces") 236) (none) (Value.ref 178) (Value.none) (0)) ::
 (nat_lit 180, { cls := Value.type "tuple", data := Data.seq #[] }) ::
 (nat_lit 182, { cls := Value.type "tuple", data := Data.seq #[Value.str (Str.ofString "self") 405] }) ::
 (nat_lit 183, { cls := Value.type "tuple", data := Data.seq #[] }) ::
 (nat_lit 185, { cls := Value.type "code", data := Data.fields #[Value.str (Str.ofString "sent_rows") 402, Value.str (Str.ofString "Space.sent_rows") 403, Value.str (Str.ofString "/claim/cut.py") 404, Value.int 121 0, Value.int 1 0, Value.int 0 0, Value.int 0 0, Value.int 3 0, Value.ref 180, Value.bool true, Value.int 181 0, Value.ref 181, Value.none, Value.ref 182, Value.ref 183, Value.ref 184, Value.int 406 0, Value.int 121 0, Value.str (Str.ofString "/claim/cut.py") 407] }) ::
 (nat_lit 186, fnO (memS 12 17) (Str.ofString "Space.sent_rows") (Value.type "function") (none) (#[]) (3) ([]) (Value.none) (Value.none) (Value.none) (Value.str (Str.ofString "quic.spaces") 236) (none) (Value.ref 185) (Value.none) (0)) ::
 (nat_lit 187, { cls := Value.type "tuple", data := Data.seq #[] }) ::
 (nat_lit 189, { cls := Value.type "tuple", data := Data.seq #[Value.str (Str.ofString "self") 412] }) ::
 (nat_lit 190, { cls := Value.type "tuple", data := Data.seq #[] }) ::
 (nat_lit 192, { cls := Value.type "code", data := Data.fields #[Value.str (Str.ofString "forget") 409, Value.str (Str.ofString "Space.forget") 410, Value.str (Str.ofString "/claim/cut.py") 411, Value.int 124 0, Value.int 1 0, Value.int 0 0, Value.int 0 0, Value.int 3 0, Value.ref 187, Value.bool true, Value.int 181 0, Value.ref 188, Value.none, Value.ref 189, Value.ref 190, Value.ref 191, Value.int 413 0, Value.int 124 0, Value.str (Str.ofString "/claim/cut.py") 414] }) ::
 (nat_lit 193, fnO (memS 12 18) (Str.ofString "Space.forget") (Value.type "function") (none) (#[]) (3) ([]) (Value.none) (Value.none) (Value.none) (Value.str (Str.ofString "quic.spaces") 236) (none) (Value.ref 192) (Value.none) (0)) ::
 (nat_lit 194, { cls := Value.type "tuple", data := Data.seq #[Value.str (Str.ofString "acked") 416, Value.str (Str.ofString "ecn") 417, Value.str (Str.ofString "first_unacked") 418, Value.str (Str.ofString "floor") 419, Value.str (Str.ofString "has_new") 420, Value.str (Str.ofString "is_gone") 421, Value.str (Str.ofString "largest_acked") 422, Value.str (Str.ofString "largest_seen") 423, Value.str (Str.ofString "largest_time") 424, Value.str (Str.ofString "last_eliciting_time") 425, Value.str (Str.ofString "loss_time") 426, Value.str (Str.ofString "name") 427, Value.str (Str.ofString "next_number") 428, Value.str (Str.ofString "received") 429, Value.str (Str.ofString "sent") 430, Value.str (Str.ofString "unacked") 431, Value.str (Str.ofString "wants_now") 432] }) ::
 (nat_lit 195, { cls := Value.type "dict", data := Data.dict #[{ hash := PyData.keyHash P (Str.ofString "__module__"), key := Value.str (Str.ofString "__module__") 255, val := Value.str (Str.ofString "quic.spaces") 236 }, { hash := PyData.keyHash P (Str.ofString "__firstlineno__"), key := Value.str (Str.ofString "__firstlineno__") 259, val := Value.int 31 258 }, { hash := PyData.keyHash P (Str.ofString "__init__"), key := Value.str (Str.ofString "__init__") 267, val := Value.ref 67 }, { hash := PyData.keyHash P (Str.ofString "is_known"), key := Value.str (Str.ofString "is_known") 275, val := Value.ref 74 }, { hash := PyData.keyHash P (Str.ofString "on_received"), key := Value.str (Str.ofString "on_received") 288, val := Value.ref 81 }, { hash := PyData.keyHash P (Str.ofString "ack_frame"), key := Value.str (Str.ofString "ack_frame") 299, val := Value.ref 88 }, { hash := PyData.keyHash P (Str.ofString "on_ack_sent"), key := Value.str (Str.ofString "on_ack_sent") 306, val := Value.ref 95 }, { hash := PyData.keyHash P (Str.ofString "owes_ack"), key := Value.str (Str.ofString "owes_ack") 313, val := Value.ref 102 }, { hash := PyData.keyHash P (Str.ofString "take_number"), key := Value.str (Str.ofString "take_number") 320, val := Value.ref 109 }, { hash := PyData.keyHash P (Str.ofString "on_sent"), key := Value.str (Str.ofString "on_sent") 331, val := Value.ref 116 }, { hash := PyData.keyHash P (Str.ofString "take"), key := Value.str (Str.ofString "take") 339, val := Value.ref 123 }, { hash := PyData.keyHash P (Str.ofString "acked_by"), key := Value.str (Str.ofString "acked_by") 347, val := Value.ref 130 }, { hash := PyData.keyHash P (Str.ofString "note_acked"), key := Value.str (Str.ofString "note_acked") 356, val := Value.ref 137 }, { hash := PyData.keyHash P (Str.ofString "note_ranges"), key := Value.str (Str.ofString "note_ranges") 364, val := Value.ref 144 }, { hash := PyData.keyHash P (Str.ofString "is_beyond"), key := Value.str (Str.ofString "is_beyond") 372, val := Value.ref 151 }, { hash := PyData.keyHash P (Str.ofString "note_largest"), key := Value.str (Str.ofString "note_largest") 380, val := Value.ref 158 }, { hash := PyData.keyHash P (Str.ofString "eliciting_left"), key := Value.str (Str.ofString "eliciting_left") 387, val := Value.ref 165 }, { hash := PyData.keyHash P (Str.ofString "bare_numbers"), key := Value.str (Str.ofString "bare_numbers") 394, val := Value.ref 172 }, { hash := PyData.keyHash P (Str.ofString "octets_out"), key := Value.str (Str.ofString "octets_out") 401, val := Value.ref 179 }, { hash := PyData.keyHash P (Str.ofString "sent_rows"), key := Value.str (Str.ofString "sent_rows") 408, val := Value.ref 186 }, { hash := PyData.keyHash P (Str.ofString "forget"), key := Value.str (Str.ofString "forget") 415, val := Value.ref 193 }, { hash := PyData.keyHash P (Str.ofString "__static_attributes__"), key := Value.str (Str.ofString "__static_attributes__") 433, val := Value.ref 194 }, { hash := PyData.keyHash P (Str.ofString "__dict__"), key := Value.str (Str.ofString "__dict__") 435, val := Value.ref 197 }, { hash := PyData.keyHash P (Str.ofString "__weakref__"), key := Value.str (Str.ofString "__weakref__") 437, val := Value.ref 198 }, { hash := PyData.keyHash P (Str.ofString "__doc__"), key := Value.str (Str.ofString "__doc__") 438, val := Value.none }] 4 }) ::
 (nat_lit 196, { cls := Value.type "type", data := Data.cls { name := Str.ofString "Space", bases := [Value.type "object"], mro := [Value.ref 196, Value.type "object"], ns := 195, qualname := Str.ofString "Space" }, slots := #[none, none, some (Value.str (Str.ofString "Space") 248), some (Value.str (Str.ofString "Space") 256), some (Value.builtin "object.__new__"), some (Value.bool true)] }) ::
 (nat_lit 197, { cls := Value.type "getset_descriptor", data := Data.fields #[Value.str (Str.ofString "__dict__") 434, Value.ref 196, Value.builtin "function.__dict__", Value.builtin "function.__dict__#set"] }) ::
 (nat_lit 198, { cls := Value.type "getset_descriptor", data := Data.fields #[Value.str (Str.ofString "__weakref__") 436, Value.ref 196, Value.builtin "ExceptionGroup.__weakref__", Value.none] }) ::
 (nat_lit 201, { cls := Value.type "tuple", data := Data.seq #[] }) ::
 (nat_lit 203, { cls := Value.type "tuple", data := Data.seq #[Value.str (Str.ofString "ranges") 444] }) ::
 (nat_lit 204, { cls := Value.type "tuple", data := Data.seq #[] }) ::
 (nat_lit 206, { cls := Value.type "code", data := Data.fields #[Value.str (Str.ofString "kept_ranges") 441, Value.str (Str.ofString "kept_ranges") 442, Value.str (Str.ofString "/claim/cut.py") 443, Value.int 126 0, Value.int 1 0, Value.int 0 0, Value.int 0 0, Value.int 3 0, Value.ref 201, Value.bool true, Value.int 181 0, Value.ref 202, Value.none, Value.ref 203, Value.ref 204, Value.ref 205, Value.int 445 0, Value.int 126 0, Value.str (Str.ofString "/claim/cut.py") 446] }) ::
 (nat_lit 207, fnO (topS 13) (Str.ofString "kept_ranges") (Value.type "function") (none) (#[]) (3) ([]) (Value.none) (Value.none) (Value.none) (Value.str (Str.ofString "quic.spaces") 236) (none) (Value.ref 206) (Value.none) (0)) ::
 (nat_lit 208, { cls := Value.type "tuple", data := Data.seq #[] }) ::
 (nat_lit 210, { cls := Value.type "tuple", data := Data.seq #[Value.str (Str.ofString "pool") 453, Value.str (Str.ofString "many") 454, Value.str (Str.ofString "script") 455, Value.str (Str.ofString "cell") 456] }) ::
 (nat_lit 211, { cls := Value.type "tuple", data := Data.seq #[] }) ::
 (nat_lit 213, { cls := Value.type "code", data := Data.fields #[Value.str (Str.ofString "_law_draw") 450, Value.str (Str.ofString "_law_draw") 451, Value.str (Str.ofString "/claim/cut.py") 452, Value.int 131 0, Value.int 2 0, Value.int 0 0, Value.int 0 0, Value.int 3 0, Value.ref 208, Value.bool true, Value.int 181 0, Value.ref 209, Value.none, Value.ref 210, Value.ref 211, Value.ref 212, Value.int 457 0, Value.int 131 0, Value.str (Str.ofString "/claim/cut.py") 458] }) ::
 (nat_lit 214, fnO (topS 15) (Str.ofString "_law_draw") (Value.type "function") (none) (#[]) (3) ([]) (Value.none) (Value.none) (Value.none) (Value.str (Str.ofString "law_pf0261_02") 448) (none) (Value.ref 213) (Value.none) (0)) ::
 (nat_lit 215, { cls := Value.type "tuple", data := Data.seq #[] }) ::
 (nat_lit 218, { cls := Value.type "code", data := Data.fields #[Value.str (Str.ofString "_law_singles") 460, Value.str (Str.ofString "_law_singles") 461, Value.str (Str.ofString "/claim/cut.py") 462, Value.int 137 0, Value.int 2 0, Value.int 0 0, Value.int 0 0, Value.int 3 0, Value.ref 215, Value.bool true, Value.int 181 0, Value.ref 216, Value.none, Value.none, Value.none, Value.ref 217, Value.int 463 0, Value.int 137 0, Value.str (Str.ofString "/claim/cut.py") 464] }) ::
 (nat_lit 219, fnO (topS 16) (Str.ofString "_law_singles") (Value.type "function") (none) (#[]) (3) ([]) (Value.none) (Value.none) (Value.none) (Value.str (Str.ofString "law_pf0261_02") 448) (none) (Value.ref 218) (Value.none) (0)) ::
 (nat_lit 220, { cls := Value.type "tuple", data := Data.seq #[] }) ::
 (nat_lit 223, { cls := Value.type "code", data := Data.fields #[Value.str (Str.ofString "_law_joined") 466, Value.str (Str.ofString "_law_joined") 467, Value.str (Str.ofString "/claim/cut.py") 468, Value.int 139 0, Value.int 2 0, Value.int 0 0, Value.int 0 0, Value.int 3 0, Value.ref 220, Value.bool true, Value.int 181 0, Value.ref 221, Value.none, Value.none, Value.none, Value.ref 222, Value.int 469 0, Value.int 139 0, Value.str (Str.ofString "/claim/cut.py") 470] }) ::
 (nat_lit 224, fnO (topS 17) (Str.ofString "_law_joined") (Value.type "function") (none) (#[]) (3) ([]) (Value.none) (Value.none) (Value.none) (Value.str (Str.ofString "law_pf0261_02") 448) (none) (Value.ref 223) (Value.none) (0)) ::
 (nat_lit 225, { cls := Value.type "tuple", data := Data.seq #[] }) ::
 (nat_lit 227, { cls := Value.type "tuple", data := Data.seq #[Value.str (Str.ofString "space") 475, Value.str (Str.ofString "ranges") 476, Value.str (Str.ofString "floor") 477, Value.str (Str.ofString "low") 478, Value.str (Str.ofString "high") 479, Value.str (Str.ofString "number") 480, Value.str (Str.ofString "is_old") 481, Value.str (Str.ofString "told") 482] }) ::
 (nat_lit 228, { cls := Value.type "tuple", data := Data.seq #[] }) ::
 (nat_lit 230, { cls := Value.type "code", data := Data.fields #[Value.str (Str.ofString "_law_known_right") 472, Value.str (Str.ofString "_law_known_right") 473, Value.str (Str.ofString "/claim/cut.py") 474, Value.int 148 0, Value.int 3 0, Value.int 0 0, Value.int 0 0, Value.int 3 0, Value.ref 225, Value.bool true, Value.int 181 0, Value.ref 226, Value.none, Value.ref 227, Value.ref 228, Value.ref 229, Value.int 483 0, Value.int 148 0, Value.str (Str.ofString "/claim/cut.py") 484] }) ::
 (nat_lit 231, fnO (topS 18) (Str.ofString "_law_known_right") (Value.type "function") (none) (#[]) (3) ([]) (Value.none) (Value.none) (Value.none) (Value.str (Str.ofString "law_pf0261_02") 448) (none) (Value.ref 230) (Value.none) (0)) ::
 (nat_lit 232, { cls := Value.type "tuple", data := Data.seq #[] }) ::
 (nat_lit 235, { cls := Value.type "code", data := Data.fields #[Value.str (Str.ofString "law") 486, Value.str (Str.ofString "law") 487, Value.str (Str.ofString "/claim/cut.py") 488, Value.int 156 0, Value.int 1 0, Value.int 0 0, Value.int 0 0, Value.int 3 0, Value.ref 232, Value.bool true, Value.int 181 0, Value.ref 233, Value.none, Value.none, Value.none, Value.ref 234, Value.int 489 0, Value.int 156 0, Value.str (Str.ofString "/claim/cut.py") 490] }) ::
 (nat_lit 236, fnO (topS 19) (Str.ofString "law") (Value.type "function") (none) (#[]) (3) ([]) (Value.none) (Value.none) (Value.none) (Value.str (Str.ofString "law_pf0261_02") 448) (none) (Value.ref 235) (Value.none) (0)) :: []
noncomputable def viewK : Program := { pg with main := { pg.main with body := [topS 0, topS 2, topS 3, topS 4, topS 5, topS 6, topS 8, topS 9, topS 10, topS 11, topS 12, topS 13, topS 15, topS 16, topS 17, topS 18, topS 19] } }
set_option maxHeartbeats 0
theorem said : OpenLaw.wellSaid PySem.Challenge.rw_pf0261_02 = true := by decide +kernel
noncomputable abbrev HK := kHook heapK [2, 3, 15, 17, 18, 20, 21, 22, 24, 25, 27, 28, 29, 31, 32, 34, 35, 36, 39, 40, 41, 43, 44, 46, 47, 48, 51, 52, 53, 61, 63, 64, 66, 67, 68, 70, 71, 73, 74, 75, 77, 78, 80, 81, 82, 84, 85, 87, 88, 89, 91, 92, 94, 95, 96, 98, 99, 101, 102, 103, 105, 106, 108, 109, 110, 112, 113, 115, 116, 117, 119, 120, 122, 123, 124, 126, 127, 129, 130, 131, 133, 134, 136, 137, 138, 140, 141, 143, 144, 145, 147, 148, 150, 151, 152, 154, 155, 157, 158, 159, 161, 162, 164, 165, 166, 168, 169, 171, 172, 173, 175, 176, 178, 179, 180, 182, 183, 185, 186, 187, 189, 190, 192, 193, 194, 195, 196, 197, 198, 201, 203, 204, 206, 207, 208, 210, 211, 213, 214, 215, 218, 219, 220, 223, 224, 225, 227, 228, 230, 231, 232, 235, 236] (fun _ => by kernel_rfl)
theorem left : LeftO PySem.Challenge.rw_pf0261_02.row.prog viewK [] (fun s => xlAt viewK [] s && recOk (RowW.records PySem.Challenge.rw_pf0261_02.row.toRowW) s) (Hook.obs HK) (Hook.val HK) 2596 := fun w => by
  rw [PySem.W.Fast.te14364793385576792824, PySem.W.Fast.te4187177175401517315]
  kernel_rfl
end

def gallopS : Bool → Keyed → Array Keyed → Nat → Nat → Nat → StateT SortSt Sem (Option Nat) := sortPriv% PySem.Builtin.gallop
def mergeLoS : Array Keyed → Array Keyed → StateT SortSt Sem (Array Keyed) := sortPriv% PySem.Builtin.mergeLo
def mergeHiS : Array Keyed → Array Keyed → StateT SortSt Sem (Array Keyed) := sortPriv% PySem.Builtin.mergeHi

/-- does the place of value v lie beyond -/
def bey (left : Bool) (key v : Int) : Bool := if left then decide (v < key) else !decide (key < v)

section
variable {prog : Program} {w : World} {A : Around} {E : Value → Shared → Prop} {s : Shared}

theorem wpS_elemS {arr : Array Keyed} {i : Nat} {st : SortSt} {Q : Keyed → SortSt → Prop} (hi : i < arr.size) (h : Q arr[i] st) :
    wpS (model prog w) A E s (elem' arr i) Q st := by
  rw [elem'_eq, getElem?_pos arr i hi]
  exact wpS_pure h

theorem wpS_ltS {x y : Keyed} {st : SortSt} {Q : Option Bool → SortSt → Prop} (hk : kindOf st = oneType') (hx : ∃ n t, x.1 = .int n t) (hy : ∃ n t, y.1 = .int n t)
    (h : Q (some (decide (numOf x.1 < numOf y.1))) st) : wpS (model prog w) A E s (lt' x y) Q st := by
  obtain ⟨n, t, hx⟩ := hx
  obtain ⟨m, u, hy⟩ := hy
  rw [lt'_eq]
  refine wpS_bind (wpS_get ?_)
  rw [hk, keyLt'_oneType, hx, hy]
  refine wpS_bind (wpS_lift (wpAny_attempt (oneLt_int ⟨rfl, ?_⟩)))
  rw [hx, hy] at h
  exact wpS_pure h

theorem intKey {arr : Array Keyed} (h0 : IntKeys arr) {i : Nat} (hi : i < arr.size) : ∃ n t, arr[i].1 = .int n t := h0 _ (by simp)

theorem K_at {arr : Array Keyed} {i : Nat} (hi : i < arr.size) : K arr i = numOf arr[i].1 := by
  unfold K; rw [getElem?_pos arr i hi]

/-- one look of the gallop -/
theorem wpS_look {left : Bool} {key : Keyed} {arr : Array Keyed} {j : Nat} {st : SortSt} {Q : Option Bool → SortSt → Prop} (hk : kindOf st = oneType') (hkey : ∃ m t, key.1 = .int m t)
    (h0 : IntKeys arr) (hj : j < arr.size) (h : Q (some (bey left (numOf key.1) (K arr j))) st) :
    wpS (model prog w) A E s (do
      let x ← elem' arr j
      if left = true then lt' x key else do
        let r ← lt' key x
        pure (Option.map (fun x => !x) r)) Q st := by
  refine wpS_bind (wpS_elemS hj ?_)
  rw [K_at hj] at h
  cases left with
  | true =>
    simp only [if_true]
    exact wpS_ltS hk (intKey h0 hj) hkey (by simpa [bey] using h)
  | false =>
    simp only [Bool.false_eq_true, if_false]
    exact wpS_bind (wpS_ltS hk hkey (intKey h0 hj) (wpS_pure (by simpa [bey] using h)))

theorem wpS_gallop {left : Bool} {key : Keyed} {arr : Array Keyed} {base n hint : Nat} {st : SortSt} {Q : Option Nat → SortSt → Prop} (hk : kindOf st = oneType') (hkey : ∃ m t, key.1 = .int m t)
    (h0 : IntKeys arr) (hh : hint < n) (hn : base + n ≤ arr.size) (hs : ∀ i j, i ≤ j → j < n → K arr (base + i) ≤ K arr (base + j))
    (h : ∀ k, k ≤ n → (∀ i, i < k → bey left (numOf key.1) (K arr (base + i)) = true) → (∀ i, k ≤ i → i < n → bey left (numOf key.1) (K arr (base + i)) = false) → Q (some k) st) :
    wpS (model prog w) A E s (gallopS left key arr base n hint) Q st := by
  have mono : ∀ i j, i ≤ j → j < n → bey left (numOf key.1) (K arr (base + j)) = true → bey left (numOf key.1) (K arr (base + i)) = true := by
    intro i j hij hj hb
    have := hs i j hij hj
    cases left <;> simp [bey] at hb ⊢ <;> omega
  have monf : ∀ i j, i ≤ j → j < n → bey left (numOf key.1) (K arr (base + i)) = false → bey left (numOf key.1) (K arr (base + j)) = false := by
    intro i j hij hj hb
    cases hc : bey left (numOf key.1) (K arr (base + j)) with
    | false => rfl
    | true => rw [mono i j hij hj hc] at hb; cases hb
  have look : ∀ (i : Nat) (Q : Option Bool → SortSt → Prop), i < n → Q (some (bey left (numOf key.1) (K arr (base + i)))) st →
      wpS (model prog w) A E s (do
      let x ← elem' arr (base + i)
      if left = true then lt' x key else do
        let r ← lt' key x
        pure (Option.map (fun x => !x) r)) Q st := fun i Q hi hq => wpS_look hk hkey h0 (by omega) hq
  have bins : ∀ (lo hi : Nat) (Q' : Option (Option Nat) × Nat × Nat → SortSt → Prop), lo ≤ hi → hi ≤ n → (∀ i, i < lo → bey left (numOf key.1) (K arr (base + i)) = true) →
      (∀ i, hi ≤ i → i < n → bey left (numOf key.1) (K arr (base + i)) = false) →
      (∀ k, k ≤ n → (∀ i, i < k → bey left (numOf key.1) (K arr (base + i)) = true) → (∀ i, k ≤ i → i < n → bey left (numOf key.1) (K arr (base + i)) = false) → Q' (none, k, k) st) →
      wpS (model prog w) A E s (forIn [:n] (none, lo, hi) fun (_ : Nat) (c : Option (Option Nat) × Nat × Nat) =>
            if c.snd.fst ≥ c.snd.snd then pure (ForInStep.done (none, c.snd.fst, c.snd.snd))
            else do
              let r ← (do
                  let x ← elem' arr (base + (c.snd.fst + (c.snd.snd - c.snd.fst) / 2))
                  if left = true then lt' x key
                    else do
                      let r ← lt' key x
                      pure (Option.map (fun x => !x) r))
              match r with
                | some more =>
                  if more = true then
                    pure (ForInStep.yield (none, c.snd.fst + (c.snd.snd - c.snd.fst) / 2 + 1, c.snd.snd))
                  else pure (ForInStep.yield (none, c.snd.fst, c.snd.fst + (c.snd.snd - c.snd.fst) / 2))
                | _ => pure (ForInStep.done (some none, c.snd.fst, c.snd.snd))) Q' st := by
    intro lo hi Q' h1 h2 h3 h4 h5
    refine wpS_forRange (I := fun x c st' => st' = st ∧ ∃ l r, c = (none, l, r) ∧ l ≤ r ∧ r ≤ n ∧ r - l ≤ n - x ∧ (∀ i, i < l → bey left (numOf key.1) (K arr (base + i)) = true) ∧
      (∀ i, r ≤ i → i < n → bey left (numOf key.1) (K arr (base + i)) = false)) ?_ ?_ ⟨rfl, lo, hi, rfl, h1, h2, by omega, h3, h4⟩
    · rintro x c st' _ hx ⟨rfl, l, r, rfl, hlr, hrn, hm, ht, hf⟩
      dsimp only
      by_cases hge : l ≥ r
      · rw [if_pos hge]
        have e : l = r := by omega
        subst e
        exact wpS_pure (h5 l hrn ht hf)
      · rw [if_neg hge]
        refine wpS_bind (look _ _ (by omega) ?_)
        cases hb : bey left (numOf key.1) (K arr (base + (l + (r - l) / 2))) with
        | true =>
          simp only [if_true]
          exact wpS_pure ⟨rfl, _, _, rfl, by omega, by omega, by omega, fun i hi => mono _ _ (by omega) (by omega) hb, hf⟩
        | false =>
          simp only [Bool.false_eq_true, if_false]
          exact wpS_pure ⟨rfl, _, _, rfl, by omega, by omega, by omega, ht, fun i hi hin => monf _ _ hi hin hb⟩
    · rintro c st' ⟨rfl, l, r, rfl, hlr, hrn, hm, ht, hf⟩
      have e : l = r := by omega
      subst e
      exact h5 l hrn ht hf
  unfold gallopS
  refine wpS_bind (look hint _ hh ?_)
  dsimp only
  cases hb : bey left (numOf key.1) (K arr (base + hint)) with
  | true =>
    simp only [if_true]
    refine wpS_bind (wpS_mono (wpS_forRange (I := fun x c st' => st' = st ∧ ∃ l o, c = (none, l, o) ∧ l < o ∧ x < o ∧ hint + l < n ∧ bey left (numOf key.1) (K arr (base + (hint + l))) = true)
      (Q := fun c st' => st' = st ∧ ∃ l o, c = (none, l, o) ∧ l < o ∧ hint + l < n ∧ bey left (numOf key.1) (K arr (base + (hint + l))) = true ∧
        (n - hint ≤ o ∨ (hint + o < n ∧ bey left (numOf key.1) (K arr (base + (hint + o))) = false))) ?step ?fin ⟨rfl, 0, 1, rfl, by omega, by omega, by omega, hb⟩) ?post)
    case step =>
      rintro x c st' _ hx ⟨rfl, l, o, rfl, hlo, hxo, hln, hbl⟩
      dsimp only
      by_cases hge : o ≥ n - hint
      · rw [if_pos hge]
        exact wpS_pure ⟨rfl, l, o, rfl, hlo, hln, hbl, .inl hge⟩
      · rw [if_neg hge]
        refine wpS_bind (look _ _ (by omega) ?_)
        cases hb' : bey left (numOf key.1) (K arr (base + (hint + o))) with
        | true =>
          simp only [Bool.not_true, Bool.false_eq_true, if_false]
          exact wpS_pure ⟨rfl, o, 2 * o + 1, rfl, by omega, by omega, by omega, hb'⟩
        | false =>
          simp only [Bool.not_false, if_true]
          exact wpS_pure ⟨rfl, l, o, rfl, hlo, hln, hbl, .inr ⟨by omega, hb'⟩⟩
    case fin =>
      rintro c st' ⟨rfl, l, o, rfl, hlo, hxo, hln, hbl⟩
      exact ⟨rfl, l, o, rfl, hlo, hln, hbl, .inl (by omega)⟩
    case post =>
      rintro c st' ⟨rfl, l, o, rfl, hlo, hln, hbl, hor⟩
      dsimp only
      refine wpS_bind (bins _ _ _ (by omega) (by omega) (fun i hi => mono _ _ (by omega) hln hbl) (fun i hi hin => ?_) fun k k1 k2 k3 => ?_)
      · rcases hor with hor | ⟨ho, hf⟩
        · omega
        · exact monf _ _ (by omega) hin hf
      · dsimp only
        exact wpS_pure (h k k1 k2 k3)
  | false =>
    simp only [Bool.false_eq_true, if_false]
    refine wpS_bind (wpS_mono (wpS_forRange (I := fun x c st' => st' = st ∧ ∃ l o, c = (none, l, o) ∧ l < o ∧ x < o ∧ l ≤ hint ∧ bey left (numOf key.1) (K arr (base + (hint - l))) = false)
      (Q := fun c st' => st' = st ∧ ∃ l o, c = (none, l, o) ∧ l < o ∧ l ≤ hint ∧ bey left (numOf key.1) (K arr (base + (hint - l))) = false ∧
        (hint + 1 ≤ o ∨ (o ≤ hint ∧ bey left (numOf key.1) (K arr (base + (hint - o))) = true))) ?step ?fin ⟨rfl, 0, 1, rfl, by omega, by omega, by omega, hb⟩) ?post)
    case step =>
      rintro x c st' _ hx ⟨rfl, l, o, rfl, hlo, hxo, hln, hbl⟩
      dsimp only
      by_cases hge : o ≥ hint + 1
      · rw [if_pos hge]
        exact wpS_pure ⟨rfl, l, o, rfl, hlo, hln, hbl, .inl hge⟩
      · rw [if_neg hge]
        refine wpS_bind (look _ _ (by omega) ?_)
        cases hb' : bey left (numOf key.1) (K arr (base + (hint - o))) with
        | true =>
          simp only [if_true]
          exact wpS_pure ⟨rfl, l, o, rfl, hlo, hln, hbl, .inr ⟨by omega, hb'⟩⟩
        | false =>
          simp only [Bool.false_eq_true, if_false]
          exact wpS_pure ⟨rfl, o, 2 * o + 1, rfl, by omega, by omega, by omega, hb'⟩
    case fin =>
      rintro c st' ⟨rfl, l, o, rfl, hlo, hxo, hln, hbl⟩
      exact ⟨rfl, l, o, rfl, hlo, hln, hbl, .inl (by omega)⟩
    case post =>
      rintro c st' ⟨rfl, l, o, rfl, hlo, hln, hbl, hor⟩
      dsimp only
      refine wpS_bind (bins _ _ _ (by omega) (by omega) (fun i hi => ?_) (fun i hi hin => monf _ _ hi hin hbl) fun k k1 k2 k3 => ?_)
      · rcases hor with hor | ⟨ho, hf⟩
        · omega
        · exact mono _ _ (by omega) (by omega) hf
      · dsimp only
        exact wpS_pure (h k k1 k2 k3)
end

abbrev kv (p : Keyed) : Int := numOf p.1
abbrev LEk (p q : Keyed) : Prop := kv p ≤ kv q

theorem K_eqv {a : Array Keyed} {i : Nat} (h : i < a.size) : K a i = kv a[i] := K_at h

theorem sorted_pw {a : Array Keyed} (hs : SortedTo a a.size) : a.toList.Pairwise LEk := by
  rw [List.pairwise_iff_getElem]
  intro i j hi hj hij
  have hi' : i < a.size := by simpa using hi
  have hj' : j < a.size := by simpa using hj
  have := hs i j (Nat.le_of_lt hij) hj'
  rw [K_eqv hi', K_eqv hj'] at this
  simpa using this

theorem pw_sorted {a : Array Keyed} (hs : a.toList.Pairwise LEk) : SortedTo a a.size := by
  rw [List.pairwise_iff_getElem] at hs
  intro i j hij hj
  by_cases e : i = j
  · subst e; exact Int.le_refl _
  · have hi : i < a.size := by omega
    rw [K_eqv hi, K_eqv hj]
    have := hs i j (by simpa using hi) (by simpa using hj) (by omega)
    simpa using this

/-- what was merged so far -/
structure MJ (a b : Array Keyed) (out : List Keyed) (ia ib : Nat) : Prop where
  perm : out.Perm (a.toList.take ia ++ b.toList.take ib)
  srt : out.Pairwise LEk
  la : ∀ x ∈ out, ∀ j, ia ≤ j → j < a.size → kv x ≤ K a j
  lb : ∀ x ∈ out, ∀ j, ib ≤ j → j < b.size → kv x ≤ K b j

theorem MJ.swap {a b : Array Keyed} {out : List Keyed} {ia ib : Nat} (h : MJ a b out ia ib) : MJ b a out ib ia :=
  ⟨h.perm.trans List.perm_append_comm, h.srt, h.lb, h.la⟩

theorem MJ.pushB {a b : Array Keyed} {out : List Keyed} {ia ib : Nat} (h : MJ a b out ia ib) (hsb : SortedTo b b.size) (hb : ib < b.size) (hle : ∀ j, ia ≤ j → j < a.size → K b ib ≤ K a j) :
    MJ a b (out ++ [b[ib]]) ia (ib + 1) := by
  refine ⟨?_, ?_, ?_, ?_⟩
  · have e : b.toList.take (ib + 1) = b.toList.take ib ++ [b[ib]] := by
      rw [List.take_add_one, List.getElem?_eq_getElem (by simpa using hb)]
      simp
    rw [e, ← List.append_assoc]
    exact h.perm.append_right _
  · rw [List.pairwise_append]
    refine ⟨h.srt, List.pairwise_singleton _ _, fun x hx y hy => ?_⟩
    rw [List.mem_singleton] at hy
    subst hy
    have := h.lb x hx ib (Nat.le_refl _) hb
    rwa [K_eqv hb] at this
  · intro x hx j h1 h2
    rcases List.mem_append.mp hx with hx | hx
    · exact h.la x hx j h1 h2
    · rw [List.mem_singleton] at hx
      subst hx
      have := hle j h1 h2
      rwa [K_eqv hb] at this
  · intro x hx j h1 h2
    rcases List.mem_append.mp hx with hx | hx
    · exact h.lb x hx j (by omega) h2
    · rw [List.mem_singleton] at hx
      subst hx
      have := hsb ib j (by omega) h2
      rwa [K_eqv hb] at this

theorem MJ.pushA {a b : Array Keyed} {out : List Keyed} {ia ib : Nat} (h : MJ a b out ia ib) (hsa : SortedTo a a.size) (ha : ia < a.size) (hle : ∀ j, ib ≤ j → j < b.size → K a ia ≤ K b j) :
    MJ a b (out ++ [a[ia]]) (ia + 1) ib := (h.swap.pushB hsa ha hle).swap

theorem extract_more {a : Array Keyed} {i k : Nat} (h : i + k < a.size) : (a.extract i (i + (k + 1))).toList = (a.extract i (i + k)).toList ++ [a[i + k]] := by
  simp only [Array.toList_extract, List.extract_eq_take_drop, Nat.add_sub_cancel_left]
  rw [List.take_add_one]
  congr 1
  rw [List.getElem?_drop, List.getElem?_eq_getElem (by simpa using h)]
  simp

theorem MJ.chunkA {a b : Array Keyed} {out : List Keyed} {ia ib : Nat} (h : MJ a b out ia ib) (hsa : SortedTo a a.size) : ∀ (k : Nat), ia + k ≤ a.size → (∀ i, i < k → ∀ j, ib ≤ j → j < b.size → K a (ia + i) ≤ K b j) →
    MJ a b (out ++ (a.extract ia (ia + k)).toList) (ia + k) ib
  | 0, _, _ => by simpa using h
  | k + 1, hk, hle => by
    have ih := MJ.chunkA h hsa k (by omega) fun i hi => hle i (by omega)
    rw [extract_more (by omega), ← List.append_assoc]
    exact ih.pushA hsa (by omega) (hle k (by omega))
theorem MJ.chunkB {a b : Array Keyed} {out : List Keyed} {ia ib : Nat} (h : MJ a b out ia ib) (hsb : SortedTo b b.size) (k : Nat) (hk : ib + k ≤ b.size) (hle : ∀ i, i < k → ∀ j, ia ≤ j → j < a.size → K b (ib + i) ≤ K a j) :
    MJ a b (out ++ (b.extract ib (ib + k)).toList) ia (ib + k) := (h.swap.chunkA hsb k hk hle).swap

def Merged (a b : Array Keyed) (out : Array Keyed) : Prop := out.toList.Perm (a.toList ++ b.toList) ∧ out.toList.Pairwise LEk

theorem MJ.all {a b : Array Keyed} {out : List Keyed} {ia ib : Nat} (h : MJ a b out ia ib) (ha : ia = a.size) (hb : ib = b.size) : out.Perm (a.toList ++ b.toList) ∧ out.Pairwise LEk := by
  refine ⟨?_, h.srt⟩
  have := h.perm
  rwa [List.take_of_length_le (by simp [ha]), List.take_of_length_le (by simp [hb])] at this

theorem MJ.done {a b : Array Keyed} {out : Array Keyed} {ia ib : Nat} (h : MJ a b out.toList ia ib) (hsa : SortedTo a a.size) (hsb : SortedTo b b.size) (ha : ia ≤ a.size) (hb : ib ≤ b.size) (hor : ia = a.size ∨ ib = b.size) :
    Merged a b (out ++ a.extract ia a.size ++ b.extract ib b.size) := by
  have h1 := h.chunkA hsa (a.size - ia) (by omega) fun i hi j hj1 hj2 => by
    rcases hor with e | e <;> omega
  have h2 := h1.chunkB hsb (b.size - ib) (by omega) fun i hi j hj1 hj2 => by omega
  have h3 := h2.all (by omega) (by omega)
  rw [show ia + (a.size - ia) = a.size by omega, show ib + (b.size - ib) = b.size by omega] at h3
  unfold Merged
  simpa using h3

theorem MJ.lastA {a b : Array Keyed} {out : Array Keyed} {ia ib : Nat} (h : MJ a b out.toList ia ib) (hsa : SortedTo a a.size) (hsb : SortedTo b b.size) (ha : ia + 1 = a.size) (hb : ib ≤ b.size)
    (hl : ∀ j, j < b.size → K b j ≤ K a (a.size - 1)) : Merged a b (out ++ b.extract ib b.size ++ a.extract ia a.size) := by
  have h1 := h.chunkB hsb (b.size - ib) (by omega) fun i hi j hj1 hj2 => by
    rw [show j = a.size - 1 by omega]
    exact hl _ (by omega)
  have h2 := h1.chunkA hsa (a.size - ia) (by omega) fun i hi j hj1 hj2 => by omega
  have h3 := h2.all (by omega) (by omega)
  rw [show ia + (a.size - ia) = a.size by omega, show ib + (b.size - ib) = b.size by omega] at h3
  unfold Merged
  simpa using h3

abbrev setG (st : SortSt) (g : Nat) : SortSt := SortSt.mk' (kindOf st) (arrOf st) (pendingOf st) g (failedOf st)
theorem setG_self (st : SortSt) : setG st (gallopOf st) = st := rfl

section
variable {prog : Program} {w : World} {A : Around} {E : Value → Shared → Prop} {s : Shared}

theorem MJ.start {a b : Array Keyed} (hsb : SortedTo b b.size) (hb : 0 < b.size) (hlt : ∀ j, j < a.size → K b 0 ≤ K a j) : MJ a b [b[0]] 0 1 := by
  have h : MJ a b [] 0 0 := ⟨by simp, .nil, by simp, by simp⟩
  exact h.pushB hsb hb fun j _ hj => hlt j hj

theorem wpS_ite {α : Type} {c : Prop} {ic : Decidable c} {x y : StateT SortSt Sem α} {Q : α → SortSt → Prop} {st : SortSt} (h1 : c → wpS (model prog w) A E s x Q st) (h2 : ¬c → wpS (model prog w) A E s y Q st) :
    wpS (model prog w) A E s (if c then x else y) Q st := by
  by_cases h : c
  · rw [if_pos h]; exact h1 h
  · rw [if_neg h]; exact h2 h
/-- a Bool test of a decided thing -/
theorem wpS_iteB {α : Type} {p : Prop} {ip : Decidable p} {X Y : StateT SortSt Sem α} {Q : α → SortSt → Prop} {st : SortSt} (h1 : p → wpS (model prog w) A E s X Q st) (h2 : ¬p → wpS (model prog w) A E s Y Q st) :
    wpS (model prog w) A E s (if decide p = true then X else Y) Q st :=
  wpS_ite (fun h => h1 (of_decide_eq_true h)) fun h => h2 fun hp => h (decide_eq_true hp)
/-- a Bool test of two numbers -/
theorem wpS_iteN {α : Type} {m n : Nat} {X Y : StateT SortSt Sem α} {Q : α → SortSt → Prop} {st : SortSt} (h1 : m = n → wpS (model prog w) A E s X Q st) (h2 : m ≠ n → wpS (model prog w) A E s Y Q st) :
    wpS (model prog w) A E s (if (m == n) = true then X else Y) Q st :=
  wpS_ite (fun h => h1 (eq_of_beq h)) fun h => h2 fun hp => h (beq_iff_eq.mpr hp)

/-- a test whose two ways end in the same code at two numbers -/
theorem wpS_two {α : Type} {c : Prop} {ic : Decidable c} {X : StateT SortSt Sem α} {F : Nat → StateT SortSt Sem α} (v : Nat) {g : Nat} {Q : α → SortSt → Prop} {st : SortSt} (hX : ∀ x, x = v → X = if c then F x else F g)
    (H : ∀ x, wpS (model prog w) A E s (F x) Q st) : wpS (model prog w) A E s X Q st := by
  rw [hX v rfl]; exact wpS_ite (fun _ => H _) fun _ => H _
/-- a chunk is taken over, or none; two ends; then the same code at what is there -/
theorem wpS_chunk2 {α : Type} {c : Prop} {c1 c2 : Nat → Prop} {ic : Decidable c} {ic1 : ∀ i, Decidable (c1 i)} {ic2 : ∀ i, Decidable (c2 i)} {X : StateT SortSt Sem α} {P1 P2 F : Array Keyed → Nat → StateT SortSt Sem α} (v1 : Array Keyed) (v2 : Nat) {o : Array Keyed} {i : Nat} {Q : α → SortSt → Prop} {st : SortSt} (R : Array Keyed → Nat → Prop)
    (hX : ∀ x y, x = v1 → y = v2 → X = if c then (if c1 y then P1 x y else if c2 y then P2 x y else F x y) else F o i)
    (h1 : c → c1 v2 → wpS (model prog w) A E s (P1 v1 v2) Q st) (h2 : c → ¬c1 v2 → c2 v2 → wpS (model prog w) A E s (P2 v1 v2) Q st) (h3 : c → ¬c1 v2 → ¬c2 v2 → R v1 v2) (h4 : ¬c → R o i) (HF : ∀ o i, R o i → wpS (model prog w) A E s (F o i) Q st) :
    wpS (model prog w) A E s X Q st := by
  rw [hX v1 v2 rfl rfl]
  exact wpS_ite (fun hc => wpS_ite (h1 hc) fun n1 => wpS_ite (h2 hc n1) fun n2 => HF _ _ (h3 hc n1 n2)) fun n => HF _ _ (h4 n)
theorem wpS_chunk1 {α : Type} {c : Prop} {c1 : Nat → Prop} {ic : Decidable c} {ic1 : ∀ i, Decidable (c1 i)} {X : StateT SortSt Sem α} {P1 F : Array Keyed → Nat → StateT SortSt Sem α} (v1 : Array Keyed) (v2 : Nat) {o : Array Keyed} {i : Nat} {Q : α → SortSt → Prop} {st : SortSt} (R : Array Keyed → Nat → Prop)
    (hX : ∀ x y, x = v1 → y = v2 → X = if c then (if c1 y then P1 x y else F x y) else F o i)
    (h1 : c → c1 v2 → wpS (model prog w) A E s (P1 v1 v2) Q st) (h3 : c → ¬c1 v2 → R v1 v2) (h4 : ¬c → R o i) (HF : ∀ o i, R o i → wpS (model prog w) A E s (F o i) Q st) :
    wpS (model prog w) A E s X Q st := by
  rw [hX v1 v2 rfl rfl]
  exact wpS_ite (fun hc => wpS_ite (h1 hc) fun n1 => HF _ _ (h3 hc n1)) fun n => HF _ _ (h4 n)

/-- under way: both runs have more, the first more than one -/
def LoL (a b : Array Keyed) (x : Nat) (out : Array Keyed) (ia ib : Nat) : Prop := MJ a b out.toList ia ib ∧ ia + 1 < a.size ∧ ib < b.size ∧ x ≤ ia + ib
/-- a loop's end: the whole, or under way -/
def EndOr (a b : Array Keyed) (r : Option (Array Keyed)) (P : Prop) : Prop := match r with | some r => Merged a b r | none => P
def WasG (st st' : SortSt) : Prop := ∃ g, st' = setG st g
theorem WasG.self (st : SortSt) : WasG st st := ⟨gallopOf st, rfl⟩
theorem WasG.kind {st st' : SortSt} (h : WasG st st') : kindOf st' = kindOf st := by obtain ⟨g, rfl⟩ := h; rfl
theorem WasG.set {st st' : SortSt} (h : WasG st st') (g : Nat) : WasG st (setG st' g) := by obtain ⟨_, rfl⟩ := h; exact ⟨g, rfl⟩

section
variable {a b out : Array Keyed} {ia ib x : Nat}
theorem LoL.ha (h : LoL a b x out ia ib) : ia < a.size := Nat.lt_of_succ_lt h.2.1
theorem LoL.le (h : LoL a b x out ia ib) {y : Nat} (hy : y ≤ x) : LoL a b y out ia ib := ⟨h.1, h.2.1, h.2.2.1, Nat.le_trans hy h.2.2.2⟩
theorem LoL.no {P : Prop} (h : LoL a b x out ia ib) (hx : a.size + b.size ≤ x) : P := by
  have := h.2
  omega
theorem LoL.pushB (h : LoL a b x out ia ib) (hsb : SortedTo b b.size) (hle : ∀ j, ia ≤ j → j < a.size → K b ib ≤ K a j) (hn : ib + 1 ≠ b.size) : LoL a b (x + 1) (out.push (b[ib]'h.2.2.1)) ia (ib + 1) := by
  refine ⟨?_, h.2.1, Nat.lt_of_le_of_ne h.2.2.1 hn, Nat.succ_le_succ h.2.2.2⟩
  rw [Array.toList_push]
  exact h.1.pushB hsb h.2.2.1 hle
theorem LoL.pushA (h : LoL a b x out ia ib) (hsa : SortedTo a a.size) (hle : ∀ j, ib ≤ j → j < b.size → K a ia ≤ K b j) (hn : ia + 1 + 1 ≠ a.size) : LoL a b (x + 1) (out.push (a[ia]'h.ha)) (ia + 1) ib := by
  refine ⟨?_, Nat.lt_of_le_of_ne h.2.1 hn, h.2.2.1, by have := h.2.2.2; omega⟩
  rw [Array.toList_push]
  exact h.1.pushA hsa h.ha hle
theorem LoL.endB (h : LoL a b x out ia ib) (hsa : SortedTo a a.size) (hsb : SortedTo b b.size) (hle : ∀ j, ia ≤ j → j < a.size → K b ib ≤ K a j) (hn : ib + 1 = b.size) :
    Merged a b (out.push (b[ib]'h.2.2.1) ++ a.extract ia a.size ++ b.extract (ib + 1) b.size) := by
  have := h.1.pushB hsb h.2.2.1 hle
  rw [← Array.toList_push] at this
  exact this.done hsa hsb (Nat.le_of_lt h.ha) h.2.2.1 (.inr hn)
theorem LoL.endA (h : LoL a b x out ia ib) (hsa : SortedTo a a.size) (hsb : SortedTo b b.size) (hhi : ∀ j, j < b.size → K b j ≤ K a (a.size - 1)) (hle : ∀ j, ib ≤ j → j < b.size → K a ia ≤ K b j) (hn : ia + 1 + 1 = a.size) :
    Merged a b (out.push (a[ia]'h.ha) ++ b.extract ib b.size ++ a.extract (ia + 1) a.size) := by
  have := h.1.pushA hsa h.ha hle
  rw [← Array.toList_push] at this
  exact this.lastA hsa hsb hn (Nat.le_of_lt h.2.2.1) hhi
theorem LoL.leB (h : LoL a b x out ia ib) (hsa : SortedTo a a.size) (hw : K b ib ≤ K a ia) : ∀ j, ia ≤ j → j < a.size → K b ib ≤ K a j := fun j h1 h2 => Int.le_trans hw (hsa ia j h1 h2)
theorem LoL.leA (h : LoL a b x out ia ib) (hsb : SortedTo b b.size) (hw : K a ia ≤ K b ib) : ∀ j, ib ≤ j → j < b.size → K a ia ≤ K b j := fun j h1 h2 => Int.le_trans hw (hsb ib j h1 h2)

theorem wpS_galR {st : SortSt} {Q : Option Nat → SortSt → Prop} (L : LoL a b x out ia ib) (hk : kindOf st = oneType') (ka : IntKeys a) (kb : IntKeys b) (hsa : SortedTo a a.size) (hsb : SortedTo b b.size)
    (h : ∀ k, ia + k ≤ a.size → MJ a b (out ++ a.extract ia (ia + k)).toList (ia + k) ib → (∀ j, ia + k ≤ j → j < a.size → K b ib ≤ K a j) → Q (some k) st) :
    wpS (model prog w) A E s (gallopS false (b[ib]'L.2.2.1) a ia (a.size - ia) 0) Q st := by
  have hib := L.2.2.1
  have ha := L.ha
  have eb := K_at hib
  refine wpS_gallop hk (intKey kb hib) ka (Nat.sub_pos_of_lt ha) (Nat.le_of_eq (Nat.add_sub_cancel' (Nat.le_of_lt ha))) (fun i j hij hjn => hsa _ _ (Nat.add_le_add_left hij _) (Nat.add_lt_of_lt_sub' hjn)) fun k k1 k2 k3 => ?_
  rw [← eb] at k2 k3
  have h1 : ia + k ≤ a.size := by rw [Nat.add_comm]; exact Nat.add_le_of_le_sub (Nat.le_of_lt ha) k1
  refine h k h1 ?_ fun j h1 h2 => ?_
  · rw [Array.toList_append]
    refine L.1.chunkA hsa k h1 fun i hi j h1 h2 => Int.le_trans ?_ (hsb ib j h1 h2)
    have x1 := k2 i hi
    exact Int.not_lt.mp (of_decide_eq_false ((Bool.not_eq_true' _).mp x1))
  · obtain ⟨j, rfl⟩ := Nat.exists_eq_add_of_le (Nat.le_trans (Nat.le_add_right ia k) h1)
    have x1 := k3 j (Nat.le_of_add_le_add_left h1) (Nat.lt_sub_of_add_lt (by rw [Nat.add_comm]; exact h2))
    exact Int.le_of_lt (of_decide_eq_true ((Bool.not_eq_false' _).mp x1))
theorem wpS_galL {st : SortSt} {Q : Option Nat → SortSt → Prop} (L : LoL a b x out ia ib) (hk : kindOf st = oneType') (ka : IntKeys a) (kb : IntKeys b) (hsa : SortedTo a a.size) (hsb : SortedTo b b.size)
    (h : ∀ k, ib + k ≤ b.size → MJ a b (out ++ b.extract ib (ib + k)).toList ia (ib + k) → (∀ j, ib + k ≤ j → j < b.size → K a ia ≤ K b j) → Q (some k) st) :
    wpS (model prog w) A E s (gallopS true (a[ia]'L.ha) b ib (b.size - ib) 0) Q st := by
  have hib := L.2.2.1
  have ha := L.ha
  have eb := K_at ha
  refine wpS_gallop hk (intKey ka ha) kb (Nat.sub_pos_of_lt hib) (Nat.le_of_eq (Nat.add_sub_cancel' (Nat.le_of_lt hib))) (fun i j hij hjn => hsb _ _ (Nat.add_le_add_left hij _) (Nat.add_lt_of_lt_sub' hjn)) fun k k1 k2 k3 => ?_
  rw [← eb] at k2 k3
  have h1 : ib + k ≤ b.size := by rw [Nat.add_comm]; exact Nat.add_le_of_le_sub (Nat.le_of_lt hib) k1
  refine h k h1 ?_ fun j h1 h2 => ?_
  · rw [Array.toList_append]
    refine L.1.chunkB hsb k h1 fun i hi j h1 h2 => Int.le_trans ?_ (hsa ia j h1 h2)
    have x1 := k2 i hi
    exact Int.le_of_lt (of_decide_eq_true x1)
  · obtain ⟨j, rfl⟩ := Nat.exists_eq_add_of_le (Nat.le_trans (Nat.le_add_right ib k) h1)
    have x1 := k3 j (Nat.le_of_add_le_add_left h1) (Nat.lt_sub_of_add_lt (by rw [Nat.add_comm]; exact h2))
    exact Int.not_lt.mp (of_decide_eq_false x1)
end

theorem wpS_mergeLo {a b : Array Keyed} {st : SortSt} {Q : Array Keyed → SortSt → Prop} (hk : kindOf st = oneType') (ka : IntKeys a) (kb : IntKeys b) (hsa : SortedTo a a.size) (hsb : SortedTo b b.size)
    (ha : 0 < a.size) (hb : 0 < b.size) (hlo : ∀ j, j < a.size → K b 0 ≤ K a j) (hhi : ∀ j, j < b.size → K b j ≤ K a (a.size - 1))
    (h : ∀ out g, Merged a b out → Q out (setG st g)) : wpS (model prog w) A E s (mergeLoS a b) Q st := by
  unfold mergeLoS
  refine wpS_bind (wpS_lift (wpAny_rule ⟨rfl, ?_⟩))
  refine wpS_bind (wpS_elemS hb ?_)
  have j0 := MJ.start hsb hb hlo
  refine wpS_iteN (fun h1 => wpS_pure (h _ _ (MJ.done (out := #[b[0]]) j0 hsa hsb (Nat.zero_le _) hb (.inr h1)))) fun h1 => ?_
  refine wpS_iteN (fun h2 => wpS_pure (h _ _ (MJ.lastA (out := #[b[0]]) j0 hsa hsb h2 hb hhi))) fun h2 => ?_
  refine wpS_bind (wpS_get ?_)
  have start : LoL a b (0 + 1) #[b[0]] 0 1 := ⟨j0, Nat.lt_of_le_of_ne ha h2, Nat.lt_of_le_of_ne hb h1, Nat.le_refl _⟩
  refine wpS_bind (wpS_mono (wpS_forRange
    (I := fun x c st' => WasG st st' ∧ LoL a b (x + 1) c.2.1 c.2.2.1 c.2.2.2.1)
    (Q := fun c st' => WasG st st' ∧ EndOr a b c.1 False) ?step ?fin ⟨.self st, start⟩) ?post)
  case fin =>
    rintro ⟨_, out, ia, ib, g⟩ st' ⟨_, L⟩
    exact L.no (Nat.le_trans (Nat.le_max_right _ _) (Nat.le_succ _))
  case post =>
    rintro ⟨r, out, ia, ib, g⟩ st' ⟨⟨g', rfl⟩, hm⟩
    rcases r with _ | r
    · exact hm.elim
    · exact wpS_pure (h _ _ hm)
  case step =>
    clear start h1 h2 j0 h
    rintro x ⟨_, out, ia, ib, g⟩ st' _ hx ⟨hg, L⟩
    refine wpS_bind (wpS_mono (wpS_forRange
      (I := fun y c st' => WasG st st' ∧ LoL a b (x + 1 + y) c.2.1 c.2.2.1 c.2.2.2.1)
      (Q := fun c st' => WasG st st' ∧ EndOr a b c.1 (LoL a b (x + 2) c.2.1 c.2.2.1 c.2.2.2.1))
      ?step1 ?fin1 ⟨hg, L⟩) ?post1)
    case fin1 =>
      rintro ⟨_, out, ia, ib, ac, bc⟩ st' ⟨_, L⟩
      exact L.no (Nat.le_trans (Nat.le_max_right _ _) (Nat.le_add_left _ _))
    case step1 =>
      clear L hg
      rintro y ⟨_, out, ia, ib, ac, bc⟩ st' _ hy ⟨hg, L⟩
      change LoL a b _ out ia ib at L
      have hL : x + 2 ≤ x + 1 + y + 1 := Nat.succ_le_succ (Nat.le_add_right _ _)
      refine wpS_bind (wpS_elemS L.2.2.1 (wpS_bind (wpS_elemS L.ha (wpS_bind (wpS_ltS (hg.kind.trans hk) (intKey kb _) (intKey ka _) ?_)))))
      refine wpS_iteB (fun hw => wpS_bind (wpS_elemS L.2.2.1 ?_)) fun hw => wpS_bind (wpS_elemS L.ha ?_)
      · rw [← K_at, ← K_at] at hw
        have hle := L.leB hsa (Int.le_of_lt hw)
        refine wpS_iteN (fun h3 => wpS_pure ⟨hg, L.endB hsa hsb hle h3⟩) fun h3 => ?_
        have L' := L.pushB hsb hle h3
        exact wpS_ite (fun _ => wpS_pure ⟨hg, L'.le hL⟩) fun _ => wpS_pure ⟨hg, L'⟩
      · rw [← K_at, ← K_at] at hw
        have hle := L.leA hsb (Int.not_lt.mp hw)
        refine wpS_iteN (fun h3 => wpS_pure ⟨hg, L.endA hsa hsb hhi hle h3⟩) fun h3 => ?_
        have L' := L.pushA hsa hle h3
        exact wpS_ite (fun _ => wpS_pure ⟨hg, L'.le hL⟩) fun _ => wpS_pure ⟨hg, L'⟩
    case post1 =>
      clear L hg
      rintro ⟨r, out, ia, ib, ac, bc⟩ st' ⟨hg, L⟩
      rcases r with _ | r
      rotate_left
      · exact wpS_pure ⟨hg, L⟩
      refine wpS_bind (wpS_lift (wpAny_rule ⟨rfl, ?_⟩))
      refine wpS_bind (wpS_mono (wpS_forRange
        (I := fun y c st' => WasG st st' ∧ LoL a b (x + 2 + y) c.2.1 c.2.2.1 c.2.2.2.1)
        (Q := fun c st' => WasG st st' ∧ EndOr a b c.1 (LoL a b (x + 2) c.2.1 c.2.2.1 c.2.2.2.1))
        ?step2 ?fin2 ?init2) ?post2)
      case init2 => exact ⟨hg, L⟩
      case fin2 =>
        rintro ⟨_, out, ia, ib, g, ac, bc⟩ st' ⟨_, L⟩
        exact L.no (Nat.le_trans (Nat.le_max_right _ _) (Nat.le_add_left _ _))
      case post2 =>
        clear L hg
        rintro ⟨r, out, ia, ib, g, ac, bc⟩ st' ⟨hg, L⟩
        rcases r with _ | r
        · exact wpS_bind (wpS_modify (wpS_pure ⟨hg.set _, L⟩))
        · exact wpS_pure ⟨hg, L⟩
      case step2 =>
        clear L hg
        rintro y ⟨_, out, ia, ib, g, ac, bc⟩ st' _ hy ⟨hg, L⟩
        change LoL a b _ out ia ib at L
        dsimp only
        refine' wpS_two (g - 1) ?hx ?hf
        case hx => intro x h9; rw [← h9]
        intro gg
        refine wpS_bind (wpS_modify (wpS_bind (wpS_elemS L.2.2.1 (wpS_bind (wpS_galR L ((hg.set gg).kind.trans hk) ka kb hsa hsb fun k hk1 hjc hgt => ?_)))))
        dsimp only
        refine' wpS_chunk2 (out ++ a.extract ia (ia + k)) (ia + k) (fun o i => LoL a b (x + 2 + y) o i ib ∧ ∀ j, i ≤ j → j < a.size → K b ib ≤ K a j) ?hx ?p1 ?p2 ?p3 ?p4 ?p5
        case hx => intro x y h8 h9; rw [← h8, ← h9]
        · exact fun _ e => wpS_pure ⟨hg.set _, MJ.lastA hjc hsa hsb (eq_of_beq e) (Nat.le_of_lt L.2.2.1) hhi⟩
        · exact fun _ _ e => wpS_pure ⟨hg.set _, MJ.done hjc hsa hsb hk1 (Nat.le_of_lt L.2.2.1) (.inl (eq_of_beq e))⟩
        · exact fun _ n1 n2 => ⟨⟨hjc, Nat.lt_of_le_of_ne (Nat.lt_of_le_of_ne hk1 fun e => n2 (beq_iff_eq.mpr e)) fun e => n1 (beq_iff_eq.mpr e), L.2.2.1, Nat.le_trans L.2.2.2 (Nat.add_le_add_right (Nat.le_add_right _ _) _)⟩, hgt⟩
        · intro hc
          rw [Nat.eq_zero_of_not_pos hc] at hgt
          exact ⟨L, hgt⟩
        clear hjc hgt hk1 L
        rintro o ia ⟨L, hgt⟩
        have hib := L.2.2.1
        refine wpS_bind (wpS_elemS L.2.2.1 (wpS_iteN (fun e3 => wpS_pure ⟨hg.set _, L.endB hsa hsb hgt e3⟩) fun e3 => ?_))
        replace L := L.pushB hsb hgt e3
        clear hgt e3
        refine wpS_bind (wpS_elemS L.ha (wpS_bind (wpS_galL L ((hg.set gg).kind.trans hk) ka kb hsa hsb fun l hl1 hjc hgt => ?_)))
        dsimp only
        refine' wpS_chunk1 (o.push b[ib] ++ b.extract (ib + 1) (ib + 1 + l)) (ib + 1 + l) (fun o i => LoL a b (x + 2 + y + 1) o ia i ∧ ∀ j, i ≤ j → j < b.size → K a ia ≤ K b j) ?hx2 ?q1 ?q2 ?q3 ?q4
        case hx2 => intro x y h8 h9; rw [← h8, ← h9]
        · exact fun _ e => wpS_pure ⟨hg.set _, MJ.done hjc hsa hsb (Nat.le_of_lt L.ha) hl1 (.inr (eq_of_beq e))⟩
        · exact fun _ n1 => ⟨⟨hjc, L.2.1, Nat.lt_of_le_of_ne hl1 fun e => n1 (beq_iff_eq.mpr e), Nat.le_trans L.2.2.2 (Nat.add_le_add_left (Nat.le_add_right _ _) _)⟩, hgt⟩
        · intro hc
          rw [Nat.eq_zero_of_not_pos hc] at hgt
          exact ⟨L, hgt⟩
        clear hjc hgt hl1 L
        rintro o ib ⟨L, hgt⟩
        refine wpS_bind (wpS_elemS L.ha (wpS_iteN (fun e3 => wpS_pure ⟨hg.set _, L.endA hsa hsb hhi hgt e3⟩) fun e3 => ?_))
        replace L := L.pushA hsa hgt e3
        exact wpS_ite (fun _ => wpS_pure ⟨hg.set _, L.le (Nat.le_add_right _ (y + 2))⟩) fun _ => wpS_pure ⟨hg.set _, L.le (Nat.le_succ _)⟩
end

/-- what was merged from behind -/
structure MH (a b : Array Keyed) (out : List Keyed) (na nb : Nat) : Prop where
  perm : out.Perm (a.toList.drop na ++ b.toList.drop nb)
  srt : out.reverse.Pairwise LEk
  la : ∀ x ∈ out, ∀ j, j < na → j < a.size → K a j ≤ kv x
  lb : ∀ x ∈ out, ∀ j, j < nb → j < b.size → K b j ≤ kv x

theorem MH.swap {a b : Array Keyed} {out : List Keyed} {na nb : Nat} (h : MH a b out na nb) : MH b a out nb na :=
  ⟨h.perm.trans List.perm_append_comm, h.srt, h.lb, h.la⟩

theorem MH.pushA {a b : Array Keyed} {out : List Keyed} {na nb : Nat} (h : MH a b out na nb) (hsa : SortedTo a a.size) (h0 : 0 < na) (ha : na - 1 < a.size) (hle : ∀ j, j < nb → j < b.size → K b j ≤ K a (na - 1)) :
    MH a b (out ++ [a[na - 1]]) (na - 1) nb := by
  have ek := K_at ha
  refine ⟨?_, ?_, ?_, ?_⟩
  · have e : a.toList.drop (na - 1) = a[na - 1] :: a.toList.drop na := by
      rw [List.drop_eq_getElem_cons (by simpa using ha), show na - 1 + 1 = na by omega]
      simp
    rw [e, List.cons_append]
    exact (List.perm_append_singleton _ _).trans (h.perm.cons _)
  · rw [List.reverse_append]
    refine List.pairwise_cons.mpr ⟨fun y hy => ?_, h.srt⟩
    have := h.la y (by simpa using hy) (na - 1) (by omega) ha
    rwa [ek] at this
  · intro x hx j h1 h2
    rcases List.mem_append.mp hx with hx | hx
    · exact h.la x hx j (by omega) h2
    · rw [List.mem_singleton] at hx
      subst hx
      have := hsa j (na - 1) (by omega) ha
      rwa [ek] at this
  · intro x hx j h1 h2
    rcases List.mem_append.mp hx with hx | hx
    · exact h.lb x hx j h1 h2
    · rw [List.mem_singleton] at hx
      subst hx
      have := hle j h1 h2
      rwa [ek] at this
theorem MH.pushB {a b : Array Keyed} {out : List Keyed} {na nb : Nat} (h : MH a b out na nb) (hsb : SortedTo b b.size) (h0 : 0 < nb) (hb : nb - 1 < b.size) (hle : ∀ j, j < na → j < a.size → K a j ≤ K b (nb - 1)) :
    MH a b (out ++ [b[nb - 1]]) na (nb - 1) := (h.swap.pushA hsb h0 hb hle).swap

theorem MH.chunkA' {a b : Array Keyed} {out : List Keyed} {na nb : Nat} (h : MH a b out na nb) (hsa : SortedTo a a.size) (hna : na ≤ a.size) : ∀ (d : Nat), d ≤ na → (∀ i, na - d ≤ i → i < na → ∀ j, j < nb → j < b.size → K b j ≤ K a i) →
    MH a b (out ++ (a.extract (na - d) na).toList.reverse) (na - d) nb
  | 0, _, _ => by simpa using h
  | d + 1, hd, hle => by
    have ih := MH.chunkA' h hsa hna d (by omega) fun i hi => hle i (by omega)
    have hlt : na - (d + 1) < a.size := by omega
    have e : (a.extract (na - (d + 1)) na).toList = a[na - (d + 1)] :: (a.extract (na - d) na).toList := by
      simp only [Array.toList_extract, List.extract_eq_take_drop]
      rw [List.drop_eq_getElem_cons (by simpa using hlt), show na - (na - (d + 1)) = (na - (na - d)) + 1 by omega, List.take_succ_cons, show na - (d + 1) + 1 = na - d by omega]
      simp
    have := ih.pushA hsa (by omega) (by omega) (hle (na - d - 1) (by omega) (by omega))
    rw [e, List.reverse_cons, ← List.append_assoc]
    exact this
theorem MH.chunkA {a b : Array Keyed} {out : List Keyed} {na nb : Nat} (h : MH a b out na nb) (hsa : SortedTo a a.size) (hna : na ≤ a.size) {at' : Nat} (hat : at' ≤ na) (hle : ∀ i, at' ≤ i → i < na → ∀ j, j < nb → j < b.size → K b j ≤ K a i) :
    MH a b (out ++ (a.extract at' na).toList.reverse) at' nb := by
  have := h.chunkA' hsa hna (na - at') (by omega) fun i h1 h2 => hle i (by omega) h2
  rwa [show na - (na - at') = at' by omega] at this
theorem MH.chunkB {a b : Array Keyed} {out : List Keyed} {na nb : Nat} (h : MH a b out na nb) (hsb : SortedTo b b.size) (hnb : nb ≤ b.size) {at' : Nat} (hat : at' ≤ nb) (hle : ∀ i, at' ≤ i → i < nb → ∀ j, j < na → j < a.size → K a j ≤ K b i) :
    MH a b (out ++ (b.extract at' nb).toList.reverse) na at' := (h.swap.chunkA hsb hnb hat hle).swap

theorem MH.all {a b : Array Keyed} {out : List Keyed} (h : MH a b out 0 0) : out.reverse.Perm (a.toList ++ b.toList) ∧ out.reverse.Pairwise LEk :=
  ⟨(List.reverse_perm _).trans h.perm, h.srt⟩

theorem MH.first {a b : Array Keyed} {out : Array Keyed} {na nb : Nat} (h : MH a b out.toList na nb) (hsa : SortedTo a a.size) (hsb : SortedTo b b.size) (ha : na ≤ a.size) (hb : nb ≤ b.size)
    (hle : ∀ i, i < na → ∀ j, j < nb → j < b.size → K b j ≤ K a i) : Merged a b (b.extract 0 nb ++ a.extract 0 na ++ out.reverse) := by
  have h1 := h.chunkA hsa ha (Nat.zero_le na) fun i _ hi => hle i hi
  have h2 := h1.chunkB hsb hb (Nat.zero_le nb) fun i _ hi j hj => by omega
  have h3 := h2.all
  unfold Merged
  simpa using h3
theorem MH.done {a b : Array Keyed} {out : Array Keyed} {na nb : Nat} (h : MH a b out.toList na nb) (hsa : SortedTo a a.size) (hsb : SortedTo b b.size) (ha : na ≤ a.size) (hb : nb ≤ b.size) (hor : na = 0 ∨ nb = 0) :
    Merged a b (a.extract 0 na ++ b.extract 0 nb ++ out.reverse) := by
  have q := h.first hsa hsb ha hb fun i hi j hj => by omega
  rcases hor with e | e
  · subst e; simpa using q
  · subst e; simpa using q

/-- under way: both runs have more, the second more than one -/
def LiH (a b : Array Keyed) (x : Nat) (out : Array Keyed) (na nb : Nat) : Prop := MH a b out.toList na nb ∧ 0 < na ∧ na ≤ a.size ∧ 1 < nb ∧ nb ≤ b.size ∧ x + na + nb ≤ a.size + b.size

section
variable {a b out : Array Keyed} {na nb x : Nat}
theorem LiH.ha (h : LiH a b x out na nb) : na - 1 < a.size := Nat.lt_of_lt_of_le (Nat.sub_one_lt_of_lt h.2.1) h.2.2.1
theorem LiH.hb (h : LiH a b x out na nb) : nb - 1 < b.size := Nat.lt_of_lt_of_le (Nat.sub_one_lt_of_lt h.2.2.2.1) h.2.2.2.2.1
theorem LiH.le (h : LiH a b x out na nb) {y : Nat} (hy : y ≤ x) : LiH a b y out na nb :=
  ⟨h.1, h.2.1, h.2.2.1, h.2.2.2.1, h.2.2.2.2.1, Nat.le_trans (Nat.add_le_add_right (Nat.add_le_add_right hy _) _) h.2.2.2.2.2⟩
theorem LiH.no {P : Prop} (h : LiH a b x out na nb) (hx : a.size + b.size ≤ x) : P := by
  have h1 := h.2.1
  have h2 := h.2.2.2.2.2
  omega
theorem LiH.pushA (h : LiH a b x out na nb) (hsa : SortedTo a a.size) (hle : ∀ j, j < nb → j < b.size → K b j ≤ K a (na - 1)) (hn : na - 1 ≠ 0) : LiH a b (x + 1) (out.push (a[na - 1]'h.ha)) (na - 1) nb := by
  refine ⟨?_, Nat.pos_of_ne_zero hn, Nat.le_of_lt h.ha, h.2.2.2.1, h.2.2.2.2.1, by have h1 := h.2.1; have h2 := h.2.2.2.2.2; omega⟩
  rw [Array.toList_push]
  exact h.1.pushA hsa h.2.1 h.ha hle
theorem LiH.pushB (h : LiH a b x out na nb) (hsb : SortedTo b b.size) (hle : ∀ j, j < na → j < a.size → K a j ≤ K b (nb - 1)) (hn : nb - 1 ≠ 1) : LiH a b (x + 1) (out.push (b[nb - 1]'h.hb)) na (nb - 1) := by
  refine ⟨?_, h.2.1, h.2.2.1, by have h1 := h.2.2.2.1; omega, Nat.le_of_lt h.hb, by have h1 := h.2.2.2.1; have h2 := h.2.2.2.2.2; omega⟩
  rw [Array.toList_push]
  exact h.1.pushB hsb (Nat.lt_trans Nat.zero_lt_one h.2.2.2.1) h.hb hle
theorem LiH.endA (h : LiH a b x out na nb) (hsa : SortedTo a a.size) (hsb : SortedTo b b.size) (hle : ∀ j, j < nb → j < b.size → K b j ≤ K a (na - 1)) (hn : na - 1 = 0) :
    Merged a b (a.extract 0 (na - 1) ++ b.extract 0 nb ++ (out.push (a[na - 1]'h.ha)).reverse) := by
  have := h.1.pushA hsa h.2.1 h.ha hle
  rw [← Array.toList_push] at this
  exact this.done hsa hsb (Nat.le_of_lt h.ha) h.2.2.2.2.1 (.inl hn)
theorem MH.one (h : MH a b out.toList na nb) (hsa : SortedTo a a.size) (hsb : SortedTo b b.size) (ha : na ≤ a.size) (hb : nb ≤ b.size) (hlo : ∀ j, j < a.size → K b 0 ≤ K a j) (hn : nb = 1) :
    Merged a b (b.extract 0 nb ++ a.extract 0 na ++ out.reverse) :=
  h.first hsa hsb ha hb fun i hi j hj _ => by
    rw [hn] at hj
    rw [Nat.lt_one_iff.mp hj]
    exact hlo i (Nat.lt_of_lt_of_le hi ha)
theorem LiH.endB (h : LiH a b x out na nb) (hsa : SortedTo a a.size) (hsb : SortedTo b b.size) (hlo : ∀ j, j < a.size → K b 0 ≤ K a j) (hle : ∀ j, j < na → j < a.size → K a j ≤ K b (nb - 1)) (hn : nb - 1 = 1) :
    Merged a b (b.extract 0 (nb - 1) ++ a.extract 0 na ++ (out.push (b[nb - 1]'h.hb)).reverse) := by
  have := h.1.pushB hsb (Nat.lt_trans Nat.zero_lt_one h.2.2.2.1) h.hb hle
  rw [← Array.toList_push] at this
  exact this.one hsa hsb h.2.2.1 (Nat.le_of_lt h.hb) hlo hn
theorem LiH.leA (h : LiH a b x out na nb) (hsb : SortedTo b b.size) (hw : K b (nb - 1) ≤ K a (na - 1)) : ∀ j, j < nb → j < b.size → K b j ≤ K a (na - 1) := fun j h1 _ => Int.le_trans (hsb j (nb - 1) (Nat.le_sub_one_of_lt h1) h.hb) hw
theorem LiH.leB (h : LiH a b x out na nb) (hsa : SortedTo a a.size) (hw : K a (na - 1) ≤ K b (nb - 1)) : ∀ j, j < na → j < a.size → K a j ≤ K b (nb - 1) := fun j h1 _ => Int.le_trans (hsa j (na - 1) (Nat.le_sub_one_of_lt h1) h.ha) hw
end

section
variable {prog : Program} {w : World} {A : Around} {E : Value → Shared → Prop} {s : Shared}

theorem MH.start {a b : Array Keyed} (hsa : SortedTo a a.size) (ha : 0 < a.size) (hhi : ∀ j, j < b.size → K b j ≤ K a (a.size - 1)) : MH a b [a[a.size - 1]] (a.size - 1) b.size := by
  have h : MH a b [] a.size b.size := ⟨by simp, .nil, by simp, by simp⟩
  exact h.pushA hsa ha (by omega) fun j _ hj => hhi j hj

theorem wpS_galHR {a b out : Array Keyed} {na nb x : Nat} {st : SortSt} {Q : Option Nat → SortSt → Prop} (L : LiH a b x out na nb) (hk : kindOf st = oneType') (ka : IntKeys a) (kb : IntKeys b) (hsa : SortedTo a a.size) (hsb : SortedTo b b.size)
    (h : ∀ k, k ≤ na → MH a b (out ++ (a.extract k na).reverse).toList k nb → (∀ j, j < k → j < a.size → K a j ≤ K b (nb - 1)) → Q (some k) st) :
    wpS (model prog w) A E s (gallopS false (b[nb - 1]'L.hb) a 0 na (na - 1)) Q st := by
  have eb := K_at L.hb
  refine wpS_gallop hk (intKey kb L.hb) ka (Nat.sub_one_lt_of_lt L.2.1) (by rw [Nat.zero_add]; exact L.2.2.1) (fun i j hij hjn => ?_) fun k k1 k2 k3 => ?_
  · rw [Nat.zero_add, Nat.zero_add]; exact hsa _ _ hij (Nat.lt_of_lt_of_le hjn L.2.2.1)
  rw [← eb] at k2 k3
  refine h k k1 ?_ fun j h1 h2 => ?_
  · rw [Array.toList_append, Array.toList_reverse]
    refine L.1.chunkA hsa L.2.2.1 k1 fun i h0 h1 j h2 h3 => Int.le_trans (hsb j (nb - 1) (Nat.le_sub_one_of_lt h2) L.hb) ?_
    have x1 := k3 i h0 h1
    rw [Nat.zero_add] at x1
    exact Int.le_of_lt (of_decide_eq_true ((Bool.not_eq_false' _).mp x1))
  · have x1 := k2 j h1
    rw [Nat.zero_add] at x1
    exact Int.not_lt.mp (of_decide_eq_false ((Bool.not_eq_true' _).mp x1))
theorem wpS_galHL {a b out : Array Keyed} {na nb x : Nat} {st : SortSt} {Q : Option Nat → SortSt → Prop} (L : LiH a b x out na nb) (hk : kindOf st = oneType') (ka : IntKeys a) (kb : IntKeys b) (hsa : SortedTo a a.size) (hsb : SortedTo b b.size)
    (h : ∀ k, k ≤ nb → MH a b (out ++ (b.extract k nb).reverse).toList na k → (∀ j, j < k → j < b.size → K b j ≤ K a (na - 1)) → Q (some k) st) :
    wpS (model prog w) A E s (gallopS true (a[na - 1]'L.ha) b 0 nb (nb - 1)) Q st := by
  have eb := K_at L.ha
  refine wpS_gallop hk (intKey ka L.ha) kb (Nat.sub_one_lt_of_lt L.2.2.2.1) (by rw [Nat.zero_add]; exact L.2.2.2.2.1) (fun i j hij hjn => ?_) fun k k1 k2 k3 => ?_
  · rw [Nat.zero_add, Nat.zero_add]; exact hsb _ _ hij (Nat.lt_of_lt_of_le hjn L.2.2.2.2.1)
  rw [← eb] at k2 k3
  refine h k k1 ?_ fun j h1 h2 => ?_
  · rw [Array.toList_append, Array.toList_reverse]
    refine L.1.chunkB hsb L.2.2.2.2.1 k1 fun i h0 h1 j h2 h3 => Int.le_trans (hsa j (na - 1) (Nat.le_sub_one_of_lt h2) L.ha) ?_
    have x1 := k3 i h0 h1
    rw [Nat.zero_add] at x1
    exact Int.not_lt.mp (of_decide_eq_false x1)
  · have x1 := k2 j h1
    rw [Nat.zero_add] at x1
    exact Int.le_of_lt (of_decide_eq_true x1)

theorem wpS_mergeHi {a b : Array Keyed} {st : SortSt} {Q : Array Keyed → SortSt → Prop} (hk : kindOf st = oneType') (ka : IntKeys a) (kb : IntKeys b) (hsa : SortedTo a a.size) (hsb : SortedTo b b.size)
    (ha : 0 < a.size) (hb : 0 < b.size) (hlo : ∀ j, j < a.size → K b 0 ≤ K a j) (hhi : ∀ j, j < b.size → K b j ≤ K a (a.size - 1))
    (h : ∀ out g, Merged a b out → Q out (setG st g)) : wpS (model prog w) A E s (mergeHiS a b) Q st := by
  unfold mergeHiS
  refine wpS_bind (wpS_lift (wpAny_rule ⟨rfl, ?_⟩))
  have ha1 : a.size - 1 < a.size := Nat.sub_one_lt_of_lt ha
  refine wpS_bind (wpS_elemS ha1 ?_)
  have j0 := MH.start hsa ha hhi
  refine wpS_iteN (fun h1 => wpS_pure (h _ _ (MH.done (out := #[a[a.size - 1]]) j0 hsa hsb (Nat.le_of_lt ha1) (Nat.le_refl _) (.inl h1)))) fun h1 => ?_
  refine wpS_iteN (fun h2 => wpS_pure (h _ _ (MH.one (out := #[a[a.size - 1]]) j0 hsa hsb (Nat.le_of_lt ha1) (Nat.le_refl _) hlo h2))) fun h2 => ?_
  refine wpS_bind (wpS_get ?_)
  have start : LiH a b (0 + 1) #[a[a.size - 1]] (a.size - 1) b.size := ⟨j0, Nat.pos_of_ne_zero h1, Nat.le_of_lt ha1, Nat.lt_of_le_of_ne hb (Ne.symm h2), Nat.le_refl _, by clear hlo hhi h; omega⟩
  refine wpS_bind (wpS_mono (wpS_forRange
    (I := fun x c st' => WasG st st' ∧ LiH a b (x + 1) c.2.2.2.1 c.2.1 c.2.2.1)
    (Q := fun c st' => WasG st st' ∧ EndOr a b c.1 False) ?step ?fin ⟨.self st, start⟩) ?post)
  case fin =>
    rintro ⟨_, na, nb, out, g⟩ st' ⟨_, L⟩
    exact L.no (Nat.le_trans (Nat.le_max_right _ _) (Nat.le_succ _))
  case post =>
    rintro ⟨r, na, nb, out, g⟩ st' ⟨⟨g', rfl⟩, hm⟩
    rcases r with _ | r
    · exact hm.elim
    · exact wpS_pure (h _ _ hm)
  case step =>
    clear start h1 h2 j0 h
    rintro x ⟨_, na, nb, out, g⟩ st' _ hx ⟨hg, L⟩
    refine wpS_bind (wpS_mono (wpS_forRange
      (I := fun y c st' => WasG st st' ∧ LiH a b (x + 1 + y) c.2.2.2.1 c.2.1 c.2.2.1)
      (Q := fun c st' => WasG st st' ∧ EndOr a b c.1 (LiH a b (x + 2) c.2.2.2.1 c.2.1 c.2.2.1))
      ?step1 ?fin1 ⟨hg, L⟩) ?post1)
    case fin1 =>
      rintro ⟨_, na, nb, out, ac, bc⟩ st' ⟨_, L⟩
      exact L.no (Nat.le_trans (Nat.le_max_right _ _) (Nat.le_add_left _ _))
    case step1 =>
      clear L hg
      rintro y ⟨_, na, nb, out, ac, bc⟩ st' _ hy ⟨hg, L⟩
      change LiH a b _ out na nb at L
      have hL : x + 2 ≤ x + 1 + y + 1 := Nat.succ_le_succ (Nat.le_add_right _ _)
      refine wpS_bind (wpS_elemS L.hb (wpS_bind (wpS_elemS L.ha (wpS_bind (wpS_ltS (hg.kind.trans hk) (intKey kb _) (intKey ka _) ?_)))))
      refine wpS_iteB (fun hw => wpS_bind (wpS_elemS L.ha ?_)) fun hw => wpS_bind (wpS_elemS L.hb ?_)
      · rw [← K_at, ← K_at] at hw
        have hle := L.leA hsb (Int.le_of_lt hw)
        refine wpS_iteN (fun h3 => wpS_pure ⟨hg, L.endA hsa hsb hle h3⟩) fun h3 => ?_
        have L' := L.pushA hsa hle h3
        exact wpS_ite (fun _ => wpS_pure ⟨hg, L'.le hL⟩) fun _ => wpS_pure ⟨hg, L'⟩
      · rw [← K_at, ← K_at] at hw
        have hle := L.leB hsa (Int.not_lt.mp hw)
        refine wpS_iteN (fun h3 => wpS_pure ⟨hg, L.endB hsa hsb hlo hle h3⟩) fun h3 => ?_
        have L' := L.pushB hsb hle h3
        exact wpS_ite (fun _ => wpS_pure ⟨hg, L'.le hL⟩) fun _ => wpS_pure ⟨hg, L'⟩
    case post1 =>
      clear L hg
      rintro ⟨r, na, nb, out, ac, bc⟩ st' ⟨hg, L⟩
      rcases r with _ | r
      rotate_left
      · exact wpS_pure ⟨hg, L⟩
      refine wpS_bind (wpS_lift (wpAny_rule ⟨rfl, ?_⟩))
      refine wpS_bind (wpS_mono (wpS_forRange
        (I := fun y c st' => WasG st st' ∧ LiH a b (x + 2 + y) c.2.2.2.1 c.2.1 c.2.2.1)
        (Q := fun c st' => WasG st st' ∧ EndOr a b c.1 (LiH a b (x + 2) c.2.2.2.1 c.2.1 c.2.2.1))
        ?step2 ?fin2 ?init2) ?post2)
      case init2 => exact ⟨hg, L⟩
      case fin2 =>
        rintro ⟨_, na, nb, out, g, ac, bc⟩ st' ⟨_, L⟩
        exact L.no (Nat.le_trans (Nat.le_max_right _ _) (Nat.le_add_left _ _))
      case post2 =>
        clear L hg
        rintro ⟨r, na, nb, out, g, ac, bc⟩ st' ⟨hg, L⟩
        rcases r with _ | r
        · exact wpS_bind (wpS_modify (wpS_pure ⟨hg.set _, L⟩))
        · exact wpS_pure ⟨hg, L⟩
      case step2 =>
        clear L hg
        rintro y ⟨_, na, nb, out, g, ac, bc⟩ st' _ hy ⟨hg, L⟩
        change LiH a b _ out na nb at L
        dsimp only
        refine' wpS_two (g - 1) ?hx ?hf
        case hx => intro x h9; rw [← h9]
        intro gg
        refine wpS_bind (wpS_modify (wpS_bind (wpS_elemS L.hb (wpS_bind (wpS_galHR L ((hg.set gg).kind.trans hk) ka kb hsa hsb fun k hk1 hjc hgt => ?_)))))
        dsimp only
        obtain ⟨cnt, hcnt⟩ : ∃ z, z = na - k := ⟨_, rfl⟩
        rw [← hcnt]
        refine' wpS_chunk1 (out ++ (a.extract k na).reverse) k (fun o i => LiH a b (x + 2 + y) o i nb ∧ ∀ j, j < i → j < a.size → K a j ≤ K b (nb - 1)) ?hx1 ?p1 ?p2 ?p3 ?p4
        case hx1 => intro x y h8 h9; rw [← h8, ← h9]
        · exact fun _ e => wpS_pure ⟨hg.set _, MH.done hjc hsa hsb (Nat.le_trans hk1 L.2.2.1) L.2.2.2.2.1 (.inl (eq_of_beq e))⟩
        · exact fun _ n1 => ⟨⟨hjc, Nat.pos_of_ne_zero fun e => n1 (beq_iff_eq.mpr e), Nat.le_trans hk1 L.2.2.1, L.2.2.2.1, L.2.2.2.2.1, Nat.le_trans (Nat.add_le_add_right (Nat.add_le_add_left hk1 _) _) L.2.2.2.2.2⟩, hgt⟩
        · intro hc
          rw [hcnt] at hc
          rw [Nat.le_antisymm hk1 (Nat.le_of_sub_eq_zero (Nat.eq_zero_of_not_pos hc))] at hgt
          exact ⟨L, hgt⟩
        clear hjc hgt hk1 L hcnt
        rintro o na ⟨L, hgt⟩
        have hbl := L.hb
        refine wpS_bind (wpS_elemS L.hb (wpS_iteN (fun e3 => wpS_pure ⟨hg.set _, L.endB hsa hsb hlo hgt e3⟩) fun e3 => ?_))
        replace L := L.pushB hsb hgt e3
        clear hgt e3
        refine wpS_bind (wpS_elemS L.ha (wpS_bind (wpS_galHL L ((hg.set gg).kind.trans hk) ka kb hsa hsb fun l hl1 hjc hgt => ?_)))
        dsimp only
        obtain ⟨cnt2, hcnt2⟩ : ∃ z, z = nb - 1 - l := ⟨_, rfl⟩
        rw [← hcnt2]
        refine' wpS_chunk2 (o.push b[nb - 1] ++ (b.extract l (nb - 1)).reverse) l (fun o i => LiH a b (x + 2 + y + 1) o na i ∧ ∀ j, j < i → j < b.size → K b j ≤ K a (na - 1)) ?hx2 ?q1 ?q2 ?q3 ?q4 ?q5
        case hx2 => intro x y h8 h9; rw [← h8, ← h9]
        · exact fun _ e => wpS_pure ⟨hg.set _, MH.one hjc hsa hsb L.2.2.1 (Nat.le_trans hl1 L.2.2.2.2.1) hlo (eq_of_beq e)⟩
        · exact fun _ _ e => wpS_pure ⟨hg.set _, MH.done hjc hsa hsb L.2.2.1 (Nat.le_trans hl1 L.2.2.2.2.1) (.inr (eq_of_beq e))⟩
        · exact fun _ n1 n2 => ⟨⟨hjc, L.2.1, L.2.2.1, Nat.lt_of_le_of_ne (Nat.pos_of_ne_zero fun e => n2 (beq_iff_eq.mpr e)) fun e => n1 (beq_iff_eq.mpr e.symm), Nat.le_trans hl1 L.2.2.2.2.1, Nat.le_trans (Nat.add_le_add_left hl1 _) L.2.2.2.2.2⟩, hgt⟩
        · intro hc
          rw [hcnt2] at hc
          rw [Nat.le_antisymm hl1 (Nat.le_of_sub_eq_zero (Nat.eq_zero_of_not_pos hc))] at hgt
          exact ⟨L, hgt⟩
        clear hjc hgt hl1 L hcnt2
        rintro o nb ⟨L, hgt⟩
        refine wpS_bind (wpS_elemS L.ha (wpS_iteN (fun e3 => wpS_pure ⟨hg.set _, L.endA hsa hsb hgt e3⟩) fun e3 => ?_))
        replace L := L.pushA hsa hgt e3
        exact wpS_ite (fun _ => wpS_pure ⟨hg.set _, L.le (Nat.le_add_right _ (y + 2))⟩) fun _ => wpS_pure ⟨hg.set _, L.le (Nat.le_succ _)⟩
end

def countRunS : Nat → Nat → StateT SortSt Sem (Option Nat) := sortPriv% PySem.Builtin.countRun
def binarySortS : Nat → Nat → Nat → StateT SortSt Sem Bool := sortPriv% PySem.Builtin.binarySort

def SegUp (xs : Array Keyed) (lo n : Nat) : Prop := ∀ i j, i ≤ j → j < n → K xs (lo + i) ≤ K xs (lo + j)
def SegDown (xs : Array Keyed) (lo n : Nat) : Prop := ∀ i j, i ≤ j → j < n → K xs (lo + j) ≤ K xs (lo + i)

/-- what a step above lo may have turned -/
structure SG (st₀ : SortSt) (lo : Nat) (st : SortSt) : Prop where
  eq : st = setArr st₀ (arrOf st)
  perm : (arrOf st).Perm (arrOf st₀)
  low : ∀ i, i < lo → K (arrOf st) i = K (arrOf st₀) i

theorem SG.self (st : SortSt) (lo : Nat) : SG st lo st := ⟨rfl, .refl _, fun _ _ => rfl⟩
theorem SG.size {st₀ st : SortSt} {lo : Nat} (h : SG st₀ lo st) : (arrOf st).size = (arrOf st₀).size := h.perm.size_eq
theorem SG.kind {st₀ st : SortSt} {lo : Nat} (h : SG st₀ lo st) : kindOf st = kindOf st₀ := by rw [h.eq]
theorem SG.ints {st₀ st : SortSt} {lo : Nat} (h : SG st₀ lo st) (h0 : IntKeys (arrOf st₀)) : IntKeys (arrOf st) :=
  fun p hp => h0 p ((Array.perm_iff_toList_perm.mp h.perm).mem_iff.mp hp)
theorem SG.mirror {st₀ st : SortSt} {lo i j : Nat} (h : SG st₀ lo st) (hi : lo ≤ i) (hj : j ≤ (arrOf st).size) : SG st₀ lo (setArr st (mirror (arrOf st) i j ((j - i) / 2))) := by
  refine ⟨?_, (mirror_perm _ _ _ _).trans h.perm, fun k hk => ?_⟩
  · show setArr st _ = setArr st₀ _
    rw [h.eq]
  · show K (PyProof.Rows.mirror (arrOf st) i j ((j - i) / 2)) k = _
    rw [K_mirror hj, if_neg (by omega)]
    exact h.low k hk

theorem SegUp.snoc {xs : Array Keyed} {lo n : Nat} (u : SegUp xs lo n) (h1 : 1 ≤ n) (h : K xs (lo + n - 1) ≤ K xs (lo + n)) : SegUp xs lo (n + 1) := by
  intro i j hij hj
  rcases Nat.lt_or_ge j n with hjn | hjn
  · exact u i j hij hjn
  · obtain rfl : j = n := Nat.le_antisymm (Nat.le_of_lt_succ hj) hjn
    rcases Nat.lt_or_ge i j with hi | hi
    · have := u i (j - 1) (Nat.le_sub_one_of_lt hi) (Nat.sub_one_lt_of_lt hi)
      rw [← Nat.add_sub_assoc h1] at this
      exact Int.le_trans this h
    · rw [Nat.le_antisymm hij hi]; exact Int.le_refl _
theorem SegDown.snoc {xs : Array Keyed} {lo n : Nat} (u : SegDown xs lo n) (h1 : 1 ≤ n) (h : K xs (lo + n) ≤ K xs (lo + n - 1)) : SegDown xs lo (n + 1) := by
  intro i j hij hj
  rcases Nat.lt_or_ge j n with hjn | hjn
  · exact u i j hij hjn
  · obtain rfl : j = n := Nat.le_antisymm (Nat.le_of_lt_succ hj) hjn
    rcases Nat.lt_or_ge i j with hi | hi
    · have := u i (j - 1) (Nat.le_sub_one_of_lt hi) (Nat.sub_one_lt_of_lt hi)
      rw [← Nat.add_sub_assoc h1] at this
      exact Int.le_trans h this
    · rw [Nat.le_antisymm hij hi]; exact Int.le_refl _
theorem SegDown.congr {xs ys : Array Keyed} {lo n : Nat} (u : SegDown xs lo n) (h : ∀ k, K ys k = K xs k) : SegDown ys lo n := fun i j a b => by
  rw [h, h]; exact u i j a b
/-- the last q + 1 of n are equal -/
def EqTail (xs : Array Keyed) (lo n q : Nat) : Prop := q + 1 ≤ n ∧ ∀ i, n - (q + 1) ≤ i → i < n → K xs (lo + i) = K xs (lo + n - 1)
theorem EqTail.one {xs : Array Keyed} {lo n : Nat} (h : 1 ≤ n) : EqTail xs lo n 0 := ⟨h, fun i a b => by rw [show i = n - 1 by omega, Nat.add_sub_assoc h]⟩
theorem EqTail.snoc {xs : Array Keyed} {lo n q : Nat} (h : EqTail xs lo n q) (e : K xs (lo + n) = K xs (lo + n - 1)) : EqTail xs lo (n + 1) (q + 1) := by
  refine ⟨Nat.succ_le_succ h.1, fun i a b => ?_⟩
  show _ = K xs (lo + n)
  rw [Nat.add_sub_add_right] at a
  rcases Nat.lt_or_ge i n with hi | hi
  · rw [e]; exact h.2 i a hi
  · rw [Nat.le_antisymm (Nat.le_of_lt_succ b) hi]
theorem EqTail.mir {xs : Array Keyed} {lo n q : Nat} (h : EqTail xs lo n q) (hs : lo + n ≤ xs.size) (k : Nat) : K (mirror xs (lo + n - (q + 1)) (lo + n) ((lo + n - (lo + n - (q + 1))) / 2)) k = K xs k := by
  refine K_mirror_equal hs (fun k k1 k2 => ?_) k
  have := h.1
  have := h.2 (k - lo) (by omega) (by omega)
  rwa [show lo + (k - lo) = k by omega] at this
theorem SegDown.mir {xs : Array Keyed} {lo n : Nat} (d : SegDown xs lo n) (hs : lo + n ≤ xs.size) : SegUp (mirror xs lo (lo + n) ((lo + n - lo) / 2)) lo n := by
  intro i j hij hj
  rw [K_mirror (by omega), K_mirror (by omega), if_pos (by omega), if_pos (by omega)]
  have := d (n - 1 - j) (n - 1 - i) (by omega) (by omega)
  rwa [show lo + (n - 1 - i) = lo + (lo + n) - 1 - (lo + i) by omega, show lo + (n - 1 - j) = lo + (lo + n) - 1 - (lo + j) by omega] at this

section
variable {prog : Program} {w : World} {A : Around} {E : Value → Shared → Prop} {s : Shared}

theorem wpS_ltAtS {st : SortSt} {i j : Nat} {Q : Option Bool → SortSt → Prop} (hk : kindOf st = oneType') (h0 : IntKeys (arrOf st)) (hi : i < (arrOf st).size) (hj : j < (arrOf st).size)
    (h : Q (some (decide (K (arrOf st) i < K (arrOf st) j))) st) : wpS (model prog w) A E s (ltAt' i j) Q st := by
  rw [ltAt'_eq]
  refine wpS_bind (wpS_get ?_)
  refine wpS_bind (wpS_elemS hi (wpS_bind (wpS_elemS hj (wpS_ltS hk (intKey h0 hi) (intKey h0 hj) ?_))))
  rw [K_at hi, K_at hj] at h
  exact h

theorem wpS_revS {st : SortSt} {i j : Nat} {Q : Unit → SortSt → Prop} (h : Q () (setArr st (mirror (arrOf st) i j ((j - i) / 2)))) :
    wpS (model prog w) A E s (reverseSlice' i j) Q st := by
  rw [reverseSlice'_eq]; exact wpS_modify h

/-- the jump past a test that may turn the state before it -/
theorem wpS_join {α : Type} {c : Prop} {ic : Decidable c} {X Y : StateT SortSt Sem α} {Q : α → SortSt → Prop} {st : SortSt} (R : SortSt → Prop) (h2 : ¬c → R st) (hY : ∀ st', R st' → wpS (model prog w) A E s Y Q st')
    (h1 : c → (∀ st', R st' → wpS (model prog w) A E s Y Q st') → wpS (model prog w) A E s X Q st) : wpS (model prog w) A E s (if c then X else Y) Q st :=
  wpS_ite (fun hc => h1 hc hY) fun n => hY _ (h2 n)

theorem wpS_asc {st : SortSt} {lo nrem n : Nat} {Q : Option (Option Nat) × Nat → SortSt → Prop} (hk : kindOf st = oneType') (h0 : IntKeys (arrOf st)) (hn : lo + nrem ≤ (arrOf st).size) (n1 : 1 ≤ n) (n2 : n ≤ nrem) (u : SegUp (arrOf st) lo n)
    (h : ∀ m, n ≤ m → m ≤ nrem → SegUp (arrOf st) lo m → (m = nrem ∨ K (arrOf st) (lo + m) < K (arrOf st) (lo + m - 1)) → Q (none, m) st) :
    wpS (model prog w) A E s (forIn [n:nrem] (none, n) fun (_ : Nat) (c : Option (Option Nat) × Nat) => (do
        let r ← ltAt' (lo + c.snd) (lo + c.snd - 1)
        match r with
          | some smaller => if smaller = true then pure (ForInStep.done (none, c.snd)) else pure (ForInStep.yield (none, c.snd + 1))
          | _ => pure (ForInStep.done (some none, c.snd)))) Q st := by
  refine wpS_forRange (I := fun x c st' => st' = st ∧ c.1 = none ∧ c.2 = x ∧ SegUp (arrOf st) lo x) ?_ ?_ ⟨rfl, rfl, rfl, u⟩
  · rintro _ ⟨_, x⟩ st' x1 x2 ⟨rfl, rfl, rfl, u⟩
    have hx := Nat.le_trans n1 x1
    have hx2 := Nat.lt_of_lt_of_le (Nat.add_lt_add_left x2 lo) hn
    refine wpS_bind (wpS_ltAtS hk h0 hx2 (Nat.lt_of_le_of_lt (Nat.sub_le _ _) hx2) ?_)
    refine wpS_iteB (fun hl => wpS_pure (h _ x1 (Nat.le_of_lt x2) u (.inr hl))) fun hl => wpS_pure ⟨rfl, rfl, rfl, u.snoc hx (Int.not_lt.mp hl)⟩
  · rintro ⟨_, _⟩ st' ⟨rfl, rfl, rfl, u⟩
    rw [Nat.max_eq_right n2] at u
    show Q (none, max n nrem) _
    rw [Nat.max_eq_right n2]
    exact h nrem n2 (Nat.le_refl _) u (.inl rfl)

theorem wpS_desc {st : SortSt} {lo nrem n : Nat} {Q : Option (Option Nat) × Nat × Nat → SortSt → Prop} {st₀ : SortSt} (hk : kindOf st₀ = oneType') (h0 : IntKeys (arrOf st₀)) (hn : lo + nrem ≤ (arrOf st₀).size) (g : SG st₀ lo st) (n1 : 1 ≤ n) (n2 : n ≤ nrem) (d : SegDown (arrOf st) lo n)
    (h : ∀ m q st2, SG st₀ lo st2 → n ≤ m → m ≤ nrem → SegDown (arrOf st2) lo m → EqTail (arrOf st2) lo m q → Q (none, m, q) st2) :
    wpS (model prog w) A E s (forIn [n:nrem] (none, n, 0) fun (_ : Nat) (c : Option (Option Nat) × Nat × Nat) => (do
        let r ← ltAt' (lo + c.snd.fst) (lo + c.snd.fst - 1)
        match r with
          | some smaller =>
            if smaller = true then
              if c.snd.snd > 0 then do
                reverseSlice' (lo + c.snd.fst - (c.snd.snd + 1)) (lo + c.snd.fst)
                pure (ForInStep.yield (none, c.snd.fst + 1, 0))
              else pure (ForInStep.yield (none, c.snd.fst + 1, 0))
            else do
              let r ← ltAt' (lo + c.snd.fst - 1) (lo + c.snd.fst)
              match r with
                | some larger =>
                  if larger = true then pure (ForInStep.done (none, c.snd.fst, c.snd.snd))
                  else pure (ForInStep.yield (none, c.snd.fst + 1, c.snd.snd + 1))
                | _ => pure (ForInStep.done (some none, c.snd.fst, c.snd.snd))
          | _ => pure (ForInStep.done (some none, c.snd.fst, c.snd.snd)))) Q st := by
  refine wpS_forRange (I := fun x c st' => c.1 = none ∧ c.2.1 = x ∧ SG st₀ lo st' ∧ SegDown (arrOf st') lo x ∧ EqTail (arrOf st') lo x c.2.2) ?_ ?_ ⟨rfl, rfl, g, d, .one n1⟩
  · rintro _ ⟨_, x, q⟩ st' x1 x2 ⟨rfl, rfl, g, d, e⟩
    have hx := Nat.le_trans n1 x1
    have hx2 := Nat.lt_of_lt_of_le (Nat.add_lt_add_left x2 lo) hn
    rw [← g.size] at hx2
    have hx3 := Nat.lt_of_le_of_lt (Nat.sub_le (lo + x) 1) hx2
    refine wpS_bind (wpS_ltAtS (g.kind.trans hk) (g.ints h0) hx2 hx3 ?_)
    refine wpS_iteB (fun hl => ?_) fun hl => ?_
    · have d' := d.snoc hx (Int.le_of_lt hl)
      refine wpS_ite (fun _ => wpS_bind (wpS_revS (wpS_pure ⟨rfl, rfl, g.mirror (by have := e.1; clear hx2 hx3 hl; dsimp only at this ⊢; omega) (Nat.le_of_lt hx2), d'.congr (e.mir (Nat.le_of_lt hx2)), .one (Nat.le_add_left _ _)⟩))) fun _ => wpS_pure ⟨rfl, rfl, g, d', .one (Nat.le_add_left _ _)⟩
    · refine wpS_bind (wpS_ltAtS (g.kind.trans hk) (g.ints h0) hx3 hx2 ?_)
      refine wpS_iteB (fun hr => wpS_pure (h x q st' g x1 (Nat.le_of_lt x2) d e)) fun hr => ?_
      have ex := Int.le_antisymm (Int.not_lt.mp hr) (Int.not_lt.mp hl)
      exact wpS_pure ⟨rfl, rfl, g, d.snoc hx (Int.le_of_eq ex), e.snoc ex⟩
  · rintro ⟨_, _, q⟩ st' ⟨rfl, rfl, g, d, e⟩
    rw [Nat.max_eq_right n2] at d e
    show Q (none, max n nrem, q) _
    rw [Nat.max_eq_right n2]
    exact h nrem q st' g n2 (Nat.le_refl _) d e

theorem wpS_countRunS {st : SortSt} {lo nrem : Nat} {Q : Option Nat → SortSt → Prop} (hk : kindOf st = oneType') (h0 : IntKeys (arrOf st)) (h1 : 1 ≤ nrem) (hn : lo + nrem ≤ (arrOf st).size)
    (h : ∀ m st', SG st lo st' → 1 ≤ m → m ≤ nrem → SegUp (arrOf st') lo m → Q (some m) st') :
    wpS (model prog w) A E s (countRunS lo nrem) Q st := by
  unfold countRunS
  refine wpS_bind (wpS_asc hk h0 hn (Nat.le_refl 1) h1 (fun i j hij hj => by rw [Nat.le_antisymm hij (Nat.le_trans (Nat.le_of_lt_succ hj) (Nat.zero_le i))]; exact Int.le_refl _) fun n n1 n2 u hor => ?_)
  refine wpS_ite (fun hnn => wpS_pure (h n st (SG.self st lo) n1 n2 u)) fun hnn => ?_
  replace hnn : n ≠ nrem := by simpa using hnn
  have hlt := hor.resolve_left hnn
  have hn3 : n + 1 ≤ nrem := Nat.lt_of_le_of_ne n2 hnn
  have hs : lo + n < (arrOf st).size := Nat.lt_of_lt_of_le (Nat.add_lt_add_left hn3 lo) hn
  refine wpS_join (fun st' => SG st lo st' ∧ SegDown (arrOf st') lo (n + 1)) (fun hgt => ?_) (fun st1 hR => ?_) fun hgt hY => ?_
  · refine ⟨SG.self st lo, SegDown.snoc (fun i j hij hj => ?_) n1 (Int.le_of_lt hlt)⟩
    rw [show i = j by clear hlt hnn u; omega]
    exact Int.le_refl _
  · obtain ⟨g1, d1⟩ := hR
    refine wpS_bind (wpS_lift (wpAny_rule ⟨rfl, ?_⟩))
    refine wpS_bind (wpS_desc hk h0 hn g1 (Nat.le_add_left _ _) hn3 d1 fun m q st2 g2 m1 m2 d2 e2 => ?_)
    have hm : 1 ≤ m := Nat.le_trans (Nat.le_add_left _ _) m1
    have hms : lo + m ≤ (arrOf st2).size := by rw [g2.size]; exact Nat.le_trans (Nat.add_le_add_left m2 lo) hn
    refine wpS_join (fun st' => SG st lo st' ∧ SegDown (arrOf st') lo m) (fun _ => ⟨g2, d2⟩) (fun st3 hR => ?_) fun _ hY => wpS_bind (wpS_revS (hY _ ⟨g2.mirror ?_ hms, d2.congr (e2.mir hms)⟩))
    · obtain ⟨g3, d3⟩ := hR
      rw [g2.size, ← g3.size] at hms
      have g4 := g3.mirror (i := lo) (Nat.le_refl _) hms
      refine wpS_bind (wpS_revS ?_)
      refine wpS_bind (wpS_asc (g4.kind.trans hk) (g4.ints h0) (by rw [g4.size]; exact hn) hm m2 (d3.mir hms) fun k k1 k2 u _ => ?_)
      exact wpS_pure (h k _ g4 (Nat.le_trans hm k1) k2 u)
    · have := e2.1
      clear hms hlt hn hs hor
      show lo ≤ lo + m - (q + 1)
      omega
  · refine wpS_bind (wpS_ltAtS hk h0 (Nat.lt_of_le_of_lt (Nat.le_add_right _ _) hs) (Nat.lt_of_le_of_lt (Nat.sub_le _ _) hs) ?_)
    refine wpS_iteB (fun hr => wpS_pure (h n st (SG.self st lo) n1 n2 u)) fun hr => ?_
    have hall : ∀ k, lo ≤ k → k < lo + n → K (arrOf st) k = K (arrOf st) (lo + n - 1) := fun k k1 k2 => by
      obtain ⟨k, rfl⟩ := Nat.exists_eq_add_of_le k1
      have a1 := u 0 k (Nat.zero_le _) (Nat.lt_of_add_lt_add_left k2)
      have a2 := u k (n - 1) (Nat.le_sub_one_of_lt (Nat.lt_of_add_lt_add_left k2)) (Nat.sub_one_lt_of_lt n1)
      rw [← Nat.add_sub_assoc n1] at a2
      exact Int.le_antisymm a2 (Int.le_trans (Int.not_lt.mp hr) a1)
    refine wpS_bind (wpS_revS (hY _ ⟨(SG.self st lo).mirror (Nat.le_refl _) (Nat.le_of_lt hs), SegDown.congr (SegDown.snoc (fun i j hij hj => ?_) n1 (Int.le_of_lt hlt)) (K_mirror_equal (Nat.le_of_lt hs) hall)⟩))
    rw [hall (lo + i) (Nat.le_add_right _ _) (Nat.add_lt_add_left (Nat.lt_of_le_of_lt hij hj) _), hall (lo + j) (Nat.le_add_right _ _) (Nat.add_lt_add_left hj _)]
    exact Int.le_refl _
end

theorem SG.bubble {st₀ st : SortSt} {lo src d : Nat} (h : SG st₀ lo st) (hs : src < (arrOf st).size) (hd : lo + d ≤ src) : SG st₀ lo (setArr st (bubble (arrOf st) src d)) := by
  refine ⟨?_, (bubble_perm _ _ _).trans h.perm, fun k hk => ?_⟩
  · show setArr st _ = setArr st₀ _
    rw [h.eq]
  · show K (PyProof.Rows.bubble (arrOf st) src d) k = _
    rw [K_bubble hs (by omega), if_neg (by omega), if_neg (by omega)]
    exact h.low k hk

/-- the search for the place of the k-th among those below it -/
def BS (xs : Array Keyed) (lo k l r : Nat) : Prop := l ≤ r ∧ r ≤ k ∧ (∀ i, i < l → K xs (lo + i) ≤ K xs (lo + k)) ∧ ∀ i, r ≤ i → i < k → K xs (lo + k) < K xs (lo + i)
theorem BS.left {xs : Array Keyed} {lo k l r : Nat} (h : BS xs lo k l r) (u : SegUp xs lo k) (hlr : l < r) (hl : K xs (lo + k) < K xs (lo + (l + r) / 2)) : BS xs lo k l ((l + r) / 2) :=
  ⟨by omega, Nat.le_trans (by omega) h.2.1, h.2.2.1, fun i i1 i2 => Int.lt_of_lt_of_le hl (u _ _ i1 i2)⟩
theorem BS.right {xs : Array Keyed} {lo k l r : Nat} (h : BS xs lo k l r) (u : SegUp xs lo k) (hlr : l < r) (hl : ¬K xs (lo + k) < K xs (lo + (l + r) / 2)) : BS xs lo k ((l + r) / 2 + 1) r :=
  ⟨by omega, h.2.1, fun i i1 => Int.le_trans (u i ((l + r) / 2) (Nat.le_of_lt_succ i1) (Nat.lt_of_lt_of_le (by omega) h.2.1)) (Int.not_lt.mp hl), h.2.2.2⟩
theorem K_bub {xs : Array Keyed} {lo k l : Nat} (hs : lo + k < xs.size) (hl : l ≤ k) (i : Nat) : K (bubble xs (lo + k) (lo + k - (lo + l))) (lo + i) = if i = l then K xs (lo + k) else if l < i ∧ i ≤ k then K xs (lo + (i - 1)) else K xs (lo + i) := by
  rw [K_bubble hs (Nat.sub_le _ _), show lo + k - (lo + k - (lo + l)) = lo + l by omega]
  simp only [Nat.add_lt_add_iff_left, Nat.add_le_add_iff_left, Nat.add_left_cancel_iff]
  by_cases h : l < i ∧ i ≤ k
  · rw [if_pos h, if_pos h, ← Nat.add_sub_assoc (Nat.lt_of_le_of_lt (Nat.zero_le _) h.1)]
  · rw [if_neg h, if_neg h]
theorem BS.bub {xs : Array Keyed} {lo k l r : Nat} (h : BS xs lo k l r) (hr : r ≤ l) (u : SegUp xs lo k) (hs : lo + k < xs.size) : SegUp (bubble xs (lo + k) (lo + k - (lo + l))) lo (k + 1) := by
  obtain ⟨h1, h2, h3, h4⟩ := h
  have hlk := Nat.le_trans h1 h2
  intro i j hij hj
  rw [K_bub hs hlk, K_bub hs hlk]
  clear hs
  rcases Nat.lt_trichotomy j l with g | rfl | g
  · rw [if_neg (Nat.ne_of_lt (Nat.lt_of_le_of_lt hij g)), if_neg (fun e => Nat.lt_asymm (Nat.lt_of_le_of_lt hij g) e.1), if_neg (Nat.ne_of_lt g), if_neg fun e => Nat.lt_asymm g e.1]
    exact u i j hij (Nat.lt_of_lt_of_le g hlk)
  · rw [if_pos rfl]
    rcases Nat.lt_or_ge i j with gi | gi
    · rw [if_neg (Nat.ne_of_lt gi), if_neg fun e => Nat.lt_asymm gi e.1]
      exact h3 i gi
    · rw [if_pos (Nat.le_antisymm hij gi)]
      exact Int.le_refl _
  · have hjk := Nat.le_of_lt_succ hj
    have hj1 : j - 1 < k := Nat.lt_of_lt_of_le (Nat.sub_one_lt_of_lt g) hjk
    rw [if_neg (Nat.ne_of_gt g), if_pos (show l < j ∧ j ≤ k from ⟨g, hjk⟩)]
    rcases Nat.lt_trichotomy i l with gi | rfl | gi
    · rw [if_neg (Nat.ne_of_lt gi), if_neg fun e => Nat.lt_asymm gi e.1]
      exact u i (j - 1) (Nat.le_sub_one_of_lt (Nat.lt_trans gi g)) hj1
    · rw [if_pos rfl]
      exact Int.le_of_lt (h4 (j - 1) (Nat.le_trans hr (Nat.le_sub_one_of_lt g)) hj1)
    · rw [if_neg (Nat.ne_of_gt gi), if_pos (show l < i ∧ i ≤ k from ⟨gi, Nat.le_trans hij hjk⟩)]
      exact u (i - 1) (j - 1) (Nat.sub_le_sub_right hij 1) hj1

section
variable {prog : Program} {w : World} {A : Around} {E : Value → Shared → Prop} {s : Shared}

theorem wpS_binarySortS {st : SortSt} {lo n ok : Nat} {Q : Bool → SortSt → Prop} (hk : kindOf st = oneType') (h0 : IntKeys (arrOf st)) (hn : lo + n ≤ (arrOf st).size) (hok : ok ≤ n) (hs : SegUp (arrOf st) lo ok)
    (h : ∀ st', SG st lo st' → SegUp (arrOf st') lo n → Q true st') : wpS (model prog w) A E s (binarySortS lo n ok) Q st := by
  unfold binarySortS
  refine wpS_bind (wpS_mono (wpS_forRange (I := fun k c st' => c.1 = none ∧ SG st lo st' ∧ SegUp (arrOf st') lo (min k n))
    (Q := fun c st' => c.1 = none ∧ SG st lo st' ∧ SegUp (arrOf st') lo n) ?step ?fin ⟨rfl, SG.self st lo, fun i j hij hj => ?init⟩) ?post)
  case init =>
    rcases Nat.eq_zero_or_pos ok with h1 | h1
    · rw [show i = j by clear h hs; omega]; exact Int.le_refl _
    · exact hs i j hij (by clear h hs; omega)
  case fin =>
    rintro c st' ⟨hc, g, u⟩
    rw [Nat.min_eq_right (Nat.le_max_right _ _)] at u
    exact ⟨hc, g, u⟩
  case post =>
    rintro ⟨_, _⟩ st' ⟨rfl, g, u⟩
    exact wpS_pure (h st' g u)
  case step =>
    rintro k ⟨_, _⟩ st' k1 k2 ⟨rfl, g, u⟩
    rw [Nat.min_eq_left (Nat.le_of_lt k2)] at u
    have hsz : lo + k < (arrOf st').size := by rw [g.size]; exact Nat.lt_of_lt_of_le (Nat.add_lt_add_left k2 lo) hn
    refine wpS_bind (wpS_mono (wpS_forRange (I := fun x c st'' => c.1 = none ∧ st'' = st' ∧ BS (arrOf st') lo k c.2.1 c.2.2 ∧ c.2.2 ≤ c.2.1 + (k - x))
      (Q := fun c st'' => c.1 = none ∧ st'' = st' ∧ BS (arrOf st') lo k c.2.1 c.2.2 ∧ c.2.2 ≤ c.2.1) ?istep ?ifin ?iinit) ?ipost)
    case iinit => exact ⟨rfl, rfl, ⟨Nat.zero_le _, Nat.le_refl _, fun _ hi => absurd hi (Nat.not_lt_zero _), fun _ i1 i2 => absurd i2 (Nat.not_lt.mpr i1)⟩, Nat.le_of_eq (Nat.zero_add _).symm⟩
    case ifin =>
      rintro ⟨_, l, r⟩ st'' ⟨rfl, rfl, h1, h2⟩
      rw [Nat.sub_eq_zero_of_le (Nat.le_max_right _ _)] at h2
      exact ⟨rfl, rfl, h1, h2⟩
    case istep =>
      rintro x ⟨_, l, r⟩ st'' _ hx ⟨rfl, rfl, h1, h2⟩
      change BS _ lo k l r at h1
      change r ≤ l + (k - x) at h2
      refine wpS_ite (fun hge => wpS_pure ⟨rfl, rfl, h1, hge⟩) fun hge => ?_
      have hlr : l < r := Nat.lt_of_not_le hge
      have hm : (l + r) / 2 ≤ k := by have : r ≤ k := h1.2.1; clear hsz h2; omega
      refine wpS_bind (wpS_ltAtS (g.kind.trans hk) (g.ints h0) hsz (Nat.lt_of_le_of_lt (Nat.add_le_add_left hm lo) hsz) ?_)
      refine wpS_iteB (fun hl => wpS_pure ⟨rfl, rfl, h1.left u hlr hl, ?_⟩) fun hl => wpS_pure ⟨rfl, rfl, h1.right u hlr hl, ?_⟩
      · clear hl hsz h1
        show (l + r) / 2 ≤ l + (k - (x + 1))
        omega
      · clear hl hsz h1
        show r ≤ (l + r) / 2 + 1 + (k - (x + 1))
        omega
    case ipost =>
      rintro ⟨_, l, r⟩ st'' ⟨rfl, rfl, h1, h2⟩
      refine wpS_bind (wpS_modify (wpS_pure ⟨rfl, g.bubble (d := lo + k - (lo + l)) hsz (by have := Nat.le_trans h1.1 h1.2.1; clear hsz; dsimp only at this ⊢; omega), ?_⟩))
      rw [Nat.min_eq_left k2]
      exact h1.bub h2 u hsz

end

theorem K_extract {xs : Array Keyed} {i j m : Nat} (hj : j ≤ xs.size) (hm : i + m < j) : K (xs.extract i j) m = K xs (i + m) := by
  refine K_congr ?_
  rw [Array.getElem?_extract, if_pos (by omega)]

theorem writeBack {base : Nat} : ∀ (l : List Keyed) (k : Nat) (xs : Array Keyed), base + k + l.length ≤ xs.size →
    ((l.zipIdx k).foldl (fun (a : Array Keyed) (x : Keyed × Nat) => match x with | (p, j) => a.setIfInBounds (base + j) p) xs).toList = xs.toList.take (base + k) ++ l ++ xs.toList.drop (base + k + l.length)
  | [], k, xs, _ => by simp
  | p :: l, k, xs, h => by
    rw [List.length_cons] at h
    rw [List.zipIdx_cons, List.foldl_cons]
    dsimp only
    rw [writeBack l (k + 1) _ (by rw [Array.size_setIfInBounds]; omega)]
    have hlt : base + k < xs.toList.length := by simp; omega
    have e1 : (xs.setIfInBounds (base + k) p).toList = xs.toList.set (base + k) p := Array.toList_setIfInBounds ..
    rw [e1, show base + (k + 1) = base + k + 1 by omega, List.take_add_one, List.getElem?_set_self hlt, List.take_set_of_le (Nat.le_refl _), List.drop_set_of_lt (by omega), List.length_cons,
      show base + k + 1 + l.length = base + k + (l.length + 1) by omega]
    simp

theorem mem_ext {xs : Array Keyed} {i j : Nat} {x : Keyed} (hj : j ≤ xs.size) (h : x ∈ (xs.extract i j).toList) : ∃ m, i ≤ m ∧ m < j ∧ kv x = K xs m := by
  obtain ⟨n, hn, rfl⟩ := List.getElem_of_mem h
  have hn' : n < (xs.extract i j).size := by rw [← Array.length_toList]; exact hn
  rw [Array.size_extract] at hn'
  refine ⟨i + n, by omega, by omega, ?_⟩
  rw [← K_extract hj (by omega)]
  rw [K_at (by rw [Array.size_extract]; omega)]
  simp

theorem split4 {xs : Array Keyed} {i j k : Nat} (h1 : i ≤ j) (h2 : j ≤ k) (_h3 : k ≤ xs.size) : xs.toList = xs.toList.take i ++ ((xs.extract i j).toList ++ (xs.extract j k).toList) ++ xs.toList.drop k := by
  simp only [Array.toList_extract, List.extract_eq_take_drop]
  have e1 : (xs.toList.drop i).take (j - i) ++ (xs.toList.drop j).take (k - j) = (xs.toList.drop i).take (k - i) := by
    have : (xs.toList.drop i).take (k - i) = ((xs.toList.drop i).take (j - i)) ++ (((xs.toList.drop i).drop (j - i)).take ((k - i) - (j - i))) := by
      rw [← List.take_add]
      congr 1
      omega
    rw [this, List.drop_drop, show i + (j - i) = j by omega, show k - i - (j - i) = k - j by omega]
  rw [e1]
  have e2 : xs.toList.drop k = (xs.toList.drop i).drop (k - i) := by rw [List.drop_drop]; congr 1; omega
  rw [e2, List.append_assoc, List.take_append_drop, List.take_append_drop]

theorem seg_pw {xs : Array Keyed} {lo n : Nat} (h : SegUp xs lo n) (hn : lo + n ≤ xs.size) {i j : Nat} (hi : lo ≤ i) (hij : i ≤ j) (hj : j < lo + n) : K xs i ≤ K xs j := by
  have := h (i - lo) (j - lo) (by omega) (by omega)
  rwa [show lo + (i - lo) = i by omega, show lo + (j - lo) = j by omega] at this

theorem mem_take' {xs : Array Keyed} {k : Nat} {x : Keyed} (h : x ∈ xs.toList.take k) : ∃ m, m < k ∧ m < xs.size ∧ kv x = K xs m := by
  obtain ⟨m, hm, rfl⟩ := List.getElem_of_mem h
  rw [List.length_take, Array.length_toList] at hm
  have h2 := Nat.lt_of_lt_of_le hm (Nat.min_le_right _ _)
  refine ⟨m, Nat.lt_of_lt_of_le hm (Nat.min_le_left _ _), h2, ?_⟩
  rw [K_at h2]
  simp
theorem mem_drop' {xs : Array Keyed} {k : Nat} {x : Keyed} (h : x ∈ xs.toList.drop k) : ∃ m, k ≤ m ∧ m < xs.size ∧ kv x = K xs m := by
  obtain ⟨m, hm, rfl⟩ := List.getElem_of_mem h
  rw [List.length_drop, Array.length_toList] at hm
  have h2 : k + m < xs.size := by rw [Nat.add_comm]; exact Nat.add_lt_of_lt_sub hm
  refine ⟨k + m, Nat.le_add_right _ _, h2, ?_⟩
  rw [K_at h2]
  simp
theorem pw_take' {xs : Array Keyed} {k : Nat} (hk : k ≤ xs.size) (h : ∀ i j, i ≤ j → j < k → K xs i ≤ K xs j) : (xs.toList.take k).Pairwise LEk := by
  rw [List.pairwise_iff_getElem]
  intro i j hi hj hij
  rw [List.length_take] at hi hj
  have h1 := Nat.lt_of_lt_of_le hi (Nat.min_le_left _ _)
  have h2 := Nat.lt_of_lt_of_le hj (Nat.min_le_left _ _)
  have := h i j (Nat.le_of_lt hij) h2
  rw [K_at (Nat.lt_of_lt_of_le h1 hk), K_at (Nat.lt_of_lt_of_le h2 hk)] at this
  simpa using this
theorem pw_drop' {xs : Array Keyed} {k : Nat} (h : ∀ i j, k ≤ i → i ≤ j → j < xs.size → K xs i ≤ K xs j) : (xs.toList.drop k).Pairwise LEk := by
  rw [List.pairwise_iff_getElem]
  intro i j hi hj hij
  rw [List.length_drop, Array.length_toList] at hi hj
  have h1 : k + i < xs.size := by rw [Nat.add_comm]; exact Nat.add_lt_of_lt_sub hi
  have h2 : k + j < xs.size := by rw [Nat.add_comm]; exact Nat.add_lt_of_lt_sub hj
  have := h (k + i) (k + j) (Nat.le_add_right _ _) (Nat.add_le_add_left (Nat.le_of_lt hij) k) h2
  rw [K_at h1, K_at h2] at this
  simpa using this
/-- two runs, the middle merged -/
theorem merged_all {xs : Array Keyed} {n1 n2 k l : Nat} {M : Array Keyed} (hn : n1 + n2 = xs.size) (s1 : SegUp xs 0 n1) (s2 : SegUp xs n1 n2) (hk : k < n1) (hl : l ≤ n2) (_hl0 : 0 < l)
    (k2 : ∀ i, i < k → K xs i ≤ K xs n1) (l3 : ∀ j, n1 + l ≤ j → j < n1 + n2 → K xs (n1 - 1) ≤ K xs j) (hM : Merged (xs.extract k n1) (xs.extract n1 (n1 + l)) M)
    {ys : Array Keyed} (hy : ys.toList = xs.toList.take k ++ M.toList ++ xs.toList.drop (n1 + l)) : ys.Perm xs ∧ SortedTo ys ys.size := by
  obtain ⟨hp, hs⟩ := hM
  have z1 : n1 ≤ xs.size := hn ▸ Nat.le_add_right _ _
  have z2 : n1 + l ≤ xs.size := hn ▸ Nat.add_le_add_left hl _
  have a1 : ∀ {i j : Nat}, i ≤ j → j < n1 → K xs i ≤ K xs j := fun h1 h2 => seg_pw s1 (by rw [Nat.zero_add]; exact z1) (Nat.zero_le _) h1 (by rw [Nat.zero_add]; exact h2)
  have a2 : ∀ {i j : Nat}, n1 ≤ i → i ≤ j → j < n1 + n2 → K xs i ≤ K xs j := fun h0 h1 h2 => seg_pw s2 (Nat.le_of_eq hn) h0 h1 h2
  have memM : ∀ x ∈ M.toList, ∃ m, k ≤ m ∧ m < n1 + l ∧ kv x = K xs m := by
    intro x hx
    rcases List.mem_append.mp (hp.mem_iff.mp hx) with h | h
    · obtain ⟨m, m1, m2, m3⟩ := mem_ext z1 h
      exact ⟨m, m1, Nat.lt_of_lt_of_le m2 (Nat.le_add_right _ _), m3⟩
    · obtain ⟨m, m1, m2, m3⟩ := mem_ext z2 h
      exact ⟨m, Nat.le_trans (Nat.le_of_lt hk) m1, m2, m3⟩
  have main : ∀ {m z : Nat}, m < k → k ≤ z → z < n1 + n2 → K xs m ≤ K xs z := fun {m z} m1 z1 z2 => by
    rcases Nat.lt_or_ge z n1 with hz | hz
    · exact a1 (Nat.le_of_lt (Nat.lt_of_lt_of_le m1 z1)) hz
    · exact Int.le_trans (k2 m m1) (a2 (Nat.le_refl _) hz z2)
  constructor
  · refine Array.perm_iff_toList_perm.mpr ?_
    rw [hy]
    have e := split4 (xs := xs) (i := k) (j := n1) (k := n1 + l) (Nat.le_of_lt hk) (Nat.le_add_right _ _) z2
    conv => rhs; rw [e]
    exact (hp.append_left _).append_right _
  · refine pw_sorted ?_
    rw [hy, List.append_assoc, List.pairwise_append, List.pairwise_append]
    refine ⟨pw_take' (Nat.le_trans (Nat.le_of_lt hk) z1) fun i j h1 h2 => a1 h1 (Nat.lt_trans h2 hk), ⟨hs, pw_drop' fun i j h0 h1 h2 => a2 (Nat.le_trans (Nat.le_add_right _ _) h0) h1 (hn ▸ h2), fun x hx y hy => ?_⟩, fun x hx y hy => ?_⟩
    · obtain ⟨m, m1, m2, m3⟩ := memM x hx
      obtain ⟨d, d1, d2, d3⟩ := mem_drop' hy
      show kv x ≤ kv y
      rw [m3, d3]
      rw [← hn] at d2
      rcases Nat.lt_or_ge m n1 with hm | hm
      · exact Int.le_trans (a1 (Nat.le_sub_one_of_lt hm) (Nat.sub_one_lt_of_lt hk)) (l3 d d1 d2)
      · exact a2 hm (Nat.le_of_lt (Nat.lt_of_lt_of_le m2 d1)) d2
    · obtain ⟨m, m1, _, m3⟩ := mem_take' hx
      show kv x ≤ kv y
      rw [m3]
      rcases List.mem_append.mp hy with h | h
      · obtain ⟨z, z1, z2, z3⟩ := memM y h
        rw [z3]
        exact main m1 z1 (Nat.lt_of_lt_of_le z2 (Nat.add_le_add_left hl _))
      · obtain ⟨z, z1, z2, z3⟩ := mem_drop' h
        rw [z3]
        exact main m1 (Nat.le_trans (Nat.le_of_lt hk) (Nat.le_trans (Nat.le_add_right _ _) z1)) (hn ▸ z2)

theorem two_sorted {xs : Array Keyed} {n1 n2 : Nat} (hn : n1 + n2 = xs.size) (s1 : SegUp xs 0 n1) (s2 : SegUp xs n1 n2) (h1 : 0 < n1) (hle : K xs (n1 - 1) ≤ K xs n1) : SortedTo xs xs.size := by
  have hz : n1 ≤ xs.size := hn ▸ Nat.le_add_right _ _
  intro i j hij hj
  rcases Nat.lt_or_ge j n1 with g | g
  · exact seg_pw s1 (by rw [Nat.zero_add]; exact hz) (Nat.zero_le _) hij (by rw [Nat.zero_add]; exact g)
  · rcases Nat.lt_or_ge i n1 with gi | gi
    · exact Int.le_trans (seg_pw s1 (by rw [Nat.zero_add]; exact hz) (Nat.zero_le _) (Nat.le_sub_one_of_lt gi) (by rw [Nat.zero_add]; exact Nat.sub_one_lt_of_lt h1)) (Int.le_trans hle (seg_pw s2 (Nat.le_of_eq hn) (Nat.le_refl _) g (by rw [hn]; exact hj)))
    · exact seg_pw s2 (Nat.le_of_eq hn) gi hij (by rw [hn]; exact hj)
theorem ext_sorted {xs : Array Keyed} {i j lo n : Nat} (u : SegUp xs lo n) (hz : lo + n ≤ xs.size) (hi : lo ≤ i) (hj : j ≤ lo + n) : SortedTo (xs.extract i j) (xs.extract i j).size := by
  intro p q hpq hq
  rw [Array.size_extract, Nat.min_eq_left (Nat.le_trans hj hz)] at hq
  have hq2 : i + q < j := by rw [Nat.add_comm]; exact Nat.add_lt_of_lt_sub hq
  rw [K_extract (Nat.le_trans hj hz) (Nat.lt_of_le_of_lt (Nat.add_le_add_left hpq i) hq2), K_extract (Nat.le_trans hj hz) hq2]
  exact seg_pw u hz (Nat.le_trans hi (Nat.le_add_right _ _)) (Nat.add_le_add_left hpq i) (Nat.lt_of_lt_of_le hq2 hj)
theorem ext_ints {xs : Array Keyed} {i j : Nat} (h0 : IntKeys xs) : IntKeys (xs.extract i j) := fun x hx => h0 x (by
  rw [Array.toList_extract, List.extract_eq_take_drop] at hx
  exact List.mem_of_mem_drop (List.mem_of_mem_take hx))
theorem ext_size {xs : Array Keyed} {i j : Nat} (hj : j ≤ xs.size) : (xs.extract i j).size = j - i := by rw [Array.size_extract, Nat.min_eq_left hj]

def mergeAtS : Nat → StateT SortSt Sem Bool := sortPriv% PySem.Builtin.mergeAt

section
variable {prog : Program} {w : World} {A : Around} {E : Value → Shared → Prop} {s : Shared}

theorem wpS_mergeAtS {xs : Array Keyed} {n1 n2 p q g : Nat} {Q : Bool → SortSt → Prop} (h0 : IntKeys xs) (h1 : 0 < n1) (h2 : 0 < n2) (hn : n1 + n2 = xs.size)
    (s1 : SegUp xs 0 n1) (s2 : SegUp xs n1 n2)
    (h : ∀ ys g pp, ys.Perm xs → SortedTo ys ys.size → Q true (SortSt.mk' oneType' ys #[(0, n1 + n2, pp)] g none)) :
    wpS (model prog w) A E s (mergeAtS 0) Q (SortSt.mk' oneType' xs #[(0, n1, p), (n1, n2, q)] g none) := by
  unfold mergeAtS
  refine wpS_bind (wpS_get ?_)
  dsimp only
  refine wpS_bind (wpS_modify ?_)
  have ep : ((#[(0, n1, p), (n1, n2, q)] : Array (Nat × Nat × Nat)).setIfInBounds 0 (0, n1 + n2, p)).eraseIdxIfInBounds (0 + 1) = #[(0, n1 + n2, p)] := by
    apply Array.toList_inj.mp
    simp
  rw [ep]
  have z1 : n1 < xs.size := hn ▸ Nat.lt_add_of_pos_right h2
  refine wpS_bind (wpS_elemS z1 (wpS_bind (wpS_gallop (st := SortSt.mk' oneType' xs #[(0, n1 + n2, p)] g none) rfl (intKey h0 z1) h0 h1 (by rw [Nat.zero_add]; exact Nat.le_of_lt z1) (fun i j hij hj => s1 i j hij hj) fun k k1 k2 k3 => ?_)))
  rw [← K_at z1] at k2 k3
  have k2' : ∀ i, i < k → K xs i ≤ K xs n1 := fun i hi => by
    have := k2 i hi
    rw [Nat.zero_add] at this
    exact Int.not_lt.mp (of_decide_eq_false ((Bool.not_eq_true' _).mp this))
  have k3' : ∀ i, k ≤ i → i < n1 → K xs n1 ≤ K xs i := fun i hi hi' => by
    have := k3 i hi hi'
    rw [Nat.zero_add] at this
    exact Int.le_of_lt (of_decide_eq_true ((Bool.not_eq_false' _).mp this))
  clear k2 k3
  have z0 : n1 - 1 < xs.size := Nat.lt_of_le_of_lt (Nat.sub_le _ _) z1
  refine wpS_iteN (fun e1 => wpS_pure (h xs g p (.refl _) (two_sorted hn s1 s2 h1 (k2' _ (Nat.lt_of_lt_of_le (Nat.sub_one_lt_of_lt h1) (Nat.le_of_sub_eq_zero e1)))))) fun e1 => ?_
  have hk : k < n1 := Nat.lt_of_not_le fun e => e1 (Nat.sub_eq_zero_of_le e)
  (try dsimp only)
  rw [show 0 + k + (n1 - k) - 1 = n1 - 1 by rw [Nat.zero_add, Nat.add_sub_cancel' k1]]
  refine wpS_bind (wpS_elemS z0 (wpS_bind (wpS_gallop (st := SortSt.mk' oneType' xs #[(0, n1 + n2, p)] g none) rfl (intKey h0 z0) h0 (Nat.sub_one_lt_of_lt h2) (Nat.le_of_eq hn) (fun i j hij hj => s2 i j hij hj) fun l l1 l2 l3 => ?_)))
  rw [← K_at z0] at l2 l3
  have l2' : ∀ i, i < l → K xs (n1 + i) ≤ K xs (n1 - 1) := fun i hi => Int.le_of_lt (of_decide_eq_true (l2 i hi))
  have l3' : ∀ j, n1 + l ≤ j → j < n1 + n2 → K xs (n1 - 1) ≤ K xs j := fun j hj hj' => by
    obtain ⟨j, rfl⟩ := Nat.exists_eq_add_of_le (Nat.le_trans (Nat.le_add_right n1 l) hj)
    exact Int.not_lt.mp (of_decide_eq_false (l3 j (Nat.le_of_add_le_add_left hj) (Nat.lt_of_add_lt_add_left hj')))
  clear l2 l3
  refine wpS_iteN (fun e2 => wpS_pure (h xs g p (.refl _) (two_sorted hn s1 s2 h1 (l3' _ (Nat.le_of_eq (by rw [e2]; rfl)) (Nat.lt_add_of_pos_right h2))))) fun e2 => ?_
  have hl0 : 0 < l := Nat.pos_of_ne_zero e2
  have hl : n1 + l ≤ xs.size := hn ▸ Nat.add_le_add_left l1 n1
  (try dsimp only)
  rw [Nat.zero_add]
  have ia : IntKeys (xs.extract k n1) := ext_ints h0
  have ib : IntKeys (xs.extract n1 (n1 + l)) := ext_ints h0
  have za : (xs.extract k n1).size = n1 - k := ext_size (Nat.le_of_lt z1)
  have zb : (xs.extract n1 (n1 + l)).size = l := by rw [ext_size hl, Nat.add_sub_cancel_left]
  have sa : SortedTo (xs.extract k n1) (xs.extract k n1).size := ext_sorted s1 (by rw [Nat.zero_add]; exact Nat.le_of_lt z1) (Nat.zero_le _) (Nat.le_of_eq (Nat.zero_add _).symm)
  have sb : SortedTo (xs.extract n1 (n1 + l)) (xs.extract n1 (n1 + l)).size := ext_sorted s2 (Nat.le_of_eq hn) (Nat.le_refl _) (Nat.add_le_add_left l1 n1)
  have za0 : 0 < (xs.extract k n1).size := by rw [za]; exact Nat.sub_pos_of_lt hk
  have zb0 : 0 < (xs.extract n1 (n1 + l)).size := by rw [zb]; exact hl0
  have hlo : ∀ j, j < (xs.extract k n1).size → K (xs.extract n1 (n1 + l)) 0 ≤ K (xs.extract k n1) j := fun j hj => by
    rw [za] at hj
    have hj2 : k + j < n1 := by rw [Nat.add_comm]; exact Nat.add_lt_of_lt_sub hj
    rw [K_extract hl (Nat.lt_add_of_pos_right hl0), K_extract (Nat.le_of_lt z1) hj2]
    exact k3' _ (Nat.le_add_right _ _) hj2
  have hhi : ∀ j, j < (xs.extract n1 (n1 + l)).size → K (xs.extract n1 (n1 + l)) j ≤ K (xs.extract k n1) ((xs.extract k n1).size - 1) := fun j hj => by
    rw [zb] at hj
    have e : k + (n1 - k - 1) = n1 - 1 := by clear h k2' k3' l2' l3'; omega
    rw [za, K_extract hl (Nat.add_lt_add_left hj n1), K_extract (Nat.le_of_lt z1) (by rw [e]; exact Nat.sub_one_lt_of_lt h1), e]
    exact l2' j hj
  have fin : ∀ (M : Array Keyed) (g' : Nat), Merged (xs.extract k n1) (xs.extract n1 (n1 + l)) M →
      Q true (SortSt.mk' oneType' ((M.toList.zipIdx).foldl (fun (a : Array Keyed) (x : Keyed × Nat) => match x with | (p, j) => a.setIfInBounds (k + j) p) xs) #[(0, n1 + n2, p)] g' none) := by
    intro M g' hM
    have hl : M.toList.length = n1 - k + l := by
      rw [hM.1.length_eq, List.length_append, Array.length_toList, Array.length_toList, za, zb]
    have e := writeBack (base := k) M.toList 0 xs (by clear k2' k3' l2' l3' h; omega)
    rw [Nat.add_zero, hl, show k + (n1 - k + l) = n1 + l by rw [← Nat.add_assoc, Nat.add_sub_cancel' k1]] at e
    have r := merged_all hn s1 s2 hk l1 hl0 k2' l3' hM e
    exact h _ g' p r.1 r.2
  refine wpS_ite (fun hle => ?_) fun hle => ?_
  · refine wpS_bind (wpS_mergeLo (st := SortSt.mk' oneType' xs #[(0, n1 + n2, p)] g none) rfl ia ib sa sb za0 zb0 hlo hhi fun M g' hM => ?_)
    refine wpS_bind (wpS_modify (wpS_bind (wpS_get (wpS_pure ?_))))
    exact fin M g' hM
  · refine wpS_bind (wpS_mergeHi (st := SortSt.mk' oneType' xs #[(0, n1 + n2, p)] g none) rfl ia ib sa sb za0 zb0 hlo hhi fun M g' hM => ?_)
    refine wpS_bind (wpS_modify (wpS_bind (wpS_get (wpS_pure ?_))))
    exact fin M g' hM
end

def sortRunsS : StateT SortSt Sem Unit := sortPriv% PySem.Builtin.sortRuns
def minRunS : Nat → Nat → Nat → Nat := sortPriv% PySem.Builtin.minRun

theorem minRunS_mid {n : Nat} (h1 : 64 ≤ n) (h2 : n < 128) : n ≤ 2 * minRunS n n 0 ∧ 1 ≤ minRunS n n 0 := by
  obtain ⟨f, rfl⟩ : ∃ f, n = f + 2 := ⟨n - 2, by omega⟩
  have e : minRunS (f + 2) (f + 2) 0 = (f + 2) / 2 + max 0 ((f + 2) % 2) := by
    show (if f + 2 < 64 then f + 2 + 0 else minRunS (f + 1) ((f + 2) / 2) (max 0 ((f + 2) % 2))) = _
    rw [if_neg (by omega)]
    show (if (f + 2) / 2 < 64 then _ else _) = _
    rw [if_pos (by omega)]
  rw [e]
  omega

section
variable {prog : Program} {w : World} {A : Around} {E : Value → Shared → Prop} {s : Shared}

theorem wpS_ite_pos {α : Type} {c : Prop} [Decidable c] {a b : StateT SortSt Sem α} {Q : α → SortSt → Prop} {st : SortSt} (hc : c) (h : wpS (model prog w) A E s a Q st) : wpS (model prog w) A E s (if c then a else b) Q st := by
  rw [if_pos hc]; exact h
theorem wpS_ite_neg {α : Type} {c : Prop} [Decidable c] {a b : StateT SortSt Sem α} {Q : α → SortSt → Prop} {st : SortSt} (hc : ¬ c) (h : wpS (model prog w) A E s b Q st) : wpS (model prog w) A E s (if c then a else b) Q st := by
  rw [if_neg hc]; exact h

/-- a test whose one way goes on at n, the other in the end at some n too -/
theorem wpS_joinN {α : Type} {c : Nat → Prop} {ic : ∀ x, Decidable (c x)} {Z : StateT SortSt Sem α} {X F : Nat → StateT SortSt Sem α} (n : Nat) {Q : α → SortSt → Prop} {st : SortSt} (R : Nat → SortSt → Prop) (hZ : ∀ x, x = n → Z = if c x then X x else F x) (h2 : ¬c n → R n st)
    (hY : ∀ n st', R n st' → wpS (model prog w) A E s (F n) Q st') (h1 : c n → (∀ n st', R n st' → wpS (model prog w) A E s (F n) Q st') → wpS (model prog w) A E s (X n) Q st) : wpS (model prog w) A E s Z Q st := by
  rw [hZ n rfl]
  exact wpS_ite (fun hc => h1 hc hY) fun hn => hY n st (h2 hn)

theorem wpS_sortRunsS {xs : Array Keyed} {Q : Unit → SortSt → Prop} (h0 : IntKeys xs) (h1 : 64 ≤ xs.size) (h2 : xs.size < 128)
    (h : ∀ ys pp g, ys.Perm xs → SortedTo ys ys.size → Q () (SortSt.mk' oneType' ys pp g none)) :
    wpS (model prog w) A E s sortRunsS Q (SortSt.mk' oneType' xs #[] 7 none) := by
  obtain ⟨m1, m2⟩ := minRunS_mid h1 h2
  unfold sortRunsS
  refine wpS_bind (wpS_get ?_)
  dsimp only
  obtain ⟨mr, hmr⟩ : ∃ r, r = minRunS xs.size xs.size 0 := ⟨_, rfl⟩
  rw [← hmr] at m1 m2
  rw [show (sortPriv% PySem.Builtin.minRun) xs.size xs.size 0 = mr from hmr.symm]
  refine wpS_bind (wpS_mono (wpS_forRange
    (I := fun x c st' => (x = 0 ∧ c = (none, 0) ∧ st' = SortSt.mk' oneType' xs #[] 7 none) ∨
      (∃ ys n1, c = (none, n1) ∧ st' = SortSt.mk' oneType' ys #[(0, n1, 0)] 7 none ∧ ys.Perm xs ∧ n1 ≤ xs.size ∧ xs.size ≤ n1 + mr ∧ SegUp ys 0 n1 ∧ 0 < n1 ∧ (n1 < xs.size → x = 1)) ∨
      ∃ ys n1 p q, c = (none, xs.size) ∧ st' = SortSt.mk' oneType' ys #[(0, n1, p), (n1, xs.size - n1, q)] 7 none ∧ ys.Perm xs ∧ n1 < xs.size ∧ 0 < n1 ∧ SegUp ys 0 n1 ∧ SegUp ys n1 (xs.size - n1) ∧ 1 < x)
    (Q := fun c st' => c = (none, xs.size) ∧ ((∃ ys p, st' = SortSt.mk' oneType' ys #[(0, xs.size, p)] 7 none ∧ ys.Perm xs ∧ SegUp ys 0 xs.size) ∨
      ∃ ys n1 p q, st' = SortSt.mk' oneType' ys #[(0, n1, p), (n1, xs.size - n1, q)] 7 none ∧ ys.Perm xs ∧ n1 < xs.size ∧ 0 < n1 ∧ SegUp ys 0 n1 ∧ SegUp ys n1 (xs.size - n1)))
    ?step ?fin (.inl ⟨rfl, rfl, rfl⟩)) ?post)
  case fin =>
    rintro c st' (⟨hx, _, _⟩ | ⟨ys, n1, rfl, rfl, hp, h3, h4, hu, h5, hx⟩ | ⟨ys, n1, p, q, rfl, rfl, hp, h3, h4, hu1, hu2, hx⟩)
    · omega
    · have e : n1 = xs.size := by omega
      rw [e] at hu ⊢
      exact ⟨rfl, .inl ⟨ys, _, rfl, hp, hu⟩⟩
    · exact ⟨rfl, .inr ⟨ys, n1, p, q, rfl, hp, h3, h4, hu1, hu2⟩⟩
  case step =>
    rintro x c st' _ hx (⟨rfl, rfl, rfl⟩ | ⟨ys, n1, rfl, rfl, hp, h3, h4, hu, h5, hx⟩ | ⟨ys, n1, p, q, rfl, rfl, hp, h3, h4, hu1, hu2, hx⟩)
    · dsimp only
      rw [if_neg (by omega)]
      refine wpS_bind (wpS_countRunS (st := SortSt.mk' oneType' xs #[] 7 none) rfl h0 (by omega) (by show 0 + (xs.size - 0) ≤ xs.size; omega) fun m st1 g r1 r2 hu => ?_)
      obtain ⟨ys, ey⟩ : ∃ z, z = arrOf st1 := ⟨_, rfl⟩
      have e1 : st1 = SortSt.mk' oneType' ys #[] 7 none := by rw [g.eq, ← ey]
      subst e1
      have hp : ys.Perm xs := g.perm
      have hu : SegUp ys 0 m := hu
      have hz := hp.size_eq
      have iy : IntKeys ys := g.ints h0
      clear ey
      dsimp only
      refine' wpS_joinN m (fun n st' => ∃ zs, st' = SortSt.mk' oneType' zs #[] 7 none ∧ zs.Perm xs ∧ SegUp zs 0 n ∧ n ≤ xs.size ∧ xs.size ≤ n + mr ∧ 0 < n) ?z0 ?n0 ?n1 ?n2
      case z0 => intro x9 h9; rw [← h9]
      case n0 => exact fun hlt => ⟨ys, rfl, hp, hu, by have hlt : ¬m < mr := hlt; omega, by have hlt : ¬m < mr := hlt; omega, r1⟩
      · intro nn st3 hR
        obtain ⟨zs, rfl, hp, hu, q1, q2, q3⟩ := hR
        refine wpS_bind (wpS_get ?_)
        rw [show (pendingOf (SortSt.mk' oneType' zs (#[] : Array (Nat × Nat × Nat)) 7 none)).back? = none from rfl]
        dsimp only
        exact wpS_bind (wpS_modify (wpS_pure (.inr (.inl ⟨zs, nn, by rw [Nat.zero_add], rfl, hp, q1, q2, hu, q3, fun _ => rfl⟩))))
      · intro hlt hY
        replace hlt : m < mr := hlt
        refine wpS_bind (wpS_lift (wpAny_rule ⟨rfl, ?_⟩))
        refine wpS_bind (wpS_binarySortS (st := SortSt.mk' oneType' ys #[] 7 none) rfl iy (by show 0 + min (xs.size - 0) mr ≤ ys.size; omega) (by omega) hu fun st2 g2 hu2 => ?_)
        exact hY (min (xs.size - 0) mr) st2 ⟨arrOf st2, g2.eq, g2.perm.trans hp, hu2, by clear hu hu2; omega, by clear hu hu2; omega, by clear hu hu2; omega⟩
    · dsimp only
      by_cases hge : n1 ≥ xs.size
      · rw [if_pos hge]
        have e : n1 = xs.size := by omega
        rw [e] at hu ⊢
        exact wpS_pure ⟨rfl, .inl ⟨ys, _, rfl, hp, hu⟩⟩
      rw [if_neg hge]
      have hz := hp.size_eq
      have iy : IntKeys ys := fun p hm => h0 p ((Array.perm_iff_toList_perm.mp hp).mem_iff.mp hm)
      refine wpS_bind (wpS_countRunS (st := SortSt.mk' oneType' ys #[(0, n1, 0)] 7 none) rfl iy (by omega) (by show n1 + (xs.size - n1) ≤ ys.size; omega) fun m st1 g r1 r2 hv => ?_)
      obtain ⟨us, ey⟩ : ∃ z, z = arrOf st1 := ⟨_, rfl⟩
      have e1 : st1 = SortSt.mk' oneType' us #[(0, n1, 0)] 7 none := by rw [g.eq, ← ey]
      subst e1
      have hpu : us.Perm xs := g.perm.trans hp
      have hv : SegUp us n1 m := hv
      have hzu := hpu.size_eq
      have iu : IntKeys us := g.ints iy
      have hlow : ∀ i, i < n1 → K us i = K ys i := g.low
      have hu1 : SegUp us 0 n1 := fun i j hij hj => by
        rw [hlow _ (by omega), hlow _ (by omega)]
        exact hu i j hij hj
      clear ey
      dsimp only
      refine' wpS_joinN m (fun n st' => ∃ zs, st' = SortSt.mk' oneType' zs #[(0, n1, 0)] 7 none ∧ zs.Perm xs ∧ SegUp zs 0 n1 ∧ SegUp zs n1 n ∧ n = xs.size - n1) ?z5 ?n5 ?n6 ?n7
      case z5 => intro x9 h9; rw [← h9]
      case n5 => exact fun hlt => ⟨us, rfl, hpu, hu1, hv, by have hlt : ¬m < mr := hlt; omega⟩
      · intro nn st3 hR
        obtain ⟨zs, rfl, hp', hu1, hu2, en⟩ := hR
        refine wpS_bind (wpS_get ?_)
        rw [show (pendingOf (SortSt.mk' oneType' zs (#[(0, n1, 0)] : Array (Nat × Nat × Nat)) 7 none)).back? = some (0, n1, 0) from rfl]
        dsimp only
        refine wpS_bind (wpS_mono (wpS_forRange (I := fun _ c st' => c = (none, ()) ∧ st' = SortSt.mk' oneType' zs #[(0, n1, 0)] 7 none)
          (Q := fun c st' => c = (none, ()) ∧ st' = SortSt.mk' oneType' zs #[(0, n1, 0)] 7 none) ?sa ?fa ⟨rfl, rfl⟩) ?pa)
        case fa => exact fun _ _ z => z
        case sa =>
          rintro x c st' _ _ ⟨rfl, rfl⟩
          refine wpS_bind (wpS_get ?_)
          exact wpS_pure ⟨rfl, rfl⟩
        case pa =>
          rintro c st' ⟨rfl, rfl⟩
          dsimp only
          obtain ⟨pw, epw⟩ : ∃ pw, pw = (sortPriv% PySem.Builtin.power) xs.size (2 * 0 + n1) (2 * 0 + n1 + n1 + nn) xs.size := ⟨_, rfl⟩
          rw [← epw]
          have epm : ((#[(0, n1, 0)] : Array (Nat × Nat × Nat)).modify ((#[(0, n1, 0)] : Array (Nat × Nat × Nat)).size - 1) fun x => (x.fst, x.2.fst, pw)) = #[(0, n1, pw)] := by
            apply Array.toList_inj.mp
            simp
          refine wpS_bind (wpS_modify (wpS_bind (wpS_modify (wpS_pure (.inr (.inr ⟨zs, n1, pw, 0, ?_, ?_, hp', Nat.lt_of_not_le hge, h5, hu1, en ▸ hu2, ?_⟩))))))
          · rw [en, Nat.add_sub_cancel' h3]
          · show SortSt.mk' oneType' zs (((#[(0, n1, 0)] : Array (Nat × Nat × Nat)).modify ((#[(0, n1, 0)] : Array (Nat × Nat × Nat)).size - 1) fun x => (x.fst, x.2.fst, pw)).push (n1, nn, 0)) 7 none = _
            rw [epm, en]
            rfl
          · rw [hx (Nat.lt_of_not_le hge)]; decide
      · intro hlt hY
        replace hlt : m < mr := hlt
        refine wpS_bind (wpS_lift (wpAny_rule ⟨rfl, ?_⟩))
        refine wpS_bind (wpS_binarySortS (st := SortSt.mk' oneType' us #[(0, n1, 0)] 7 none) rfl iu (by show n1 + min (xs.size - n1) mr ≤ us.size; omega) (by omega) hv fun st2 g2 hw => ?_)
        exact hY (min (xs.size - n1) mr) st2 ⟨arrOf st2, g2.eq, g2.perm.trans hpu, fun i j hij hj => by
          have b1 := g2.low (0 + i) (by omega)
          have b2 := g2.low (0 + j) (by omega)
          rw [b1, b2]
          exact hu1 i j hij hj, hw, by clear hv hu1 hu hlow hw; omega⟩
    · dsimp only
      rw [if_pos (Nat.le_refl _)]
      exact wpS_pure ⟨rfl, .inr ⟨ys, n1, p, q, rfl, hp, h3, h4, hu1, hu2⟩⟩
  case post =>
    have close : ∀ {ys : Array Keyed}, ys.Perm xs → SegUp ys 0 xs.size → SortedTo ys ys.size := fun {ys} hp hu i j hij hj => by
      have := hp.size_eq
      exact seg_pw hu (by omega) (Nat.zero_le _) hij (by omega)
    rintro c st' ⟨rfl, (⟨ys, p, rfl, hp, hu⟩ | ⟨ys, n1, p, q, rfl, hp, h3, h4, hu1, hu2⟩)⟩
    · dsimp only
      refine wpS_bind (wpS_mono (wpS_forRange (I := fun _ c st' => c = (none, ()) ∧ st' = SortSt.mk' oneType' ys #[(0, xs.size, p)] 7 none)
        (Q := fun c st' => c = (none, ()) ∧ st' = SortSt.mk' oneType' ys #[(0, xs.size, p)] 7 none) ?s1 (fun _ _ z => z) ⟨rfl, rfl⟩) ?p1)
      case s1 =>
        rintro x c st' _ _ ⟨rfl, rfl⟩
        refine wpS_bind (wpS_get ?_)
        exact wpS_pure ⟨rfl, rfl⟩
      case p1 =>
        rintro c st' ⟨rfl, rfl⟩
        exact wpS_pure (h _ _ _ hp (close hp hu))
    · dsimp only
      have hz := hp.size_eq
      have iy : IntKeys ys := fun p hm => h0 p ((Array.perm_iff_toList_perm.mp hp).mem_iff.mp hm)
      refine wpS_bind (wpS_mono (wpS_forRange (I := fun x c st' => c = (none, ()) ∧ ((x = 0 ∧ st' = SortSt.mk' oneType' ys #[(0, n1, p), (n1, xs.size - n1, q)] 7 none) ∨
          ∃ zs pp g, st' = SortSt.mk' oneType' zs #[(0, n1 + (xs.size - n1), pp)] g none ∧ zs.Perm xs ∧ SortedTo zs zs.size))
        (Q := fun c st' => c = (none, ()) ∧ ∃ zs pp g, st' = SortSt.mk' oneType' zs #[(0, n1 + (xs.size - n1), pp)] g none ∧ zs.Perm xs ∧ SortedTo zs zs.size) ?s2 ?f2 ⟨rfl, .inl ⟨rfl, rfl⟩⟩) ?p2)
      case f2 =>
        rintro c st' ⟨rfl, (⟨hx, _⟩ | hr)⟩
        · omega
        · exact ⟨rfl, hr⟩
      case s2 =>
        rintro x c st' _ _ ⟨rfl, (⟨rfl, rfl⟩ | ⟨zs, pp, g, rfl, hzp, hzs⟩)⟩
        · refine wpS_bind (wpS_get ?_)
          refine wpS_bind (wpS_mergeAtS (xs := ys) iy h4 (by omega) (by omega) hu1 hu2 fun zs g pp z1 z2 => ?_)
          exact wpS_pure ⟨rfl, .inr ⟨zs, pp, g, rfl, z1.trans hp, z2⟩⟩
        · refine wpS_bind (wpS_get ?_)
          exact wpS_pure ⟨rfl, zs, pp, g, rfl, hzp, hzs⟩
      case p2 =>
        rintro c st' ⟨rfl, zs, pp, g, rfl, hzp, hzs⟩
        exact wpS_pure (h _ _ _ hzp hzs)
end

section
variable {prog : Program} {w : World} {A : Around} {E : Value → Shared → Prop} {s : Shared}

theorem list_sort_mid {a : Addr} {vs : List Value} {ns : List Int} {n : Nat} {P : Fin → Shared → Prop} (ho : s.heap.get? a = some (seqObj "list" vs.toArray n))
    (hI : IntsAre vs ns) (h64 : 64 ≤ vs.length) (h128 : vs.length < 128)
    (h : ∀ (out : Array Value) (ns' : List Int), IntsAre out.toList ns' → ns'.Perm ns → ns'.Pairwise (· ≤ ·) → P (.done (.ret .none)) { s with heap := sortedHeap s.heap a vs out }) :
    wpAny (model prog w) A (Builtin.«list.sort» ⟨[.ref a], []⟩) P E s := by
  rw [list_sort_plain]
  have ha : a < s.heap.objs.size := Heap.lt_size ho
  refine wpAny_bind (listItems_at ho rfl (wpAny_bind (listUpdate_at ho rfl ?_)))
  have h1 := get?_update_seq ho (fun _ => (#[] : Array Value))
  obtain ⟨e1, h1⟩ : ∃ e1, (s.heap.update a (Obj.mapSeq fun _ => #[])).get? a = some (seqObj "list" #[] e1) := ⟨_, h1⟩
  refine wpAny_bind (seqEpoch_at h1 rfl (wpAny_bind (wpAny_newTuple (wpAny_bind (wpAny_newList (wpAny_holding ?_))))))
  have h6 : (((s.heap.update a (Obj.mapSeq fun _ => #[])).push (seqObj "tuple" vs.toArray 0)).push (seqObj "list" #[] 0)).get? a = some (seqObj "list" #[] e1) := by
    have l1 : a ≠ ((s.heap.update a (Obj.mapSeq fun _ => #[])).push (seqObj "tuple" vs.toArray 0)).objs.size := by
      rw [size_push', Heap.size_update]; exact Nat.ne_of_lt (Nat.lt_succ_of_lt ha)
    have l2 : a ≠ (s.heap.update a (Obj.mapSeq fun _ => #[])).objs.size := by rw [Heap.size_update]; exact Nat.ne_of_lt ha
    rw [Heap.get?_push_ne _ _ _ l1, Heap.get?_push_ne _ _ _ l2]
    exact h1
  show wpAny (model prog w) A _ P E { s with heap := ((s.heap.update a (Obj.mapSeq fun _ => #[])).push (seqObj "tuple" vs.toArray 0)).push (seqObj "list" #[] 0) }
  dsimp only
  have hsz : vs.toArray.size = vs.length := by simp
  have h2 : ¬ vs.toArray.size < 2 := by omega
  rw [if_neg h2, if_neg h2]
  obtain ⟨v₁, v₂, rest, rfl⟩ : ∃ v₁ v₂ rest, vs = v₁ :: v₂ :: rest := by
    match vs, hsz, h2 with
    | [], _, h2 => simp at h2
    | [_], _, h2 => simp at h2
    | v₁ :: v₂ :: rest, _, _ => exact ⟨v₁, v₂, rest, rfl⟩
  rw [keyKind_ints hI]
  refine wpAny_bind (wpAny_pure ?_)
  refine wpAny_bind (wpAny_mono (wpS_sortRunsS (xs := pairsOf (v₁ :: v₂ :: rest))
    (Q := fun _ st' => ∃ ys pp g, st' = SortSt.mk' oneType' ys pp g none ∧ ys.Perm (pairsOf (v₁ :: v₂ :: rest)) ∧ SortedTo ys ys.size)
    hI.intKeys (by rw [pairsOf_size]; exact h64) (by rw [pairsOf_size]; exact h128) fun ys pp g z1 z2 => ⟨ys, pp, g, rfl, z1, z2⟩) ?_ fun _ _ e => e)
  rintro ⟨⟨⟩, st'⟩ s' ⟨rfl, ys, pp, g, rfl, hp, hs⟩
  dsimp only
  have hys := hp.size_eq
  rw [pairsOf_size] at hys
  refine wpAny_bind (seqEpoch_at h6 rfl ?_)
  refine wpAny_bind (listUpdate_at h6 rfl ?_ (hsz2 := by
    refine Nat.le_trans (Nat.le_of_eq ((Array.size_map ..).trans hys)) ?_
    rw [sizeLine_eq]; omega))
  simp only [bne_self_eq_false, Bool.false_eq_true, if_false]
  obtain ⟨ns', b1, b2, b3⟩ := sorted_out hI hp (by rw [← hp.size_eq]; exact hs)
  exact wpAny_pure (h _ ns' b1 b2 b3)

end

theorem entry_dul : entryFor table "dict.update.loop" = some Builtin.«dict.update.loop» := entryFor_of_tree (by kernel_rfl)
theorem plain_dul : plainId "dict.update.loop" = true := by decide +kernel
theorem stored_new {kvs : List (Int × Value)} {k : Int} {v : Value} (h : ∀ p ∈ kvs, p.1 ≠ k) : stored kvs k v = kvs ++ [(k, v)] := by
  unfold stored
  rw [if_neg]
  intro e
  simp only [List.any_eq_true, beq_iff_eq, decide_eq_true_eq] at e
  obtain ⟨p, hp, e⟩ := e
  exact h p hp e
section
variable {prog : Program} {w : World} {A : Around} {R : Result → Shared → Prop}

/-- the pairs of an int and a value that stand in a list -/
def PairsAt (h : Heap) (items : Array Value) (kvs : List (Int × Value)) : Prop :=
  items.size = kvs.length ∧ ∀ (i : Nat) (p : Int × Value), kvs[i]? = some p → ∃ (a : Addr) (t : Tok) (o : Obj) (n : Nat), items[i]? = some (Value.ref a) ∧ h.get? a = some o ∧ o.cls = .type "tuple" ∧ o.data = .seq #[.int p.1 t, p.2] n

theorem dul_code (d l I : Addr) (items : Array Value) (kvs : List (Int × Value)) (hh : A.handled = none) (hn : (kvs.map (·.1)).Nodup) (hz : kvs.length ≤ 1000) (hlI : l ≠ I) (hld : l ≠ d) (hdI : d ≠ I) :
    ∀ (k i : Nat) (s : Shared), kvs.length - i = k → i ≤ kvs.length → s.heap.IsListIter I l i → s.heap.IsList l items → PairsAt s.heap items kvs → s.heap.DictOf (intKind prog w) d (kvs.take i) →
      (∀ h' tk, h'.DictOf (intKind prog w) d kvs → (∀ b o, b ≠ I → b ≠ d → s.heap.get? b = some o → h'.get? b = some o) → R (.ok (.ret .none)) { s with heap := h', toks := tk }) →
      codeAny (model prog w) A (.builtin "dict.update.loop" ⟨[.ref d, .ref I, rawInt i, .none], []⟩) R s := by
  intro k
  induction k with
  | zero =>
    intro i s hk hi hit hl hp hd hR
    have hin : i = kvs.length := by omega
    refine codeAny_builtin entry_dul ?_
    rw [Around.under_plainId plain_dul _]
    show wpAny _ A.in1 (pyNext (.ref I) >>= _) _ _ s
    refine wpAny_bind (wpAny_pyNext_list_end (by simp [hh]) hit hl (Array.getElem?_eq_none (by rw [hp.1]; omega)) fun h' hx => ?_)
    show wpAny _ A.in1 (Builtin.Dict.addKeywords d [] >>= _) _ _ _
    refine wpAny_bind (wpAny_pure ?_)
    refine wpAny_pure (hR h' s.toks ?_ fun b o b1 b2 e => hx b o b1 e)
    rw [hin, List.take_length] at hd
    obtain ⟨o, es, ep, ho, r⟩ := hd
    exact ⟨o, es, ep, hx d o hdI ho, r⟩
  | succ k ih =>
    intro i s hk hi hit hl hp hd hR
    have hlt : i < kvs.length := by omega
    obtain ⟨a, t, oa, na, hv, hoa, hca, hda⟩ := hp.2 i kvs[i] (List.getElem?_eq_getElem hlt)
    refine codeAny_builtin entry_dul ?_
    rw [Around.under_plainId plain_dul _]
    show wpAny _ A.in1 (pyNext (.ref I) >>= _) _ _ s
    have haI : a ≠ I := by
      rintro rfl
      obtain ⟨o, ho, hc, _⟩ := hit
      rw [ho] at hoa; cases hoa; rw [hca] at hc; exact absurd hc (by decide)
    have had : a ≠ d := by
      rintro rfl
      obtain ⟨o, es, ep, ho, hc, hd2, _⟩ := hd
      rw [ho] at hoa; cases hoa; rw [hda] at hd2; cases hd2
    refine wpAny_bind (wpAny_pyNext_list_item hit hl hv fun h' hit' hx => ?_)
    have hoa' : h'.get? a = some oa := (hx.2 a haI).trans hoa
    have hd' : h'.DictOf (intKind prog w) d (kvs.take i) := by
      obtain ⟨o, es, ep, ho, r⟩ := hd
      exact ⟨o, es, ep, (hx.2 d hdI).trans ho, r⟩
    show wpAny _ A.in1 (holding [Value.ref a] _ >>= _) _ _ _
    refine wpAny_bind (wpAny_holding ?_)
    refine wpAny_bind (wpAny_tryCatch ?_)
    unfold Builtin.Dict.pairItems
    refine wpAny_bind (wpAny_typeOf (T := "tuple") ⟨oa, hoa', hca⟩ ?_)
    rw [if_pos (by decide)]
    refine wpAny_bind (wpAny_seqItems hoa' hda ?_)
    refine wpAny_pure ?_
    show wpAny _ A.in1 (holding [Value.int kvs[i].1 t, kvs[i].2] (dictSet d (.int kvs[i].1 t) kvs[i].2)) _ _ _
    refine wpAny_holding ?_
    refine wpAny_dictSet_pairs (knd := intKind prog w) (intKind_is _ _ _ _) hd' (fun h'' hd'' hs => ?_) (by rw [List.length_take, sizeLine_eq]; omega)
    have hnew : ∀ p ∈ kvs.take i, p.1 ≠ kvs[i].1 := by
      intro p hp' e
      obtain ⟨j, hj, rfl⟩ := List.mem_take_iff_getElem.mp hp'
      have hli : (kvs.map (·.1)).length = kvs.length := List.length_map _
      have := List.pairwise_iff_getElem.mp hn j i (by omega) (by omega) (by omega)
      rw [List.getElem_map, List.getElem_map] at this
      exact this e
    rw [stored_new hnew] at hd''
    have htk : kvs.take i ++ [(kvs[i].1, kvs[i].2)] = kvs.take (i + 1) := by
      rw [List.take_add_one, List.getElem?_eq_getElem hlt]; rfl
    rw [htk] at hd''
    have keep : ∀ b o, b ≠ I → b ≠ d → s.heap.get? b = some o → h''.get? b = some o := fun b o b1 b2 e => (hs.2 b b2).trans ((hx.2 b b1).trans e)
    refine wpAny_pure ⟨plainId_quiet plain_dul _, ?_⟩
    have e1 : (rawInt ((i : Int) + 1)) = rawInt ((i + 1 : Nat) : Int) := by simp
    show codeAny _ A (.builtin "dict.update.loop" ⟨[.ref d, .ref I, rawInt ((i : Int) + 1), .none], []⟩) R _
    rw [e1]
    refine ih (i + 1) _ (by omega) (by omega) ?_ ?_ ?_ hd'' fun h3 tk3 hd3 k3 => ?_
    · obtain ⟨o, ho, r⟩ := hit'
      exact ⟨o, (hs.2 I (Ne.symm hdI)).trans ho, r⟩
    · obtain ⟨o, ho, r⟩ := hl
      exact ⟨o, keep l o hlI hld ho, r⟩
    · refine ⟨hp.1, fun j p hj => ?_⟩
      obtain ⟨a2, t2, o2, n2, x1, x2, x3, x4⟩ := hp.2 j p hj
      refine ⟨a2, t2, o2, n2, x1, keep a2 o2 ?_ ?_ x2, x3, x4⟩
      · rintro rfl
        obtain ⟨o, ho, hc, _⟩ := hit
        rw [ho] at x2; cases x2; rw [x3] at hc; exact absurd hc (by decide)
      · rintro rfl
        obtain ⟨o, es, ep, ho, hc, hd2, _⟩ := hd
        rw [ho] at x2; cases x2; rw [x4] at hd2; cases hd2
    · exact hR h3 tk3 hd3 fun b o b1 b2 e => k3 b o b1 b2 (keep b o b1 b2 e)
end

theorem list_no_keys : typeLookup (.type "list") (Str.ofString "keys") = pure none := am_miss_of_fast (by kernel_rfl)
theorem tl_list_dict : isSubtype (.type "list") (.type "dict") = pure false := by rw [isSubtype_type]; kernel_rfl
theorem getAttrQ_list {prog : Program} {w : World} {A : Around} {E : Value → Shared → Prop} {s : Shared} {a : Addr} {xs : Array Value} {k : Nat} {Q : Option Value → Shared → Prop}
    (hx : s.heap.get? a = some { cls := .type "list", data := .seq xs k }) (hA : A.handled = none)
    (h : ∀ h' tk, (∀ b o, s.heap.get? b = some o → h'.get? b = some o) → Q none { s with heap := h', toks := tk }) :
    wpAny (model prog w) A (getAttr? (.ref a) (Str.ofString "keys")) Q E s := by
  obtain ⟨hp, g, d, tk, os⟩ := s
  have hT : ∀ tk', (⟨hp, g, d, tk', os⟩ : Shared).TypeIs (.ref a) "list" := fun _ => ⟨_, hx, rfl⟩
  have f1 := sub_AttributeError
  have f3 := F.slot_list_getattribute.lookup
  have f4 := F.slot_list_getattribute.bind (.ref a)
  have f5 := am_list_getattr_none
  unfold getAttr? getAttrBy? getAttrBy
  repeat (any_goals (first | assumption | exact hT _ | ((with_reducible show wpAny _ _ (call (Value.builtin "list.__getattribute__") _ _) _ _ _); refine call_meets F.slot_list_getattribute (hT _) am_entry_list_getattribute (F.args_list_getattribute_2 _ _) (meets_getattribute_miss_list a xs k _ (Str.ofString "keys") _ list_no_keys (by decide) (by decide)) ⟨hx, hA, fun h' tk' e hx' => ?_⟩) | wp_step))
  obtain ⟨t', u', he⟩ := hx'.there
  show wpAny _ _ (getattributeRaised _ _ _ _ _ _ _) _ _ _
  unfold getattributeRaised
  repeat (any_goals (first | assumption | wp_step))
  exact h _ _ hx'.keeps

section
variable {prog : Program} {w : World} {A : Around} {E : Value → Shared → Prop} {s : Shared}
theorem call_dict_pairs {l : Addr} {items : Array Value} {n0 : Nat} {kvs : List (Int × Value)} {Q : Value → Shared → Prop} (hA : A.handled = none) (hl : s.heap.get? l = some { cls := .type "list", data := .seq items n0 }) (hp : PairsAt s.heap items kvs) (hn : (kvs.map (·.1)).Nodup) (hz : kvs.length ≤ 1000)
    (h : ∀ h' tk, h'.DictOf (intKind prog w) s.heap.objs.size kvs → (∀ b o, s.heap.get? b = some o → h'.get? b = some o) → Q (.ref s.heap.objs.size) { s with heap := h', toks := tk }) :
    wpAny (model prog w) A (call (.type "dict") [.ref l]) Q E s := by
  refine callType_codes (Q₁ := fun obj s₁ => obj = .ref s.heap.objs.size ∧ s₁ = { s with heap := s.heap.push { cls := .type "dict", data := .dict #[] } }) F.kt_called_dict (F.kt_typeCall_dict_1 _) F.entry_dict_init (kt_code_dict_new _ ⟨rfl, rfl⟩) ?_
  rintro obj s₁ ⟨rfl, rfl⟩
  have hnew : (s.heap.push { cls := .type "dict", data := .dict #[] }).DictOf (intKind prog w) s.heap.objs.size [] := Heap.DictOf.new s.heap
  have up : ∀ b o, s.heap.get? b = some o → (s.heap.push { cls := .type "dict", data := .dict #[] }).get? b = some o := fun b o e => Heap.get?_push_of_some _ e
  have hlt : l < s.heap.objs.size := Heap.lt_size hl
  refine ⟨hnew.typeIs, F.args_dict_init_2 _ _, ?_⟩
  unfold Builtin.«dict.__init__»
  refine wpAny_bind ?_
  unfold Builtin.Dict.selfAndRest
  refine wpAny_bind (wpAny_notOrdered_dict hnew.typeIs ?_)
  show wpAny _ _ (pure (s.heap.objs.size, [Value.ref l])) _ _ _
  refine wpAny_pure ?_
  show wpAny _ _ (Builtin.Dict.updateFrom "dict.__init__" s.heap.objs.size (.ref l) [] .none) _ _ _
  unfold Builtin.Dict.updateFrom
  refine wpAny_bind (wpAny_typeOf (T := "list") ⟨_, up _ _ hl, rfl⟩ ?_)
  rw [if_pos (by decide)]
  refine wpAny_bind (getAttrQ_list (up _ _ hl) (by simp [hA]) fun h2 tk2 k2 => ?_)
  rw [if_pos (show Option.isNone (none : Option Value) = true from rfl)]
  have hl2 : h2.IsList l items := ⟨_, k2 _ _ (up _ _ hl), rfl, _, rfl⟩
  have hd2 : h2.DictOf (intKind prog w) s.heap.objs.size [] := by
    obtain ⟨o, es, ep, ho, r⟩ := hnew
    exact ⟨o, es, ep, k2 _ _ ho, r⟩
  have hdlt : s.heap.objs.size < h2.objs.size := by
    obtain ⟨o, es, ep, ho, r⟩ := hd2
    exact Heap.lt_size ho
  refine wpAny_bind (wpAny_rule ?_)
  refine wpAny_bind (wpAny_pyIter_list hl2 ?_)
  have u2 : ∀ b o, h2.get? b = some o → (h2.push { cls := .type "list_iterator", data := .fields #[.ref l, .int 0 0] }).get? b = some o := fun b o e => Heap.get?_push_of_some _ e
  have u3 : ∀ b o, s.heap.get? b = some o → (h2.push { cls := .type "list_iterator", data := .fields #[.ref l, .int 0 0] }).get? b = some o := fun b o e => u2 _ _ (k2 _ _ (up _ _ e))
  refine wpAny_pure ⟨plainId_quiet plain_dul _, ?_⟩
  refine dul_code s.heap.objs.size l h2.objs.size items kvs (by simp [hA]) hn hz (Nat.ne_of_lt (Nat.lt_trans hlt hdlt)) (Nat.ne_of_lt hlt) (Nat.ne_of_lt hdlt) _ 0 _ rfl (Nat.zero_le _) ⟨_, Heap.get?_push_size _ rfl, rfl, rfl⟩ ⟨_, u3 _ _ hl, rfl, _, rfl⟩ ?_ ?_ fun h3 tk3 hd3 k3 => ?_
  · refine ⟨hp.1, fun j p hj => ?_⟩
    obtain ⟨a2, t2, o2, n2, x1, x2, x3⟩ := hp.2 j p hj
    exact ⟨a2, t2, o2, n2, x1, u3 _ _ x2, x3⟩
  · rw [List.take_zero]
    obtain ⟨o, es, ep, ho, r⟩ := hd2
    exact ⟨o, es, ep, u2 _ _ ho, r⟩
  · refine ⟨rfl, h h3 tk3 hd3 fun b o e => ?_⟩
    have := Heap.lt_size e
    exact k3 b o (Nat.ne_of_lt (Nat.lt_trans this hdlt)) (Nat.ne_of_lt this) (u3 b o e)
end

theorem sortedHeap_old {h : Heap} {a b : Addr} {o : Obj} {vs : List Value} {out : Array Value} (hb : b ≠ a) (e : h.get? b = some o) : (sortedHeap h a vs out).get? b = some o :=
  ((Heap.SameBut.update _ a _).2 b hb).trans (Heap.get?_push_of_some _ (Heap.get?_push_of_some _ (((Heap.SameBut.update h a _).2 b hb).trans e)))
theorem sortedHeap_at {h : Heap} {a : Addr} {vs xs : List Value} {n : Nat} {out : Array Value} (ho : h.get? a = some (seqObj "list" xs.toArray n)) : ∃ e, (sortedHeap h a vs out).get? a = some (seqObj "list" out e) :=
  ⟨_, get?_update_seq (Heap.get?_push_of_some _ (Heap.get?_push_of_some _ (get?_update_seq ho (fun _ => #[])))) _⟩
theorem ints_of : ∀ {vs : List Value} {ns : List Int}, vs.length = ns.length → (∀ (j : Nat) (v : Value), vs[j]? = some v → ∃ k t, ns[j]? = some k ∧ v = .int k t) → IntsAre vs ns
  | [], [], _, _ => .nil
  | [], _ :: _, h, _ => by simp at h
  | _ :: _, [], h, _ => by simp at h
  | v :: vs, n :: ns, h, g => by
    obtain ⟨k, t, e, rfl⟩ := g 0 v rfl
    cases e
    exact .cons _ _ (ints_of (by simpa using h) fun j v hv => g (j + 1) v hv)
section
variable {prog : Program} {w : World} {A : Around} {E : Value → Shared → Prop} {s : Shared}
/-- sorted of a dict with fewer than 128 int keys -/
theorem sorted_dict_N {h₀ : Heap} {L : Addr} {m : Str → Option Value} {news : List (Addr × Obj)} {d : Addr} {kvs : List (Int × Value)} {Q : Value → Shared → Prop} (hh : A.handled = none) (F : Fr h₀ L s.heap m) (N : News h₀ L s.heap news)
    (lo : (d == sysModules) = false) (hD : s.heap.DictOf (intKind prog w) d kvs) (hz : kvs.length < 128)
    (h : ∀ (D : Addr) (vs' : List Value) (ns' : List Int) (e : Nat) (h' : Heap) (tk : Nat), Fr h₀ L h' m → News h₀ L h' ((D, seqObj "list" vs'.toArray e) :: news) → (∀ q ∈ news, q.1 < D) →
      IntsAre vs' ns' → ns'.Perm (kvs.map (·.1)) → ns'.Pairwise (· ≤ ·) → Q (.ref D) { s with heap := h', toks := tk }) :
    wpAny (model prog w) A (call (.builtin "sorted") [.ref d]) Q E s := by
  obtain ⟨ep, hat⟩ := hD.dictAt
  refine kdu_sorted (kdl_dict (knd := intKind prog w) (kvs := kvs) (ep := ep) lo) hh F N hat (by rw [sizeLine_eq]; omega) fun B h' tk vs F' N' l1 hl hv => ?_
  have hI : IntsAre vs (kvs.map (·.1)) := ints_of (by rw [hl, List.length_map]) fun j v hj => by
    obtain ⟨k, x, hx, hk⟩ := hv j v hj
    obtain ⟨t, rfl⟩ := PyProof.V.Flat.int_inv (kdl_flat_int hk)
    exact ⟨k, t, by rw [List.getElem?_map, hx]; rfl, rfl⟩
  have hoB := (N' _ (.head _)).1
  have fin : ∀ (out : Array Value) (ns' : List Int), IntsAre out.toList ns' → ns'.Perm (kvs.map (·.1)) → ns'.Pairwise (· ≤ ·) → Q (.ref B) { s with heap := sortedHeap h' B vs out, toks := tk } := fun out ns' a1 a2 a3 => by
    obtain ⟨e, he⟩ := sortedHeap_at (vs := vs) (out := out) hoB
    have hB0 := (N' _ (.head _)).2
    refine h B out.toList ns' e _ tk ⟨?_, fun b o e => sortedHeap_old (by rintro rfl; rw [hB0.2] at e; cases e) (F'.keep b o e), F'.above⟩ ?_ l1 a1 a2 a3
    · obtain ⟨oL, x1, x2, hoL, x3⟩ := F'.ns
      exact ⟨oL, x1, x2, sortedHeap_old hB0.1.symm hoL, x3⟩
    · intro p hp
      rcases List.mem_cons.mp hp with rfl | hp
      · exact ⟨he, hB0⟩
      · exact ⟨sortedHeap_old (Nat.ne_of_lt (l1 p hp)) (N' p (.tail _ hp)).1, (N' p (.tail _ hp)).2⟩
  by_cases h64 : vs.length < 64
  · exact wpAny_call_entry slot_list_sort ⟨_, hoB, rfl⟩ entry_list_sort (list_sort_tree hoB hI h64 fun out ns' a1 a2 a3 => ⟨_, rfl, fin out ns' a1 a2 a3⟩) (args_list_sort _)
  · exact wpAny_call_entry slot_list_sort ⟨_, hoB, rfl⟩ entry_list_sort (list_sort_mid hoB hI (by omega) (by omega) fun out ns' a1 a2 a3 => ⟨_, rfl, fin out ns' a1 a2 a3⟩) (args_list_sort _)
end

abbrev Ar (dp un : Nat) (fr : Option (List Env)) (gd : Option (List Code)) : Around := { handled := none, depth := dp, frames := fr, guards := gd, units := un }

/-- a pair of ints at v -/
def PV (h : Heap) (v : Value) (p : Int × Int) : Prop := ∃ a t u, v = .ref a ∧ IsTup h a #[.int p.1 t, .int p.2 u]
inductive PVs (h : Heap) : List Value → List (Int × Int) → Prop
  | nil : PVs h [] []
  | cons {v : Value} {p : Int × Int} {vs : List Value} {ps : List (Int × Int)} : PV h v p → PVs h vs ps → PVs h (v :: vs) (p :: ps)
/-- a list of pairs of ints -/
def PL (h : Heap) (l : Addr) (ps : List (Int × Int)) : Prop := ∃ vs, h.IsList l vs.toArray ∧ PVs h vs ps
/-- a list of ints -/
def IL (h : Heap) (l : Addr) (ns : List Int) : Prop := ∃ vs, h.IsList l vs.toArray ∧ IntsAre vs ns

/-- where the walk is to stand still -/
def Halt (P : Prop) : Prop := P
theorem Halt.out {P : Prop} (h : Halt P) : P := h

abbrev Kp (h h' : Heap) : Prop := ∀ b o, h.get? b = some o → h'.get? b = some o

theorem PV.keeps {h h' : Heap} {v : Value} {p : Int × Int} (x : PV h v p) (k : Kp h h') : PV h' v p := by
  obtain ⟨a, t, u, e, i⟩ := x
  exact ⟨a, t, u, e, i.keeps k⟩
theorem PVs.keeps {h h' : Heap} {vs : List Value} {ps : List (Int × Int)} (x : PVs h vs ps) (k : Kp h h') : PVs h' vs ps := by
  induction x with
  | nil => exact .nil
  | cons a _ ih => exact .cons (a.keeps k) ih
theorem PL.keeps {h h' : Heap} {l : Addr} {ps : List (Int × Int)} (x : PL h l ps) (k : Kp h h') : PL h' l ps := by
  obtain ⟨vs, a, b⟩ := x
  exact ⟨vs, a.at fun o e => k _ _ e, b.keeps k⟩
theorem IL.keeps {h h' : Heap} {l : Addr} {ns : List Int} (x : IL h l ns) (k : Kp h h') : IL h' l ns := by
  obtain ⟨vs, a, b⟩ := x
  exact ⟨vs, a.at fun o e => k _ _ e, b⟩
theorem PVs.length {h : Heap} {vs : List Value} {ps : List (Int × Int)} (x : PVs h vs ps) : vs.length = ps.length := by
  induction x with
  | nil => rfl
  | cons _ _ ih => rw [List.length_cons, List.length_cons, ih]
theorem PVs.append {h : Heap} {vs ws : List Value} {ps qs : List (Int × Int)} (x : PVs h vs ps) (y : PVs h ws qs) : PVs h (vs ++ ws) (ps ++ qs) := by
  induction x with
  | nil => exact y
  | cons a _ ih => exact .cons a ih
theorem PVs.one {h : Heap} {v : Value} {p : Int × Int} (x : PV h v p) : PVs h [v] [p] := .cons x .nil
theorem PVs.get {h : Heap} {vs : List Value} {ps : List (Int × Int)} (x : PVs h vs ps) {i : Nat} {v : Value} (hv : vs[i]? = some v) : ∃ p, ps[i]? = some p ∧ PV h v p := by
  induction x generalizing i with
  | nil => cases hv
  | cons a _ ih =>
    cases i with
    | zero => cases hv; exact ⟨_, rfl, a⟩
    | succ i => exact ih hv

section
variable {w : World} {mean : ExcName → Option Value} {mg mb : Str → Option Value} {dp un : Nat} {fr : Option (List Env)} {gd : Option (List Code)} {s : Shared} {Q E : Value → Shared → Prop} {prog : Program} {p : Program} {loose : List Str}

theorem enterP {K : Frag} {name qual : Str} {params : Arguments} {body : List Stmt} {scope : Scope} {dV kV doc pm cdv ct oc : Value} {an od : Option Addr} {osl : Array (Option Value)} {f : Addr} {args : List Value} (binds : List (Str × Value))
    (X : K.In s.heap) (T : Top p loose mean mg mb s.heap)
    (ho : K.lookup f = some ⟨oc, od, .func (fnOf name qual params body scope dV kV doc pm an cdv ct), osl⟩) (hcd : codeIn K cdv qual = true) (hroom : dp < recursionLimit)
    (hbind : BindsTo s (fnOf name qual params body scope dV kV doc pm an cdv ct) ⟨args, []⟩ binds) (hloc : ∀ y ∈ binds, scope.names.lookup y.1 = some .local)
    (h : ∀ L h₁ m, Fr s.heap L h₁ m → m = (fun y => binds.reverse.lookup y) → News s.heap L h₁ [] →
      wpAny (model prog w) ((Ar dp un fr gd).deeper (envOf qual scope L f cdv)) (execs body (envOf qual scope L f cdv))
        (fun fl s' => Q (match fl with | .ret v => v | _ => .none) s') (fun _ _ => False) { s with heap := h₁, toks := s.toks + binds.length })
    (hco : scope.isCoroutine = false) (hgen : scope.isGenerator = false) (hk : scope.kind = .function) (hcell : ∀ x ∈ scope.names, x.2 ≠ .cell) :
    wpAny (model prog w) (Ar dp un fr gd) (call (.ref f) args) Q E s := by
  refine wpAny_call (codeAny_call_def (fd := fnOf name qual params body scope dV kV doc pm an cdv ct) (body := body) (binds := binds) hroom (X _ _ ho) rfl (Top.nolimit T) (codeRec_of X hcd) rfl hbind hcell hloc (fun h₁ hns hk₁ => ?_) hco hgen hk)
  exact wpAny_mono (h _ h₁ _ ⟨hns, hk₁, Nat.le_refl _⟩ rfl News.nil) (fun _ _ z => z) fun _ _ z => z.elim
end

section
variable {prog : Program} {w : World} {A : Around} {E : Value → Shared → Prop} {s : Shared} {env : Env} {h₀ : Heap} {x : Str} {body : List Stmt} {Q : Flow → Shared → Prop}

/-- a loop over a list that stands in the ground heap -/
theorem iterBase {l : Addr} {vs : List Value} {m₀ : Str → Option Value} {news : List (Addr × Obj)} (J : Nat → (Str → Option Value) → List (Addr × Obj) → Prop)
    (hh : A.handled = none) (hl : h₀.IsList l vs.toArray) (F : Fr h₀ env.locals s.heap m₀) (N : News h₀ env.locals s.heap news) (hj : J 0 m₀ news)
    (turn : ∀ i v m₁ news₁ h tk own, vs[i]? = some v → OwnOff own (news₁.map (·.1)) → J i m₁ news₁ → Fr h₀ env.locals h (fun y => if y = x then some v else m₁ y) → News h₀ env.locals h (news₁ ++ own) →
      wpAny (model prog w) A (execs body env) (InvPostG h₀ env.locals (J (i + 1)) own { s with heap := h, toks := tk } Q) E { s with heap := h, toks := tk })
    (done : ∀ m₁ news₁ h tk, J vs.length m₁ news₁ → Fr h₀ env.locals h m₁ → News h₀ env.locals h news₁ → Q .next { s with heap := h, toks := tk }) :
    wpAny (model prog w) A (pyIter (.ref l)) (fun it s₂ => LoopAtV prog w A h₀ env x body Q E it s₂) E s := by
  have hls : s.heap.IsList l vs.toArray := hl.at fun o e => F.keep l o e
  obtain ⟨ol, hol, _⟩ := id hl
  have hlt : l < h₀.objs.size := Heap.lt_size hol
  have hne : l ≠ s.heap.objs.size := Nat.ne_of_lt (Nat.lt_trans (Nat.lt_of_lt_of_le hlt F.above) F.ns.lt)
  refine wpAny_pyIter_list hls ?_
  have W := Walks.list (prog := prog) (w := w) hh s.heap.objs.size l hne vs.toArray
  have hlen : vs.toArray.size = vs.length := by simp
  rw [hlen] at W
  refine ⟨_, _, _, vs.length, _, _, m₀, news, J, rfl, W, fun hm => ?_, fun b hb => ?_, fun p hp hI => ?_, ⟨⟨_, Heap.get?_push_size _ rfl, rfl, rfl⟩, hls.at fun o e => Heap.get?_push_of_some _ e⟩, F.push _, (fun p hp => ⟨Heap.get?_push_of_some _ (N p hp).1, (N p hp).2⟩), hj, ?_, ?_⟩
  · rcases List.mem_cons.mp hm with e | hm
    · exact absurd F.ns.lt (e ▸ Nat.lt_irrefl _)
    · exact absurd (Nat.lt_of_lt_of_le hlt F.above) ((List.mem_singleton.mp hm) ▸ Nat.lt_irrefl _)
  · rw [List.mem_singleton.mp hb]
    exact next_is_new F
  · exact absurd (Heap.lt_size (N p hp).1) ((List.mem_singleton.mp hI) ▸ Nat.lt_irrefl _)
  · rintro i v m₁ news₁ s₁ own ⟨hh', tk', rfl⟩ hin hP hJ hoff hown _ hfp hst F₁ N₁
    have hI0 : h₀.get? s.heap.objs.size = none := next_is_new F
    obtain ⟨⟨oI, hoI, _⟩, _⟩ := id hst
    have hIown : (s.heap.objs.size, oI) ∈ own := hfp _ (List.mem_cons.mpr (.inl rfl)) hI0 _ hoI
    have hsep : OwnOff own (news₁.map (·.1)) := by
      intro p hp b hb e
      obtain ⟨q, hq, rfl⟩ := List.mem_map.mp hb
      rcases List.mem_cons.mp (hown p hp) with h1 | h1
      · exact hoff q hq (List.mem_singleton.mpr (e ▸ h1))
      · have h3 := (N₁ q (List.mem_append.mpr (.inr hq))).2.2
        rw [← e, List.mem_singleton.mp h1, hol] at h3
        cases h3
    have N₂ : News h₀ env.locals hh' (news₁ ++ own) := fun p hp => N₁ p ((List.mem_append.mp hp).elim (fun h => List.mem_append.mpr (.inr h)) fun h => List.mem_append.mpr (.inl h))
    refine wpAny_mono (turn i v m₁ news₁ hh' tk' own (by simpa using hP) hsep hJ F₁ N₂) (fun f s₂ p => ?_) fun _ _ e => e
    have fin : InvEndG h₀ env.locals (J (i + 1)) own { s with heap := hh', toks := tk' } s₂ → LoopStepU h₀ env.locals [s.heap.objs.size] own (J (i + 1)) { s with heap := hh', toks := tk' } .next s₂ := by
      rintro ⟨h', tk, m', news', nx, e, F', N', hn, ho, ha, hm⟩
      refine ⟨rfl, h', tk, m', nx, e, F', fun p hp => N' p ((List.mem_append.mp hp).elim (ho p) (hn p)), fun p hp hq => ?_, hm⟩
      exact ha _ hIown p.1 (List.mem_map.mpr ⟨p, hp, rfl⟩) (List.mem_singleton.mp hq).symm
    cases f with
    | ret v => exact .ret p
    | brk => exact .brk p
    | next => exact .next (fin p)
    | cont => exact .cont (fin p)
  · rintro h' tk m' news' F' N' _ hJ
    exact done m' news' h' tk hJ F' N'
end

theorem News.tl {h₀ h : Heap} {L : Addr} {p : Addr × Obj} {r : List (Addr × Obj)} (N : News h₀ L h (p :: r)) : News h₀ L h r := fun q hq => N q (.tail _ hq)
theorem News.sub {h₀ h : Heap} {L : Addr} {r r' : List (Addr × Obj)} (N : News h₀ L h r) (e : ∀ p ∈ r', p ∈ r) : News h₀ L h r' := fun q hq => N q (e q hq)

/-- add_range, item by item -/
def addFold (st : List (Int × Int) × Bool × Int × Int) (p : Int × Int) : List (Int × Int) × Bool × Int × Int :=
  if st.2.2.2 + 1 < p.1 then (st.1 ++ [p], st.2.1, st.2.2.1, st.2.2.2)
  else if p.2 < st.2.2.1 - 1 then ((if st.2.1 then st.1 ++ [p] else st.1 ++ [(st.2.2.1, st.2.2.2)] ++ [p]), true, st.2.2.1, st.2.2.2)
  else (st.1, st.2.1, (if p.1 < st.2.2.1 then p.1 else st.2.2.1), if p.2 > st.2.2.2 then p.2 else st.2.2.2)
def addRange (ps : List (Int × Int)) (lo hi : Int) : List (Int × Int) :=
  let st := ps.foldl addFold ([], false, lo, hi)
  if st.2.1 then st.1 else st.1 ++ [(st.2.2.1, st.2.2.2)]

def ARJ (h₀ : Heap) (L : Addr) (ps : List (Int × Int)) (lo hi : Int) (i : Nat) (m : Str → Option Value) (nx : List (Addr × Obj)) : Prop :=
  ∃ (D : Addr) (vs' : List Value) (n : Nat) (st : Bool) (lo' hi' : Int) (t' u' : Tok) (tl : List (Addr × Obj)) (out : List (Int × Int)),
    nx = (D, PySem.W.listOf vs'.toArray n) :: tl ∧ m (Str.ofString "found") = some (.ref D) ∧ m (Str.ofString "is_in") = some (.bool st) ∧ m (Str.ofString "low") = some (.int lo' t') ∧
    m (Str.ofString "high") = some (.int hi' u') ∧ vs'.length ≤ 2 * i ∧ (∀ p ∈ tl, p.1 ≠ D) ∧ (ps.take i).foldl addFold ([], false, lo, hi) = (out, st, lo', hi') ∧ ∀ h, Kp h₀ h → News h₀ L h tl → PVs h vs' out

theorem ar_end {h₀ h' : Heap} {L D : Addr} {m' : Str → Option Value} {own news' tl : List (Addr × Obj)} {s₁ : Shared} {tk : Nat} {ps out : List (Int × Int)} {lo hi lo' hi' : Int} {i n : Nat} {st : Bool} {t' u' : Tok} {vs' : List Value}
    (F : Fr h₀ L h' m') (N : News h₀ L h' news') (e1 : m' (Str.ofString "found") = some (.ref D)) (e2 : m' (Str.ofString "is_in") = some (.bool st)) (e3 : m' (Str.ofString "low") = some (.int lo' t'))
    (e4 : m' (Str.ofString "high") = some (.int hi' u')) (hl : vs'.length ≤ 2 * (i + 1)) (hD : ∀ p ∈ tl, p.1 ≠ D) (hf : (ps.take (i + 1)).foldl addFold ([], false, lo, hi) = (out, st, lo', hi'))
    (ho : ∀ h, Kp h₀ h → News h₀ L h tl → PVs h vs' out) (s1 : ∀ p ∈ (D, PySem.W.listOf vs'.toArray n) :: tl, p ∈ news') (s2 : ∀ p ∈ own, p ∈ news') (off : ∀ q ∈ own, q.1 ≠ D ∧ ∀ p ∈ tl, q.1 ≠ p.1) :
    InvEndG h₀ L (ARJ h₀ L ps lo hi (i + 1)) own s₁ { s₁ with heap := h', toks := tk } := by
  refine InvEndG.intro (nx := (D, PySem.W.listOf vs'.toArray n) :: tl) F N ⟨D, vs', n, st, lo', hi', t', u', tl, out, rfl, e1, e2, e3, e4, hl, hD, hf, ho⟩ ?_ s1 s2
  intro q hq b hb
  simp only [List.map_cons, List.mem_cons, List.mem_map] at hb
  rcases hb with rfl | ⟨p, hp, rfl⟩
  · exact (off q hq).1
  · exact (off q hq).2 p hp

theorem allLt_mem {d : Addr} {l : List (Addr × Obj)} (h : AllLt d l) : ∀ p ∈ l, p.1 < d := ktn_ltOf h
theorem pv_tup {h₀ h : Heap} {L T : Addr} {x y : Int} {t u : Tok} {r : List (Addr × Obj)} {n : Nat} (N : News h₀ L h r) (hm : (T, ({ cls := .type "tuple", data := .seq #[.int x t, .int y u] n } : Obj)) ∈ r) : PV h (.ref T) (x, y) :=
  ⟨T, t, u, rfl, _, (N _ hm).1, rfl, n, rfl⟩
theorem ar_end2 {h₀ h' : Heap} {L D T : Addr} {m' : Str → Option Value} {own tl : List (Addr × Obj)} {s₁ : Shared} {tk : Nat} {ps out : List (Int × Int)} {lo hi lo' hi' : Int} {i n : Nat} {t' u' : Tok} {vs' : List Value} {v : Value} {p : Int × Int}
    (F : Fr h₀ L h' m') (N : News h₀ L h' ((T, { cls := .type "tuple", data := .seq #[.int lo' t', .int hi' u'] }) :: (D, PySem.W.listOf (vs' ++ [Value.ref T] ++ [v]).toArray n) :: (tl ++ own))) (e1 : m' (Str.ofString "found") = some (.ref D)) (e2 : m' (Str.ofString "is_in") = some (.bool true)) (e3 : m' (Str.ofString "low") = some (.int lo' t'))
    (e4 : m' (Str.ofString "high") = some (.int hi' u')) (hl : vs'.length ≤ 2 * i) (hD : ∀ p ∈ tl, p.1 ≠ D) (hf : (ps.take (i + 1)).foldl addFold ([], false, lo, hi) = (out ++ [(lo', hi')] ++ [p], true, lo', hi'))
    (ho : ∀ h, Kp h₀ h → News h₀ L h tl → PVs h vs' out) (pa : ∀ h, Kp h₀ h → PV h v p) (g : D < T ∧ AllLt T (tl ++ own)) (off : ∀ q ∈ own, q.1 ≠ D ∧ ∀ p ∈ tl, q.1 ≠ p.1) :
    InvEndG h₀ L (ARJ h₀ L ps lo hi (i + 1)) own s₁ { s₁ with heap := h', toks := tk } := by
  refine ar_end F N e1 e2 e3 e4 (tl := (T, { cls := .type "tuple", data := .seq #[.int lo' t', .int hi' u'] }) :: tl) (n := n) (vs' := vs' ++ [Value.ref T] ++ [v]) (out := out ++ [(lo', hi')] ++ [p]) (by simp; omega)
    (List.forall_mem_cons.mpr ⟨Nat.ne_of_gt g.1, hD⟩) hf (fun h k N => ((ho h k (News.tl N)).append (.one (pv_tup N (.head _)))).append (.one (pa h k))) ?_ ?_ ?_
  · exact List.forall_mem_cons.mpr ⟨.tail _ (.head _), List.forall_mem_cons.mpr ⟨.head _, fun p hp => .tail _ (.tail _ (List.mem_append.mpr (.inl hp)))⟩⟩
  · exact fun p hp => .tail _ (.tail _ (List.mem_append.mpr (.inr hp)))
  · exact fun q hq => ⟨(off q hq).1, List.forall_mem_cons.mpr ⟨Nat.ne_of_lt (allLt_mem g.2 q (List.mem_append.mpr (.inr hq))), (off q hq).2⟩⟩

local macro_rules | `(tactic| k_all) => `(tactic| assumption)
local macro_rules | `(tactic| walk_at "eval Name") => `(tactic| (k_here; k_dflt (refine' nameX_L ?F ?v ?_ ?a ?b; (case F => k_asm); (case a => rfl); (case b => rfl); (case v => assumption); k_whole)))
local macro_rules | `(tactic| walk_at "call ref") => `(tactic| (k_here; refine Halt.out ?_))
local macro_rules | `(tactic| walk_at "call builtin:sorted") => `(tactic| (k_here; refine Halt.out ?_))
local macro_rules | `(tactic| walk_at "pyIter ref") => `(tactic| (k_here; refine Halt.out ?_))
local macro_rules | `(tactic| walk_at "exec For") => `(tactic| (k_here; refine Halt.out ?_))

theorem filled : (fun (_ : OpenLaw) (_ : Params → Frag) => True) PySem.Challenge.rw_pf0261_02 heapK := by k_fill; trivial

section
variable {w : World} {mean : ExcName → Option Value} {mg mb : Str → Option Value} {dp un : Nat} {fr : Option (List Env)} {gd : Option (List Code)} {s : Shared} {Q E : Value → Shared → Prop}

local macro_rules | `(tactic| walk_at "subscriptTail") => `(tactic| (k_here; (with_reducible show wpAny _ _ (subscriptTail _ _ (Value.ref _) (Value.int _ _)) _ _ _); k_dflt (refine' item_tupleT ?t ?a ?b ?c ?d ?_; (case t => exact IsTup.keeps (by assumption) (Fr.keep (by k_asm))); (case a => decide); (case b => decide); (case c => rfl); (case d => rfl); k_whole)))

set_option maxHeartbeats 4000000 in
theorem spec_add_range (X : (heapK w.params).In s.heap) (T : Top viewK (looseW viewK []) mean mg mb s.heap) {l : Addr} {lo hi₀ : Int} {t u : Tok} {ps : List (Int × Int)} (hl : PL s.heap l ps) (hlen : ps.length ≤ 200)
    (hdp : dp + 8 < recursionLimit) (hun : un + 200 < cLine)
    (ret : ∀ D h' tk', Kp s.heap h' → s.heap.get? D = none → PL h' D (addRange ps lo hi₀) → Q (.ref D) { s with heap := h', toks := tk' }) :
    wpAny (model PySem.Challenge.rw_pf0261_02.row.prog w) (Ar dp un fr gd) (call (.ref 35) [.ref l, .int lo t, .int hi₀ u]) Q E s := by
  obtain ⟨vs, hvs, hps⟩ := hl
  refine enterP [(Str.ofString "ranges", .ref l), (Str.ofString "low", .int lo t), (Str.ofString "high", .int hi₀ u)] X T (by k_is) (by k_is) (by omega) (BindsTo.of_eq rfl) (locs rfl) ?_ rfl rfl rfl (by decide)
  intro L h₁ m F hm N
  subst hm
  (try dsimp only)
  (try k_fold)
  repeat' ((fail_if_success (with_reducible show wpAny _ _ (exec (Stmt.For ..) _) _ _ _)); (first | (k_unfold; (try dsimp only)) | (k_end; wrow_close) | walk1 | (dsimp only; walk1) | (leave1; walk_say "STEP leave1"; try dsimp only) | fail "no step"))
  rename Fr _ _ _ _ => F1
  rename News _ _ _ _ => N1
  refine For_invVF F1 rfl rfl ?_
  refine nameX_L F1 rfl ?_ rfl rfl
  refine iterBase (ARJ s.heap L ps lo hi₀) rfl hvs F1 (News.tl N1) ?_ ?_ ?_
  · exact ⟨_, [], 0, false, lo, hi₀, t, u, [], [], rfl, rfl, rfl, rfl, rfl, Nat.zero_le _, List.forall_mem_nil _, rfl, fun _ _ _ => .nil⟩
  · rintro i v m₁ nx h' tk' own hv hoff ⟨D, vs', n, st, lo', hi', t', u', tl, out, rfl, e1, e2, e3, e4, hln, hDo, hfold, hout⟩ F2 N2
    obtain ⟨⟨p1, p2⟩, hp, a, x, y, rfl, ht⟩ := hps.get hv
    rw [List.cons_append] at N2
    dsimp only at ht
    have hown : ∀ q ∈ own, q.1 ≠ D ∧ ∀ p ∈ tl, q.1 ≠ p.1 := fun q hq => ⟨hoff q hq D (by simp), fun p hp => hoff q hq p.1 (by simp; exact .inr ⟨p.2, hp⟩)⟩
    have hD : ∀ p ∈ tl ++ own, p.1 ≠ D := by
      intro p hp
      rcases List.mem_append.mp hp with hp | hp
      · exact hDo p hp
      · exact (hown p hp).1
    have hil : i < ps.length := by rw [← hps.length]; exact (List.getElem?_eq_some_iff.mp hv).1
    have hst : (ps.take (i + 1)).foldl addFold ([], false, lo, hi₀) = addFold (out, st, lo', hi') (p1, p2) := by
      rw [List.take_add_one, hp, Option.toList_some, List.foldl_append, hfold]
      rfl
    clear F1 N1 hfold hoff
    have s1 : ∀ p ∈ tl, p ∈ tl ++ own := fun p hp => List.mem_append.mpr (.inl hp)
    have s2 : ∀ p ∈ own, p ∈ tl ++ own := fun p hp => List.mem_append.mpr (.inr hp)
    have pa : ∀ h, Kp s.heap h → PV h (.ref a) (p1, p2) := fun h k => ⟨a, x, y, rfl, ht.keeps k⟩
    cases st
    · k_steps
      all_goals (rename Fr _ _ _ _ => F3; rename News _ _ _ _ => N3; (try simp only [List.push_toArray] at N3))
      · rename (_ + 1 < _) => g1
        refine ar_end F3 N3 e1 e2 e3 e4 (n := n + 1) (vs' := vs' ++ [Value.ref a]) (tl := tl) (by simp; omega) hDo (hst.trans ?_) (fun h k N => (hout h k N).append (.one (pa h k))) ?_ ?_ hown
        · unfold addFold; rw [if_pos g1]
        · exact List.forall_mem_cons.mpr ⟨.head _, fun p hp => .tail _ (s1 p hp)⟩
        · exact fun p hp => .tail _ (s2 p hp)
      · rename (_ < _ ∧ AllLt _ _) => g3
        rename (¬ (_ + 1 < _)) => g1
        rename (_ < _ - 1) => g2
        refine ar_end2 F3 N3 e1 rfl e3 e4 hln hDo (hst.trans ?_) hout pa g3 hown
        unfold addFold; rw [if_neg g1, if_pos g2]; rfl
      · rename (¬ (_ + 1 < _)) => g1
        rename (¬ (_ < _ - 1)) => g2
        refine ar_end F3 N3 e1 e2 rfl rfl (n := n) (vs' := vs') (tl := tl) (by omega) hDo (hst.trans ?_) hout ?_ ?_ hown
        · unfold addFold; rw [if_neg g1, if_neg g2]
        · exact List.forall_mem_cons.mpr ⟨.tail _ (.head _), fun p hp => .tail _ (.tail _ (s1 p hp))⟩
        · exact fun p hp => .tail _ (.tail _ (s2 p hp))
    · k_steps
      all_goals (rename Fr _ _ _ _ => F3; rename News _ _ _ _ => N3; (try simp only [List.push_toArray] at N3))
      · rename (_ + 1 < _) => g1
        refine ar_end F3 N3 e1 e2 e3 e4 (n := n + 1) (vs' := vs' ++ [Value.ref a]) (tl := tl) (by simp; omega) hDo (hst.trans ?_) (fun h k N => (hout h k N).append (.one (pa h k))) ?_ ?_ hown
        · unfold addFold; rw [if_pos g1]
        · exact List.forall_mem_cons.mpr ⟨.head _, fun p hp => .tail _ (s1 p hp)⟩
        · exact fun p hp => .tail _ (s2 p hp)
      · rename (¬ (_ + 1 < _)) => g1
        rename (_ < _ - 1) => g2
        refine ar_end F3 N3 e1 e2 e3 e4 (n := n + 1) (vs' := vs' ++ [Value.ref a]) (tl := tl) (by simp; omega) hDo (hst.trans ?_) (fun h k N => (hout h k N).append (.one (pa h k))) ?_ ?_ hown
        · unfold addFold; rw [if_neg g1, if_pos g2]; rfl
        · exact List.forall_mem_cons.mpr ⟨.head _, fun p hp => .tail _ (s1 p hp)⟩
        · exact fun p hp => .tail _ (s2 p hp)
      · rename (¬ (_ + 1 < _)) => g1
        rename (¬ (_ < _ - 1)) => g2
        refine ar_end F3 N3 e1 e2 rfl rfl (n := n) (vs' := vs') (tl := tl) (by omega) hDo (hst.trans ?_) hout ?_ ?_ hown
        · unfold addFold; rw [if_neg g1, if_neg g2]
        · exact List.forall_mem_cons.mpr ⟨.tail _ (.head _), fun p hp => .tail _ (.tail _ (s1 p hp))⟩
        · exact fun p hp => .tail _ (.tail _ (s2 p hp))
  · rintro m₁ nx h' tk' ⟨D, vs', n, st, lo', hi', t', u', tl, out, rfl, e1, e2, e3, e4, hln, hDo, hfold, hout⟩ F2 N2
    clear F1 N1
    rw [hps.length] at hln
    rw [List.take_of_length_le (Nat.le_of_eq hps.length.symm)] at hfold
    have hres : addRange ps lo hi₀ = if st then out else out ++ [(lo', hi')] := by unfold addRange; rw [hfold]
    cases st
    · k_steps
      rename Fr _ _ _ _ => F3
      rename News _ _ _ _ => N3
      refine ret _ _ _ F3.keep (N3 _ (.head _)).2.2 ?_
      rw [hres]
      refine ⟨vs' ++ [Value.ref _], ⟨_, (N3 _ (.head _)).1, rfl, _, rfl⟩, ?_⟩
      exact (hout _ F3.keep (News.sub N3 fun p hp => .tail _ (.tail _ (.tail _ (.tail _ hp))))).append (.one (pv_tup N3 (.tail _ (.tail _ (.head _)))))
    · k_steps
      show Q (.ref D) _
      refine ret _ _ _ F2.keep (N2 _ (.head _)).2.2 ?_
      rw [hres]
      exact ⟨vs', ⟨_, (N2 _ (.head _)).1, rfl, _, rfl⟩, hout _ F2.keep (News.tl N2)⟩
end

section
variable {w : World} {mean : ExcName → Option Value} {mg mb : Str → Option Value} {dp un : Nat} {fr : Option (List Env)} {gd : Option (List Code)} {s : Shared} {Q E : Value → Shared → Prop} {prog : Program} {p : Program} {loose : List Str}

/-- a def whose frame holds cells -/
theorem enterC {K : Frag} {name qual : Str} {params : Arguments} {body : List Stmt} {scope : Scope} {dV kV doc pm cdv ct oc : Value} {an od : Option Addr} {osl : Array (Option Value)} {f : Addr} {args : List Value} (binds : List (Str × Value))
    (X : K.In s.heap) (T : Top p loose mean mg mb s.heap)
    (ho : K.lookup f = some ⟨oc, od, .func (fnOf name qual params body scope dV kV doc pm an cdv ct), osl⟩) (hcd : codeIn K cdv qual = true) (hroom : dp < recursionLimit)
    (hbind : bindArgs (fnOf name qual params body scope dV kV doc pm an cdv ct) ⟨args, []⟩ = pure binds)
    (hkind : (binds.all fun y => scope.names.lookup y.1 == some .local || scope.names.lookup y.1 == some .cell) = true)
    (hnd : ((cellsFrom 0 scope.names []).map (·.1)).Nodup)
    (h : ∀ L h₁ tk cells, Fr s.heap L h₁ (bindL (envOfC qual scope L f cdv).kindOf binds fun _ => none) → News s.heap L h₁ cells →
      CellsAre (bindC (envOfC qual scope L f cdv).kindOf binds fun _ => none) (cellsFrom (L + 1) scope.names []) cells →
      wpAny (model prog w) ((Ar dp un fr gd).deeper (envOfC qual scope L f cdv)) (execs body (envOfC qual scope L f cdv))
        (fun fl s' => Q (match fl with | .ret v => v | _ => .none) s') (fun _ _ => False) { s with heap := h₁, toks := tk })
    (hco : scope.isCoroutine = false) (hgen : scope.isGenerator = false) (hk : scope.kind = .function) :
    wpAny (model prog w) (Ar dp un fr gd) (call (.ref f) args) Q E s := by
  refine wpAny_call (codeAny_call_cells (fd := fnOf name qual params body scope dV kV doc pm an cdv ct) (body := body) (binds := binds) hroom (X _ _ ho) rfl (Top.nolimit T) (codeRec_of X hcd) rfl hbind rfl (kindsX hkind _) (fun s₁ x => ?_) hco hgen hk)
  obtain ⟨h₁, tk, rfl, _⟩ := x.done
  have hk₁ := x.toInCall.keep
  obtain ⟨cells, NC, Y⟩ := Cl.news (h₀ := s.heap) (Nat.le_refl _) fun n c hm => ⟨x.cell n c (lookup_of_mem_nodup (cellsFrom_names scope.names 0 (s.heap.objs.size + 1) [] [] rfl ▸ hnd) hm), x.above n c hm⟩
  exact wpAny_mono (h s.heap.objs.size h₁ tk cells ⟨x.toInCall.ns, hk₁, Nat.le_refl _⟩ NC Y) (fun _ _ z => z) fun _ _ z => z.elim
end

section
variable {prog : Program} {w : World} {A : Around} {E : Value → Shared → Prop} {s : Shared} {env : Env}

def PairSrc (prog : Program) (w : World) (A : Around) (env : Env) (elt : Expr) (scope : Scope) (cl : List (Str × Addr)) (a b : Str) (f : Int → Int → Bool) (Q : Value → Shared → Prop) (xv : Value) (s₁ : Shared) : Prop :=
  ∃ l vs ps, xv = .ref l ∧ s₁.heap.IsList l vs.toArray ∧ PVs s₁.heap vs ps ∧ vs.length ≤ sizeLine ∧
      (∀ C x y t u s₃ m₃ E', Kp s₁.heap s₃.heap → s₁.heap.get? C = none → s₃.heap.Ns C m₃ → m₃ a = some (.int x t) → m₃ b = some (.int y u) →
        wpAny (model prog w) A (eval elt (compEnvC scope cl C env)) (fun v s₄ => v = .bool (f x y) ∧ Keeps s₃ s₄) E' s₃) ∧
      ∀ D h' tk, s₁.heap.get? D = none → Kp s₁.heap h' → h'.IsList D (ps.map fun p => Value.bool (f p.1 p.2)).toArray → Q (.ref D) { s₁ with heap := h', toks := tk }

/-- a comprehension over a list of pairs that yields bools -/
theorem comp_pairs {elt iter : Expr} {a b : Str} {pa pb tp : Pos} {kk : Nat} {scope : Scope} {cl : List (Str × Addr)} {pos : Pos} {Q : Value → Shared → Prop} (f : Int → Int → Bool) (hh : A.handled = none)
    (hclos : closureFor scope env = pure cl) (hcell : ∀ y ∈ scope.names, y.2 ≠ .cell) (hkind : scope.kind = .function)
    (hnames : ∀ y ∈ scope.names, y.2 = .local → scope.names.lookup y.1 = some .local) (hxa : scope.names.lookup a = some .local) (hxb : scope.names.lookup b = some .local) (hab : ¬ b = a)
    (h : wpAny (model prog w) A (eval iter env) (PairSrc prog w A env elt scope cl a b f Q) E s)
    (hs : ∀ x, foldedSetIterable iter env x = pure x := by intro _; rfl) :
    wpAny (model prog w) A (eval (.ListComp elt [⟨.Tuple [.Name a pa, .Name b pb] kk tp, iter, [], 0⟩] scope pos) env) Q E s := by
  rw [eval_ListComp]
  refine wpAny_comprehension_free (use := none) rfl hs hclos hkind hnames (wpAny_mono h (fun xv s₁ h₁ => ?_) fun _ _ e => e)
  obtain ⟨l, vs, ps, rfl, hl, hps, hsz, helt, fin⟩ := h₁
  refine wpAny_pyIter_list hl ?_
  have hlt : l < s₁.heap.objs.size := by obtain ⟨_, e, _⟩ := hl; exact Heap.lt_size e
  refine wpAny_newObj_type (wpAny_newFunctionEnv hcell (by intro y hy; simp at hy) (fun h₁ hns₁ hsb₁ => ?_) hkind)
  dsimp only at hns₁ hsb₁ ⊢
  have hC2 : ((s₁.heap.push { cls := Value.type "list_iterator", dict := none, data := Data.fields #[Value.ref l, Value.int 0 0] }).push { cls := Value.type "list", dict := none, data := Data.seq ([] : List Value).toArray }).objs.size = s₁.heap.objs.size + 2 := by
    rw [Heap.size_push, Heap.size_push]
  have hD2 : (s₁.heap.push { cls := Value.type "list_iterator", dict := none, data := Data.fields #[Value.ref l, Value.int 0 0] }).objs.size = s₁.heap.objs.size + 1 := by rw [Heap.size_push]
  have keep₁ : Kp s₁.heap h₁ := fun b o e => hsb₁.extBut b o (by rw [hC2]; exact Nat.ne_of_lt (Nat.lt_add_right 2 (Heap.lt_size e))) (Heap.get?_push_of_some _ (Heap.get?_push_of_some _ (Heap.get?_push_of_some _ e)))
  have hit₁ : h₁.IsListIter s₁.heap.objs.size l 0 :=
    ⟨_, hsb₁.extBut _ _ (by rw [hC2]; exact Nat.ne_of_lt (Nat.lt_add_of_pos_right (by decide))) (Heap.get?_push_of_some _ (Heap.get?_push_of_some _ (Heap.get?_push_size _ rfl))), rfl, rfl⟩
  have hacc₁ : h₁.get? (s₁.heap.push { cls := Value.type "list_iterator", dict := none, data := Data.fields #[Value.ref l, Value.int 0 0] }).objs.size = some (LCg.lst []) :=
    hsb₁.extBut _ _ (by rw [hC2, hD2]; exact Nat.ne_of_lt (Nat.lt_succ_self _)) (Heap.get?_push_of_some _ (Heap.get?_push_size _ rfl))
  clear hsb₁
  generalize hC : ((s₁.heap.push { cls := Value.type "list_iterator", dict := none, data := Data.fields #[Value.ref l, Value.int 0 0] }).push { cls := Value.type "list", dict := none, data := Data.seq ([] : List Value).toArray }).objs.size = C at hns₁ hC2 ⊢
  generalize hD : (s₁.heap.push { cls := Value.type "list_iterator", dict := none, data := Data.fields #[Value.ref l, Value.int 0 0] }).objs.size = D at hacc₁ hD2 ⊢
  generalize hI : s₁.heap.objs.size = I at hit₁ hC2 hD2 hlt ⊢
  have ne1 : D ≠ I := by intro e; rw [e] at hD2; exact absurd hD2 (Nat.ne_of_lt (Nat.lt_succ_self _))
  have ne2 : C ≠ I := by intro e; rw [e] at hC2; exact absurd hC2 (Nat.ne_of_lt (Nat.lt_add_of_pos_right (by decide)))
  have ne3 : C ≠ D := by intro e; rw [hC2, hD2] at e; exact absurd e (Nat.ne_of_gt (Nat.lt_succ_self _))
  have fresh : ∀ {x : Addr}, I ≤ x → s₁.heap.get? x = none := fun hx => Heap.get?_none_of_le (by rw [hI]; exact hx)
  have fD : s₁.heap.get? D = none := fresh (by rw [hD2]; exact Nat.le_succ _)
  have fC : s₁.heap.get? C = none := fresh (by rw [hC2]; exact Nat.le_add_right _ _)
  have fI : s₁.heap.get? I = none := fresh (Nat.le_refl _)
  have W := Walks.list (prog := prog) (w := w) (A := A) hh I l (Nat.ne_of_lt hlt) vs.toArray
  have hsize : vs.toArray.size = vs.length := by simp
  rw [hsize] at W
  have loop : codeAny (model prog w) A (.compLoop (.ListComp elt [⟨.Tuple [.Name a pa, .Name b pb] kk tp, iter, [], 0⟩] scope pos) 0 (.ref I) (.ref D) (compEnvC scope cl C env))
      (compPost (model prog w) A E none Q (.ref D) C) { s₁ with heap := h₁, toks := s₁.toks + ([] : List (Str × Value)).length } := by
    refine LCp.codeAny_compLoop_pair
      (fun k s' => ∃ h' tk i m', s' = { s₁ with heap := h', toks := tk } ∧ i ≤ vs.length ∧ k = vs.length + 1 - i ∧ h'.IsListIter I l i ∧ Kp s₁.heap h' ∧ h'.Ns C m' ∧ h'.get? D = some (LCg.lst ((ps.take i).map fun p => Value.bool (f p.1 p.2))))
      ?_ (vs.length + 1) ⟨h₁, _, 0, _, rfl, Nat.zero_le _, rfl, hit₁, keep₁, hns₁, hacc₁⟩
    rintro k s' ⟨h', tk, i, m', rfl, hi, rfl, hit, hk, hn, hac⟩
    have hl' : h'.IsList l vs.toArray := hl.at fun o e => hk _ _ e
    by_cases hlt2 : i < vs.length
    · refine W.item i _ _ _ hlt2 ⟨hit, hl'⟩ fun v h₂ tk₂ hP st₂ hk₂ => ?_
      have k2 : ∀ x o, x ≠ I → h'.get? x = some o → h₂.get? x = some o := fun x o hx e => hk₂ x o (by simpa using hx) e
      obtain ⟨q, hq, a', t, u, rfl, ht⟩ := hps.get (by simpa using hP)
      have s₁I : ∀ x o, s₁.heap.get? x = some o → x ≠ I := fun x o e hx => by rw [hx, fI] at e; cases e
      have s₁C : ∀ x o, s₁.heap.get? x = some o → x ≠ C := fun x o e hx => by rw [hx, fC] at e; cases e
      have s₁D : ∀ x o, s₁.heap.get? x = some o → x ≠ D := fun x o e hx => by rw [hx, fD] at e; cases e
      have kk2 : Kp s₁.heap h₂ := fun x o e => k2 x o (s₁I x o e) (hk x o e)
      refine wpAny_letOwnedTupleGo_listiter st₂.1 ?_
      have ht2 : h₂.IsTuple a' #[.int q.1 t, .int q.2 u] := by obtain ⟨o, ho, hc, hd⟩ := ht; exact ⟨o, kk2 _ _ ho, hc, hd⟩
      refine kcp_assign (env := compEnvC scope cl C env) hh ht2 (lookup_relabel_local hxa) (lookup_relabel_local hxb) (by simp [compEnvC, relabel, hkind]) (hn.at' fun o e => k2 _ o ne2 e) fun h₄ tk₄ hn₄ hk₄ => ?_
      have k4 : Kp s₁.heap h₄ := fun x o e => hk₄ x o (s₁C x o e) (kk2 x o e)
      refine wpAny_mono (helt C q.1 q.2 t u _ _ _ k4 fC hn₄ (by simp [Ne.symm hab]) (by simp)) (fun v s₅ hv => ?_) fun _ _ e => e
      obtain ⟨rfl, h₅, tk₅, rfl, k5⟩ := hv
      have hac5 : h₅.get? D = some (LCg.lst ((ps.take i).map fun p => Value.bool (f p.1 p.2))) := k5 _ _ (hk₄ _ _ (Ne.symm ne3) (k2 _ _ ne1 hac))
      have hlen : ((ps.take i).map fun p => Value.bool (f p.1 p.2)).length ≤ vs.length := by
        rw [List.length_map, List.length_take]; omega
      refine append_at (hsz := by rw [List.size_toArray]; exact Nat.le_trans hlen hsz) hac5 fun h₆ hs₆ hD₆ => ?_
      have hit4 : h₅.IsListIter I l (i + 1) := by
        obtain ⟨o, ho, r⟩ := st₂.1
        exact ⟨o, k5 _ _ (hk₄ _ _ (Ne.symm ne2) ho), r⟩
      refine ⟨vs.length + 1 - (i + 1), by omega, h₆, tk₅, i + 1, _, rfl, hlt2, rfl, ?_, ?_, (hn₄.at' fun o e => k5 _ _ e).sameBut hs₆ ne3, ?_⟩
      · obtain ⟨o, ho, r⟩ := hit4
        exact ⟨o, hs₆.extBut _ _ (Ne.symm ne1) ho, r⟩
      · exact fun x o e => hs₆.extBut x o (s₁D x o e) (k5 x o (k4 x o e))
      · rw [hD₆]
        have e : (ps.take (i + 1)).map (fun p => Value.bool (f p.1 p.2)) = (ps.take i).map (fun p => Value.bool (f p.1 p.2)) ++ [Value.bool (f q.1 q.2)] := by
          rw [List.take_add_one, hq]; simp
        rw [e]
        exact congrArg some (LCg.lst_snoc _ _)
    · have hin : i = vs.length := by omega
      subst hin
      refine W.done _ _ _ ⟨hit, hl'⟩ fun h₂ tk₂ hk₂ => ?_
      have k2 : ∀ x o, x ≠ I → h'.get? x = some o → h₂.get? x = some o := fun x o hx e => hk₂ x o (by simpa using hx) e
      refine ⟨m', hn.at' fun o e => k2 _ o ne2 e, fun h₃ hs₃ => fin D h₃ tk₂ fD (fun x o e => ?_) ?_⟩
      · exact hs₃.extBut x o (fun hx => by rw [hx, fC] at e; cases e) (k2 x o (fun hx => by rw [hx, fI] at e; cases e) (hk x o e))
      · rw [hps.length, List.take_length] at hac
        exact ⟨_, hs₃.extBut _ _ (Ne.symm ne3) (k2 _ _ ne1 hac), rfl, _, rfl⟩
  refine codeAny_compStart_list loop ?_
  exact wpAny_pyIter_listiter hit₁ loop
end

theorem PVs.get' {h : Heap} {vs : List Value} {ps : List (Int × Int)} (x : PVs h vs ps) {i : Nat} {p : Int × Int} (hp : ps[i]? = some p) : ∃ v, vs[i]? = some v ∧ PV h v p := by
  have hi : i < vs.length := by rw [x.length]; exact (List.getElem?_eq_some_iff.mp hp).1
  obtain ⟨q, hq, hv⟩ := x.get (List.getElem?_eq_getElem hi)
  rw [hp] at hq
  cases hq
  exact ⟨_, List.getElem?_eq_getElem hi, hv⟩
theorem PVs.take {h : Heap} {vs : List Value} {ps : List (Int × Int)} (x : PVs h vs ps) : ∀ n, PVs h (vs.take n) (ps.take n) := by
  induction x with
  | nil => intro n; simp; exact .nil
  | cons a _ ih =>
    intro n
    cases n with
    | zero => exact .nil
    | succ n => exact .cons a (ih n)

section
variable {prog : Program} {w : World} {A : Around} {E : Value → Shared → Prop} {s : Shared} {h₀ : Heap} {L l : Addr} {m : Str → Option Value} {news : List (Addr × Obj)} {Q : Value → Shared → Prop} {ps : List (Int × Int)} {value slice : PySem.Expr}

theorem len_PL (hl : PL s.heap l ps) (hlen : ps.length ≤ 1000) (h : ∀ (t : Tok) tk, Q (.int ps.length t) { s with toks := tk }) : wpAny (model prog w) A (call (.builtin "len") [.ref l]) Q E s := by
  obtain ⟨vs, hvs, hps⟩ := hl
  have e : vs.toArray.size = ps.length := by rw [List.size_toArray, hps.length]
  exact len_list hvs (by rw [e]; omega) (by rw [e]; exact h _ _)

theorem item_PL {k : Int} {u : Tok} {p : Int × Int} (hl : PL s.heap l ps) (h0 : 0 ≤ k) (hk : k < 2 ^ 63) (hp : ps[k.toNat]? = some p) (h : ∀ a x y, IsTup s.heap a #[.int p.1 x, .int p.2 y] → Q (.ref a) s)
    (hs : subscripted slice false (.ref l) (.int k u) = operate [.ref l, .int k u] (getItem (.ref l) (.int k u)) := by with_unfolding_all rfl) :
    wpAny (model prog w) A (subscriptTail value slice (.ref l) (.int k u)) Q E s := by
  obtain ⟨vs, hvs, hps⟩ := hl
  obtain ⟨v, hv, a, x, y, rfl, ht⟩ := hps.get' hp
  exact tail_any hvs.typeIs slot_list_getitem.lookup (wpAny_getItem_list hvs h0 hk (by simpa using hv) (h a x y ht)) hs
theorem item_PL_last {k : Int} {u : Tok} {p : Int × Int} (hl : PL s.heap l ps) (hk : k = -1) (hp : ps[ps.length - 1]? = some p) (h : ∀ a x y, IsTup s.heap a #[.int p.1 x, .int p.2 y] → Q (.ref a) s)
    (hs : subscripted slice false (.ref l) (.int k u) = operate [.ref l, .int k u] (getItem (.ref l) (.int k u)) := by with_unfolding_all rfl) :
    wpAny (model prog w) A (subscriptTail value slice (.ref l) (.int k u)) Q E s := by
  subst hk
  obtain ⟨vs, hvs, hps⟩ := hl
  obtain ⟨v, hv, a, x, y, rfl, ht⟩ := hps.get' hp
  have hlt := (List.getElem?_eq_some_iff.mp hp).1
  have e : vs.toArray.size = ps.length := by rw [List.size_toArray, hps.length]
  refine tail_any hvs.typeIs slot_list_getitem.lookup (wpAny_getItem_list_neg hvs (by decide) (by rw [e]; omega) (by decide) ?_ (h a x y ht)) hs
  rw [e, show ((-1 : Int) + (ps.length : Int)).toNat = ps.length - 1 by omega]
  simpa using hv
theorem tup_fst {a : Addr} {x y : Int} {t u w' : Tok} (ht : IsTup s.heap a #[.int x t, .int y u]) (h : Q (.int x t) s)
    (hs : subscripted slice false (.ref a) (.int 0 w') = operate [.ref a, .int 0 w'] (getItem (.ref a) (.int 0 w')) := by with_unfolding_all rfl) :
    wpAny (model prog w) A (subscriptTail value slice (.ref a) (.int 0 w')) Q E s := item_tupleT ht (by decide) (by decide) (j := 0) rfl rfl h hs
theorem tup_snd {a : Addr} {x y : Int} {t u w' : Tok} (ht : IsTup s.heap a #[.int x t, .int y u]) (h : Q (.int y u) s)
    (hs : subscripted slice false (.ref a) (.int 1 w') = operate [.ref a, .int 1 w'] (getItem (.ref a) (.int 1 w')) := by with_unfolding_all rfl) :
    wpAny (model prog w) A (subscriptTail value slice (.ref a) (.int 1 w')) Q E s := item_tupleT ht (by decide) (by decide) (j := 1) rfl rfl h hs

theorem slice_L {y : Int} {u : Tok} {vs : List Value} (F : Fr h₀ L s.heap m) (N : News h₀ L s.heap news) (hvs : s.heap.IsList l vs.toArray) (hlen : vs.length ≤ 1000) (h0 : 0 ≤ y)
    (h : ∀ D h', Fr h₀ L h' m → News h₀ L h' ((D, PySem.W.listOf (vs.take y.toNat).toArray 0) :: news) → (∀ p ∈ news, p.1 < D) → Q (.ref D) { s with heap := h' })
    (hs : subscripted slice false (.ref l) (.ref s.heap.objs.size) = operate [.ref s.heap.objs.size, .ref l] (getItem (.ref l) (.ref s.heap.objs.size))) (ht : ∀ r, letTemporaryGo value (.ref l) r = pure ()) :
    wpAny (model prog w) A (subscriptTail value slice (.ref l) (.ref s.heap.objs.size)) Q E { s with heap := s.heap.push { cls := .type "slice", data := .fields #[.none, .int y u, .none] } } := by
  refine kmk_slice F N hvs .none (.int y u) (fun D h' F' N' l1 => h D h' F' ?_ l1) hs ht (by rw [List.size_toArray, sizeLine_eq]; omega)
  have e : sliceBounds none (some y) none vs.toArray.size = (((0 : Nat) : Int), ((min y.toNat vs.toArray.size : Nat) : Int), 1) := by
    simp only [sliceBounds, Option.getD_none, show (1 : Int) > 0 by decide, if_true, if_neg (show ¬ (y < 0) by omega)]
    congr 1
    congr 1
    omega
  rw [kmk_pick_nat _ e] at N'
  rw [Nat.sub_zero, List.drop_zero, List.size_toArray, kmk_take_min] at N'
  exact N'
end

def pdat (p : Int × Int) : Dat := .tuple [.int p.1, .int p.2]
theorem pdat_ok (n : Nat) (p : Int × Int) : kqdOk (n + 1) (pdat p) = true := by cases n <;> rfl
theorem pdat_inj {p q : Int × Int} (h : pdat p = pdat q) : p = q := by
  simp only [pdat, Dat.tuple.injEq, List.cons.injEq, Dat.int.injEq, and_true] at h
  exact Prod.ext h.1 h.2
theorem pdats_inj : ∀ {ps qs : List (Int × Int)}, ps.map pdat = qs.map pdat → ps = qs
  | [], [], _ => rfl
  | [], _ :: _, h => by simp at h
  | _ :: _, [], h => by simp at h
  | p :: ps, q :: qs, h => by
    simp only [List.map_cons, List.cons.injEq] at h
    rw [pdat_inj h.1, pdats_inj h.2]
theorem pdats_ok (n : Nat) (ps : List (Int × Int)) : ∀ d ∈ ps.map pdat, kqdOk (n + 1) d = true := by
  intro d hd
  obtain ⟨p, _, rfl⟩ := List.mem_map.mp hd
  exact pdat_ok n p

theorem list_ok (ps : List (Int × Int)) : kqdOk 9 (.list (ps.map pdat)) = true := by
  show (ps.map pdat).all (kqdOk 8) = true
  exact List.all_eq_true.mpr (pdats_ok 7 ps)

theorem reads_PV {h : Heap} {v : Value} {p : Int × Int} (x : PV h v p) : ∃ as, Reads h v (kqdP (pdat p)) as := by
  obtain ⟨a, t, u, rfl, o, ho, hc, n, hd⟩ := x
  have r : ReadsAll h [Value.int p.1 t, Value.int p.2 u] [PyData.int p.1, PyData.int p.2] _ := .cons (Reads.int _ _) (.cons (Reads.int _ _) .nil)
  exact ⟨_, reads_tuple_at ho hc hd r⟩
theorem reads_PVs {h : Heap} {vs : List Value} {ps : List (Int × Int)} (x : PVs h vs ps) : ∃ as, ReadsAll h vs (kqdPs (ps.map pdat)) as := by
  induction x with
  | nil => exact ⟨_, .nil⟩
  | cons a _ ih =>
    obtain ⟨as, h1⟩ := reads_PV a
    obtain ⟨bs, h2⟩ := ih
    exact ⟨_, .cons h1 h2⟩
theorem reads_PL {h : Heap} {l : Addr} {ps : List (Int × Int)} (x : PL h l ps) : ∃ as, Reads h (.ref l) (kqdP (.list (ps.map pdat))) as := by
  obtain ⟨vs, ⟨o, ho, hc, n, hd⟩, hp⟩ := x
  obtain ⟨as, r⟩ := reads_PVs hp
  rw [kqdP]
  exact ⟨_, reads_list_at ho hc hd (by simpa using r)⟩
theorem eqv_PL (ps qs : List (Int × Int)) : PyData.eqv (kqdP (.list (ps.map pdat))) (kqdP (.list (qs.map pdat))) = decide (ps = qs) := by
  have q := kqd_eqv 9 (.list (ps.map pdat)) (.list (qs.map pdat)) 9 (list_ok ps) (list_ok qs)
  by_cases e : ps = qs
  · rw [decide_eq_true e]; exact q.mpr (by rw [e])
  · rw [decide_eq_false e]
    refine Bool.eq_false_iff.mpr fun x => e (pdats_inj ?_)
    have := q.mp x
    rwa [Dat.list.injEq] at this
theorem shaped_PL (ps : List (Int × Int)) : SeqAt.shaped (kqdP (.list (ps.map pdat))) = true := by
  have l := kqd_lay 9 (.list (ps.map pdat)) (list_ok ps)
  unfold SeqAt.shaped
  rw [l.1, Bool.true_and]
  exact decide_eq_true (Nat.le_trans l.2 (by decide))

section
variable {prog : Program} {w : World} {A : Around} {E : Value → Shared → Prop} {s : Shared} {h₀ : Heap} {L l b : Addr} {m : Str → Option Value} {news : List (Addr × Obj)} {Q : Value → Shared → Prop} {ps qs : List (Int × Int)} {value slice : PySem.Expr}

theorem eq_PL (ha : PL s.heap l ps) (hb : PL s.heap b qs) (hu : A.units + 64 < cLine) (h : Q (.bool (decide (ps = qs))) s) : wpAny (model prog w) A (compareOp .Eq (.ref l) (.ref b)) Q E s := by
  obtain ⟨as, ra⟩ := reads_PL ha
  obtain ⟨bs, rb⟩ := reads_PL hb
  exact eq_dataH ra rb (shaped_PL ps) (shaped_PL qs) hu (by rw [eqv_PL]; exact h)
theorem ne_PL (ha : PL s.heap l ps) (hb : PL s.heap b qs) (hu : A.units + 64 < cLine) (h : Q (.bool (!decide (ps = qs))) s) : wpAny (model prog w) A (compareOp .NotEq (.ref l) (.ref b)) Q E s := by
  obtain ⟨as, ra⟩ := reads_PL ha
  obtain ⟨bs, rb⟩ := reads_PL hb
  exact ne_dataH ra rb (shaped_PL ps) (shaped_PL qs) hu (by rw [eqv_PL]; exact h)

end

def hasN (ps : List (Int × Int)) (n : Int) : Bool := ps.any fun p => decide (p.1 ≤ n) && decide (n ≤ p.2)
theorem boolsAre (f : Int × Int → Bool) : ∀ ps : List (Int × Int), LSm.BoolsAre (ps.map fun p => Value.bool (f p)) (ps.map f)
  | [] => .nil
  | _ :: r => .cons _ (boolsAre f r)

section
variable {w : World} {mean : ExcName → Option Value} {mg mb : Str → Option Value} {dp un : Nat} {fr : Option (List Env)} {gd : Option (List Code)} {s : Shared} {Q E : Value → Shared → Prop}

local macro_rules | `(tactic| walk_at "eval ListComp") => `(tactic| (k_here; k_dflt (refine comp_pairs (by assumption) rfl (by with_unfolding_all rfl) (by decide) (by rfl) (by decide) (by rfl) (by rfl) (by decide) ?_)))
set_option maxHeartbeats 4000000 in
theorem spec_has_number (X : (heapK w.params).In s.heap) (T : Top viewK (looseW viewK []) mean mg mb s.heap) {l : Addr} {n : Int} {t : Tok} {ps : List (Int × Int)} (hl : PL s.heap l ps) (hlen : ps.length ≤ 400)
    (hdp : dp + 8 < recursionLimit)
    (ret : ∀ h' tk', Kp s.heap h' → Q (.bool (hasN ps n)) { s with heap := h', toks := tk' }) :
    wpAny (model PySem.Challenge.rw_pf0261_02.row.prog w) (Ar dp un fr gd) (call (.ref 40) [.ref l, .int n t]) Q E s := by
  obtain ⟨vs, hvs, hps⟩ := hl
  refine enterC [(Str.ofString "ranges", .ref l), (Str.ofString "n", .int n t)] X T (by k_is) (by k_is) (by omega) rfl rfl (by decide +kernel) ?_ rfl rfl rfl
  intro L h₁ tk cells F N Y
  k_cells Y
  let fW : Int → Int → Bool := fun x y => decide (x ≤ n) && decide (n ≤ y)
  (try dsimp only)
  (try k_fold)
  k_steps
  rename Fr _ _ _ _ => F1
  rename News _ _ _ _ => N1
  refine ⟨l, vs, ps, rfl, hvs.at fun o e => F1.keep _ _ e, hps.keeps F1.keep, ?_, ?_, ?_⟩
  · rw [hps.length, sizeLine_eq]; omega
  · intro C x y t u s₃ m₃ E' k3 hC hn hx hy
    obtain ⟨oC, heC, hoC⟩ := LCg.ns_obj hn
    have F3 : Fr s.heap L s₃.heap _ := F1.after k3
    have N3 := News.grown N1 k3
    have hCL : C ≠ L := by rintro rfl; obtain ⟨o, _, _, ho, _⟩ := F1.ns; rw [hC] at ho; cases ho
    have hC0 : s.heap.get? C = none := by
      cases e : s.heap.get? C with
      | none => rfl
      | some o => rw [F1.keep _ _ e] at hC; cases hC
    have N4 : News s.heap L s₃.heap ((C, oC) :: [(L + 1, _)]) := List.forall_mem_cons.mpr ⟨⟨heC, hCL, hC0⟩, N3⟩
    clear F1 N1 N3
    have c1 : ∀ b, b = fW x y → Value.bool b = Value.bool (fW x y) := fun _ e => congrArg _ e
    have c2 : fW x y = (decide (x ≤ n) && decide (n ≤ y)) := rfl
    k_steps
    all_goals (first | exact ⟨_, _, rfl, fun _ _ e => e⟩ | (refine c1 _ ?_; rw [c2]; simp [*]))
  · intro D h' tk' hD k hl'
    have F3 : Fr s.heap L h' _ := F1.after k
    have N3 := News.grown N1 k
    clear F1 N1
    k_steps
    refine LSm.any_bools F3 N3 rfl hl' (boolsAre (fun p => fW p.1 p.2) ps) ?_
    intro h2 tk2 F5 N5
    clear F3 N3
    have e : ((ps.map fun p => fW p.1 p.2).any id) = hasN ps n := by
      unfold hasN; rw [List.any_map]; rfl
    rw [e]
    k_steps
    exact ret _ _ F5.keep
end

def pruneF (low : Int) (p : Int × Int) : Int × Int := (if low > p.1 then low else p.1, p.2)
def pruneR (ps : List (Int × Int)) (low : Int) : List (Int × Int) := (ps.filter fun p => decide (low ≤ p.2)).map (pruneF low)

section
variable {prog : Program} {w : World} {A : Around} {h₀ : Heap} {L : Addr} {m : Str → Option Value} {env : Env} {ct elt : Expr} {x : Str} {scope : Scope} {cl : List (Str × Addr)} {s : Shared} {S : List (Addr × Obj) → Prop} {P : Nat → Value → Prop} {Fin : List Value → List (Addr × Obj) → Prop}

theorem cend_mono {s₁ s₂ : Shared} {I C D : Addr} {oI oC oD : Obj} {r r' : Value → List (Addr × Obj) → Prop} {y : Value} (h : LCg.CompEnd h₀ L m s₁ I oI C oC D oD S r y s₂) (e : ∀ n, r y n → r' y n) :
    LCg.CompEnd h₀ L m s₁ I oI C oC D oD S r' y s₂ := by
  obtain ⟨a, b, c, d, F, N, o, hS, hr⟩ := h
  exact ⟨a, b, c, d, F, N, o, hS, e _ hr⟩

theorem cend_tup {h' : Heap} {s₁ : Shared} {tk : Nat} {I C D T : Addr} {oI oC oD oT : Obj} {q : Addr × Obj} {tl : List (Addr × Obj)} {r : Value → List (Addr × Obj) → Prop} {y : Value} (F : Fr h₀ L h' m) (N : News h₀ L h' ((T, oT) :: (I, oI) :: (C, oC) :: (D, oD) :: q :: tl))
    (off : LCg.Off3 I C D (q :: tl)) (lt : I < T ∧ C < T ∧ D < T ∧ q.1 < T ∧ AllLt T tl) (hS : S (q :: (T, oT) :: tl)) (hr : r y (q :: (T, oT) :: tl)) : Halt (LCg.CompEnd h₀ L m s₁ I oI C oC D oD S r y { s₁ with heap := h', toks := tk }) := by
  refine LCg.CompEnd.intro F N (q :: (T, oT) :: tl) ?_ ⟨off.1, ⟨Nat.ne_of_gt lt.1, Nat.ne_of_gt lt.2.1, Nat.ne_of_gt lt.2.2.1⟩, off.2⟩ hS hr
  intro p hp
  simp only [List.mem_cons] at hp ⊢
  rcases hp with rfl | rfl | rfl | rfl | rfl | hp
  · exact .inr (.inl rfl)
  · exact .inr (.inr (.inl rfl))
  · exact .inr (.inr (.inr (.inl rfl)))
  · exact .inr (.inr (.inr (.inr (.inl rfl))))
  · exact .inl rfl
  · exact .inr (.inr (.inr (.inr (.inr hp))))
theorem cend_same {h' : Heap} {s₁ : Shared} {tk : Nat} {I C D : Addr} {oI oC oD : Obj} {nw : List (Addr × Obj)} {r : Value → List (Addr × Obj) → Prop} {y : Value} (F : Fr h₀ L h' m) (N : News h₀ L h' ((I, oI) :: (C, oC) :: (D, oD) :: nw))
    (off : LCg.Off3 I C D nw) (hS : S nw) (hr : r y nw) : Halt (LCg.CompEnd h₀ L m s₁ I oI C oC D oD S r y { s₁ with heap := h', toks := tk }) :=
  LCg.CompEnd.intro F N nw (fun _ h => h) off hS hr

/-- a comprehension with a test, by an invariant -/
theorem restT_inv {n : Nat} (J : Nat → List Value → List (Addr × Obj) → Prop)
    (turn : ∀ i v ys news I oI C oC D m₂ h tk (E' : Value → Shared → Prop), i < n → P i v → J i ys news → LCg.NsObj oC m₂ → m₂ x = some v → Fr h₀ L h m → News h₀ L h ((I, oI) :: (C, oC) :: (D, LCg.lst ys) :: news) → LCg.Off3 I C D news →
      ((@Ne Nat I C) ∧ (@Ne Nat I D) ∧ (@Ne Nat C D)) →
      wpAny (model prog w) A (isTrue ct (compEnvC scope cl C env) (eval ct (compEnvC scope cl C env))) (fun ok s' => if ok = true then
        wpAny (model prog w) A (eval elt (compEnvC scope cl C env)) (fun y s'' => Halt (LCg.CompEnd h₀ L m { s with heap := h, toks := tk } I oI C oC D (LCg.lst ys) S (fun y news' => J (i + 1) (ys ++ [y]) news') y s'')) E' s'
        else Halt (LCg.CompEnd h₀ L m { s with heap := h, toks := tk } I oI C oC D (LCg.lst ys) S (fun _ news' => J (i + 1) ys news') Value.none s')) E' { s with heap := h, toks := tk })
    (fin : ∀ ys news, J n ys news → Fin ys news) : ∀ (k i : Nat) (ys : List Value) (news : List (Addr × Obj)), i + k = n → J i ys news → LCt.CompRestT prog w A h₀ L m env ct elt x scope cl s S P Fin k i ys news
  | 0, i, ys, news, e, hJ => LCt.CompRestT.zero (fin ys news (by rw [← e]; exact hJ))
  | k + 1, i, ys, news, e, hJ => by
    refine LCt.CompRestT.succ fun v I oI C oC D m₂ h tk E' hP hC hx F N off ne => ?_
    refine wpAny_mono (turn i v ys news I oI C oC D m₂ h tk E' (by omega) hP hJ hC hx F N off ne) (fun ok s' hq => ?_) fun _ _ e => e
    cases ok with
    | true =>
      simp only [if_true] at hq ⊢
      exact wpAny_mono hq (fun y s'' hr => cend_mono hr.out fun nw hj => restT_inv J turn fin k (i + 1) _ nw (by omega) hj) fun _ _ e => e
    | false =>
      simp only [Bool.false_eq_true, if_false] at hq ⊢
      exact cend_mono hq.out fun nw hj => restT_inv J turn fin k (i + 1) _ nw (by omega) hj
end

section
variable {w : World} {mean : ExcName → Option Value} {mg mb : Str → Option Value} {dp un : Nat} {fr : Option (List Env)} {gd : Option (List Code)} {s : Shared} {Q E : Value → Shared → Prop}

local macro_rules | `(tactic| walk_at "subscriptTail") => `(tactic| (k_here; (with_reducible show wpAny _ _ (subscriptTail _ _ (Value.ref _) (Value.int _ _)) _ _ _); k_dflt (refine' item_tupleT ?t ?a ?b ?c ?d ?_; (case t => exact IsTup.keeps (by assumption) (Fr.keep (by k_asm))); (case a => decide); (case b => decide); (case c => rfl); (case d => rfl); k_whole)))
local macro_rules | `(tactic| walk_at "eval ListComp") => `(tactic| (k_here; k_dflt (refine LCt.ListComp_T (F₀ := by k_asm) (by with_unfolding_all rfl) (by decide) (by rfl) (by decide) (by rfl) ?_); k_dflt (refine' nameX_L ?F ?v ?_ ?a ?b; (case F => k_asm); (case a => rfl); (case b => rfl); (case v => rfl); k_whole); refine Halt.out ?_))
set_option maxHeartbeats 4000000 in
theorem spec_prune (X : (heapK w.params).In s.heap) (T : Top viewK (looseW viewK []) mean mg mb s.heap) {l : Addr} {low : Int} {t : Tok} {ps : List (Int × Int)} (hl : PL s.heap l ps) (hlen : ps.length ≤ 400)
    (hdp : dp + 8 < recursionLimit)
    (ret : ∀ D h' tk', Kp s.heap h' → s.heap.get? D = none → PL h' D (pruneR ps low) → Q (.ref D) { s with heap := h', toks := tk' }) :
    wpAny (model PySem.Challenge.rw_pf0261_02.row.prog w) (Ar dp un fr gd) (call (.ref 52) [.ref l, .int low t]) Q E s := by
  obtain ⟨vs, hvs, hps⟩ := hl
  refine enterC [(Str.ofString "ranges", .ref l), (Str.ofString "low", .int low t)] X T (by k_is) (by k_is) (by omega) rfl rfl (by decide +kernel) ?_ rfl rfl rfl
  intro L h₁ tk cells F N Y
  k_cells Y
  (try dsimp only)
  (try k_fold)
  k_steps
  rename Fr _ _ _ _ => F1
  rename News _ _ _ _ => N1
  refine LCt.CompSrcT.base rfl F1 N1 hvs (by rw [List.size_toArray, hps.length, sizeLine_eq]; omega) fun g => ?_
  have hn : vs.toArray.size = ps.length := by rw [List.size_toArray, hps.length]
  rename Obj => o9
  refine restT_inv (n := vs.toArray.size) (fun i ys nw => ∃ tl, nw = (L + 1, o9) :: tl ∧ ys.length ≤ i ∧ ∀ h, Kp s.heap h → News s.heap L h tl → PVs h ys (pruneR (ps.take i) low)) ?_ ?_ _ 0 [] _ (by simp) ⟨[], rfl, Nat.le_refl _, fun _ _ _ => .nil⟩
  · rintro i v ys nw I oI C oC D m₂ h tk E' hi hv ⟨tl, rfl, hyl, hys⟩ hC hx F2 N2 off ne
    obtain ⟨⟨p1, p2⟩, hp, a, x, y, rfl, ht⟩ := hps.get (by simpa using hv)
    dsimp only at ht
    clear F1 N1
    have hst : (ps.take (i + 1)) = ps.take i ++ [(p1, p2)] := by rw [List.take_add_one, hp]; rfl
    have hyes : low ≤ p2 → pruneR (ps.take (i + 1)) low = pruneR (ps.take i) low ++ [((if low > p1 then low else p1), p2)] := fun g => by
      unfold pruneR; rw [hst, List.filter_append, List.map_append]; simp [pruneF, g]
    have hno : ¬ low ≤ p2 → pruneR (ps.take (i + 1)) low = pruneR (ps.take i) low := fun g => by
      unfold pruneR; rw [hst, List.filter_append, List.map_append]; simp [g]
    k_steps
    all_goals (rename Fr _ _ _ _ => F3; rename News _ _ _ _ => N3)
    · rename (low ≤ p2) => g1
      rename (_ < _ ∧ _) => g2
      refine cend_tup F3 N3 off g2 (.inl hvs) ⟨_, rfl, by simp; omega, fun h k N => ?_⟩
      rw [hyes g1]
      exact (hys h k (News.tl N)).append (.one (pv_tup N (.head _)))
    · rename (¬ low ≤ p2) => g1
      refine cend_same F3 N3 off (.inl hvs) ⟨_, rfl, by omega, fun h k N => ?_⟩
      rw [hno g1]
      exact hys h k N
  · rintro ys nw ⟨tl, rfl, hyl, hys⟩
    rw [hn, List.take_length] at hys
    intro D h' tk' F5 N5 _
    show Q (.ref D) _
    exact ret _ _ _ F5.keep (N5 _ (.head _)).2.2 ⟨ys, ⟨_, (N5 _ (.head _)).1, rfl, _, rfl⟩, hys _ F5.keep (News.tl (News.tl N5))⟩
end

def keptR (ps : List (Int × Int)) : List (Int × Int) := if ps.length ≤ 64 then ps else pruneR ps (ps.getD 63 (0, 0)).1

section
variable {w : World} {mean : ExcName → Option Value} {mg mb : Str → Option Value} {dp un : Nat} {fr : Option (List Env)} {gd : Option (List Code)} {s : Shared} {Q E : Value → Shared → Prop}

set_option maxHeartbeats 4000000 in
theorem spec_kept (X : (heapK w.params).In s.heap) (T : Top viewK (looseW viewK []) mean mg mb s.heap) {l : Addr} {ps : List (Int × Int)} (hl : PL s.heap l ps) (hlen : ps.length ≤ 400)
    (hdp : dp + 10 < recursionLimit) (hun : un + 200 < cLine)
    (ret : ∀ D h' tk', Kp s.heap h' → (D = l ∨ s.heap.get? D = none) → PL h' D (keptR ps) → Q (.ref D) { s with heap := h', toks := tk' }) :
    wpAny (model PySem.Challenge.rw_pf0261_02.row.prog w) (Ar dp un fr gd) (call (.ref 207) [.ref l]) Q E s := by
  refine enterP [(Str.ofString "ranges", .ref l)] X T (by k_is) (by k_is) (by omega) (BindsTo.of_eq rfl) (locs rfl) ?_ rfl rfl rfl (by decide)
  intro L h₁ m F hm N
  subst hm
  (try k_fold)
  repeat' ((fail_if_success (with_reducible show wpAny _ _ (call (Value.builtin "len") _) _ _ _)); (first | (k_unfold; (try dsimp only)) | (k_end; wrow_close) | walk1 | (dsimp only; walk1) | (leave1; walk_say "STEP leave1"; try dsimp only) | fail "no step"))
  refine len_PL (hl.keeps F.keep) (by omega) fun t tk => ?_
  by_cases h64 : ps.length ≤ 64
  · have hc : ((ps.length : Int) ≤ 64) := by omega
    k_steps
    all_goals first | (exfalso; omega) | skip
    show Q (.ref l) _
    exact ret _ _ _ F.keep (.inl rfl) (by unfold keptR; rw [if_pos h64]; exact hl.keeps F.keep)
  · have hc : ¬ ((ps.length : Int) ≤ 64) := by omega
    obtain ⟨p, hp⟩ : ∃ p, ps[63]? = some p := ⟨_, List.getElem?_eq_getElem (by omega)⟩
    repeat' ((fail_if_success (with_reducible show wpAny _ _ (subscriptTail _ _ (Value.ref _) _) _ _ _)); (first | (k_unfold; (try dsimp only)) | (k_end; wrow_close) | walk1 | (dsimp only; walk1) | (leave1; walk_say "STEP leave1"; try dsimp only) | fail "no step"))
    all_goals first | (exfalso; omega) | skip
    refine item_PL (hl.keeps F.keep) (by decide) (by decide) hp fun a x y ht => ?_
    k_steps
    refine spec_prune (s := { s with heap := h₁, toks := _ }) (X.keeps F.keep) (T.keeps F.keep) (hl.keeps F.keep) hlen (by show dp + 1 + 8 < _; omega) fun D h' tk' k nf hD => ?_
    have F2 : Fr s.heap L h' _ := F.after k
    k_steps
    refine ret _ _ _ F2.keep (.inr ?_) (by unfold keptR; rw [if_neg h64, List.getD_eq_getElem?_getD, hp]; exact hD)
    cases e : s.heap.get? D with
    | none => rfl
    | some o => have := F.keep _ _ e; rw [nf] at this; cases this

set_option maxHeartbeats 4000000 in
theorem spec_ack (X : (heapK w.params).In s.heap) (T : Top viewK (looseW viewK []) mean mg mb s.heap) {l : Addr} {ps : List (Int × Int)} {t : Tok} (hl : PL s.heap l ps) (hlen : ps.length ≤ 400)
    (hdp : dp + 10 < recursionLimit) (hun : un + 200 < cLine)
    (ret : ∀ D h' tk', Kp s.heap h' → s.heap.get? D = none → PL h' D (ps.take 32) → Q (.ref D) { s with heap := h', toks := tk' }) :
    wpAny (model PySem.Challenge.rw_pf0261_02.row.prog w) (Ar dp un fr gd) (call (.ref 47) [.ref l, .int 32 t]) Q E s := by
  refine enterP [(Str.ofString "ranges", .ref l), (Str.ofString "most", .int 32 t)] X T (by k_is) (by k_is) (by omega) (BindsTo.of_eq rfl) (locs rfl) ?_ rfl rfl rfl (by decide)
  intro L h₁ m F hm N
  subst hm
  (try k_fold)
  repeat' ((fail_if_success (with_reducible show wpAny _ _ (subscriptTail _ _ (Value.ref _) _) _ _ _)); (first | (k_unfold; (try dsimp only)) | (k_end; wrow_close) | walk1 | (dsimp only; walk1) | (leave1; walk_say "STEP leave1"; try dsimp only) | fail "no step"))
  obtain ⟨vs, hvs, hps⟩ := hl
  have hvl := hps.length
  refine slice_L F N (hvs.at fun o e => F.keep _ _ e) (by omega) (by decide) (fun D h' F2 N2 l1 => ?_) (by with_unfolding_all rfl) (by intro _; with_unfolding_all rfl)
  clear F N
  k_steps
  rename Fr _ _ _ _ => F3
  rename News _ _ _ _ => N3
  exact ret _ _ _ F3.keep (N3 _ (.head _)).2.2 ⟨_, ⟨_, (N3 _ (.head _)).1, rfl, _, rfl⟩, (hps.take _).keeps F3.keep⟩

set_option maxHeartbeats 4000000 in
theorem spec_add (X : (heapK w.params).In s.heap) (T : Top viewK (looseW viewK []) mean mg mb s.heap) {l : Addr} {n : Int} {t : Tok} {ps : List (Int × Int)} (hl : PL s.heap l ps) (hlen : ps.length ≤ 200)
    (hdp : dp + 20 < recursionLimit) (hun : un + 300 < cLine)
    (ret : ∀ D h' tk', Kp s.heap h' → s.heap.get? D = none → PL h' D (addRange ps n n) → Q (.ref D) { s with heap := h', toks := tk' }) :
    wpAny (model PySem.Challenge.rw_pf0261_02.row.prog w) (Ar dp un fr gd) (call (.ref 28) [.ref l, .int n t]) Q E s := by
  refine enterP [(Str.ofString "ranges", .ref l), (Str.ofString "n", .int n t)] X T (by k_is) (by k_is) (by omega) (BindsTo.of_eq rfl) (locs rfl) ?_ rfl rfl rfl (by decide)
  intro L h₁ m F hm N
  subst hm
  (try k_fold)
  k_steps
  refine spec_add_range (s := { s with heap := h₁, toks := _ }) (X.keeps F.keep) (T.keeps F.keep) (hl.keeps F.keep) hlen (by show dp + 1 + 8 < _; omega) (by show un + 3 + 200 < _; omega) fun D h' tk' k nf hD => ?_
  have F2 : Fr s.heap L h' _ := F.after k
  k_steps
  refine ret _ _ _ F2.keep ?_ hD
  cases e : s.heap.get? D with
  | none => rfl
  | some o => have := F.keep _ _ e; rw [nf] at this; cases this
end

/-- the ranges that the law itself makes of numbers, the newest first -/
def lrF (f : List (Int × Int)) (n : Int) : List (Int × Int) :=
  if f ≠ [] ∧ (f.getLastD (0, 0)).1 = n + 1 then f.dropLast ++ [(n, (f.getLastD (0, 0)).2)] else f ++ [(n, n)]

def LRJ (h₀ : Heap) (L D3 : Addr) (ns : List Int) (i : Nat) (m : Str → Option Value) (nx : List (Addr × Obj)) : Prop :=
  ∃ (D : Addr) (vs' : List Value) (n : Nat) (tl : List (Addr × Obj)),
    nx = (D, PySem.W.listOf vs'.toArray n) :: tl ∧ m (Str.ofString "found") = some (.ref D) ∧ vs'.length ≤ i ∧ D3 ≠ D ∧ (∀ p ∈ tl, p.1 ≠ D) ∧ ∀ h, Kp h₀ h → News h₀ L h tl → PVs h vs' ((ns.take i).foldl lrF [])

theorem lr_end {h₀ h' : Heap} {L D T D3 : Addr} {o3 oT : Obj} {m' : Str → Option Value} {own news' tl : List (Addr × Obj)} {s₁ : Shared} {tk : Nat} {ns : List Int} {i n : Nat} {vs' vs₁ : List Value} {n₁ : Nat}
    (F : Fr h₀ L h' m') (N : News h₀ L h' news') (e1 : m' (Str.ofString "found") = some (.ref D)) (hl : vs'.length ≤ i + 1) (hD : ∀ p ∈ tl, p.1 ≠ D)
    (ho : ∀ h, Kp h₀ h → News h₀ L h ((T, oT) :: tl) → PVs h vs' ((ns.take (i + 1)).foldl lrF [])) (hin : (D3, o3) ∈ (D, PySem.W.listOf vs₁.toArray n₁) :: tl) (sT : (T, oT) ∈ news') (sD : (D, PySem.W.listOf vs'.toArray n) ∈ news') (st : ∀ p ∈ tl ++ own, p ∈ news')
    (gD : D < T) (gt : ∀ p ∈ tl ++ own, p.1 < T) (h3 : D3 ≠ D) (off : ∀ q ∈ own, q.1 ≠ D ∧ ∀ p ∈ tl, q.1 ≠ p.1) :
    InvEndG h₀ L (fun m' nx => (D3, o3) ∈ nx ∧ LRJ h₀ L D3 ns (i + 1) m' nx) own s₁ { s₁ with heap := h', toks := tk } := by
  refine InvEndG.intro (nx := (D, PySem.W.listOf vs'.toArray n) :: (T, oT) :: tl) F N ⟨?_, D, vs', n, _, rfl, e1, hl, h3, List.forall_mem_cons.mpr ⟨Nat.ne_of_gt gD, hD⟩, ho⟩ ?_ ?_ (fun p hp => st p (List.mem_append.mpr (.inr hp)))
  · rcases List.mem_cons.mp hin with h | h
    · cases h; exact absurd rfl h3
    · exact .tail _ (.tail _ h)
  · intro q hq b hb
    simp only [List.map_cons, List.mem_cons, List.mem_map] at hb
    rcases hb with rfl | rfl | ⟨p, hp, rfl⟩
    · exact (off q hq).1
    · exact Nat.ne_of_lt (gt q (List.mem_append.mpr (.inr hq)))
    · exact (off q hq).2 p hp
  · exact List.forall_mem_cons.mpr ⟨sD, List.forall_mem_cons.mpr ⟨sT, fun p hp => st p (List.mem_append.mpr (.inl hp))⟩⟩

theorem PVs.unsnoc {h : Heap} {vs : List Value} {g : List (Int × Int)} {q : Int × Int} (x : PVs h vs (g ++ [q])) : ∃ ws v, vs = ws ++ [v] ∧ ws.length = g.length := by
  have hl := x.length
  rcases List.eq_nil_or_concat vs with rfl | ⟨ws, v, rfl⟩
  · simp at hl
  · exact ⟨ws, v, by simp, by simpa using hl⟩
theorem PVs.left {h : Heap} {ws : List Value} {v : Value} {g : List (Int × Int)} {q : Int × Int} (x : PVs h (ws ++ [v]) (g ++ [q])) (e : ws.length = g.length) : PVs h ws g := by
  have y := x.take ws.length
  rwa [List.take_left, e, List.take_left] at y
theorem set_last {prog : Program} {w : World} {A : Around} {E : Value → Shared → Prop} {s : Shared} {h₀ : Heap} {L D : Addr} {m : Str → Option Value} {news rest : List (Addr × Obj)} {ws : List Value} {x v : Value} {n : Nat} {t : Tok} {Q : Unit → Shared → Prop}
    (F : Fr h₀ L s.heap m) (N : News h₀ L s.heap news) (hm : (D, PySem.W.listOf (ws ++ [x]).toArray n) ∈ news) (hr : ∀ p ∈ rest, p ∈ news ∧ p.1 ≠ D)
    (h : ∀ h', Fr h₀ L h' m → News h₀ L h' ((D, PySem.W.listOf (ws ++ [v]).toArray n) :: rest) → Q () { s with heap := h' }) : wpAny (model prog w) A (setItem (.ref D) (.int (-1) t) v) Q E s := by
  have z := N _ hm
  refine ki_setBack z.1 (by decide) (by simp; omega) (by decide) (h _ (F.change (Heap.SameBut.update ..) z.2.1 z.2.2) (ki_turn (pre := []) (post := rest) (its := (ws ++ [x]).toArray) (n := n) _ ?_ (List.forall_mem_nil _) (fun p hp => (hr p hp).2) ?_ ?_))
  · exact News.sub N (List.forall_mem_cons.mpr ⟨hm, fun p hp => (hr p hp).1⟩)
  · have e : ((-1 : Int) + ((ws ++ [x]).toArray.size : Int)).toNat = ws.length := by simp; omega
    show (ws ++ [x]).toArray.setIfInBounds _ v = _
    rw [e]
    apply Array.toList_inj.mp
    simp
  · simp

theorem ints_at : ∀ {vs : List Value} {ns : List Int}, IntsAre vs ns → ∀ {i : Nat} {v : Value}, vs[i]? = some v → ∃ k t, v = .int k t ∧ ns[i]? = some k
  | _, _, .nil, _, _, h => by cases h
  | _, _, .cons n t _, 0, _, h => by cases h; exact ⟨n, t, rfl, rfl⟩
  | _, _, .cons _ _ r, i + 1, _, h => ints_at r (i := i) h

section
variable {w : World} {mean : ExcName → Option Value} {mg mb : Str → Option Value} {dp un : Nat} {fr : Option (List Env)} {gd : Option (List Code)} {s : Shared} {Q E : Value → Shared → Prop}

local macro_rules | `(tactic| walk_at "subscriptTail") => `(tactic| (k_here; (with_reducible show wpAny _ _ (subscriptTail _ _ (Value.ref _) (Value.int _ _)) _ _ _); k_dflt (refine' item_tupleT ?t ?a ?b ?c ?d ?_; (case t => assumption); (case a => decide); (case b => decide); (case c => rfl); (case d => rfl); k_whole)))
local macro_rules | `(tactic| walk_at "subscriptTail Name Slice ref ref") => `(tactic| (k_here; refine Halt.out ?_))
local macro_rules | `(tactic| walk_at "compareOp NotEq ref ref") => `(tactic| (k_here; refine Halt.out ?_))
end

/-- the heap in which p is gone -/
def hid (h : Heap) (p : Addr) : Heap := h.update p fun o => { o with data := .freed }
theorem hid_ne {h : Heap} {p b : Addr} (e : b ≠ p) : (hid h p).get? b = h.get? b := (Heap.SameBut.update h p _).2 b e
theorem hid_self {h : Heap} {p : Addr} : (hid h p).get? p = none := by
  unfold hid Heap.update Heap.get?
  obtain ⟨objs, l⟩ := h
  dsimp only
  rw [Array.getElem?_modify]
  simp only [if_true]
  cases objs[p]? <;> rfl
theorem hid_size {h : Heap} {p : Addr} : (hid h p).objs.size = h.objs.size := (Heap.SameBut.update h p _).1
theorem hid_keeps {h : Heap} {p : Addr} : Kp (hid h p) h := fun b o e => by
  by_cases hb : b = p
  · subst hb; rw [hid_self] at e; cases e
  · rwa [hid_ne hb] at e
theorem hid_of {h₀ h : Heap} {p : Addr} (k : Kp h₀ h) (e : h₀.get? p = none) : Kp h₀ (hid h p) := fun b o x => by
  rw [hid_ne (by rintro rfl; rw [e] at x; cases x)]
  exact k b o x

section
variable {w : World} {mean : ExcName → Option Value} {mg mb : Str → Option Value} {dp un : Nat} {fr : Option (List Env)} {gd : Option (List Code)} {s : Shared} {Q E : Value → Shared → Prop} {prog : Program} {p : Program} {loose : List Str}

theorem enterB {K : Frag} {name qual : Str} {params : Arguments} {body : List Stmt} {scope : Scope} {dV kV doc pm cdv ct oc : Value} {an od : Option Addr} {osl : Array (Option Value)} {f : Addr} {args : List Value} (g : Heap) (led : List (Addr × Obj)) (binds : List (Str × Value))
    (X : K.In g) (T : Top p loose mean mg mb g) (kg : Kp g s.heap) (hsz : g.objs.size ≤ s.heap.objs.size) (hled : ∀ p ∈ led, s.heap.get? p.1 = some p.2 ∧ g.get? p.1 = none)
    (ho : K.lookup f = some ⟨oc, od, .func (fnOf name qual params body scope dV kV doc pm an cdv ct), osl⟩) (hcd : codeIn K cdv qual = true) (hroom : dp < recursionLimit)
    (hbind : BindsTo s (fnOf name qual params body scope dV kV doc pm an cdv ct) ⟨args, []⟩ binds) (hloc : ∀ y ∈ binds, scope.names.lookup y.1 = some .local)
    (h : ∀ L h₁ m, Fr g L h₁ m → m = (fun y => binds.reverse.lookup y) → News g L h₁ led → Kp s.heap h₁ →
      wpAny (model prog w) ((Ar dp un fr gd).deeper (envOf qual scope L f cdv)) (execs body (envOf qual scope L f cdv))
        (fun fl s' => Q (match fl with | .ret v => v | _ => .none) s') (fun _ _ => False) { s with heap := h₁, toks := s.toks + binds.length })
    (hco : scope.isCoroutine = false) (hgen : scope.isGenerator = false) (hk : scope.kind = .function) (hcell : ∀ x ∈ scope.names, x.2 ≠ .cell) :
    wpAny (model prog w) (Ar dp un fr gd) (call (.ref f) args) Q E s := by
  refine enterP binds (X.keeps kg) (T.keeps kg) ho hcd hroom hbind hloc (fun L h₁ m F hm N => ?_) hco hgen hk hcell
  have fr : ∀ q ∈ led, q.1 ≠ L := fun q hq e => absurd (Nat.lt_of_lt_of_le (Heap.lt_size (hled q hq).1) F.above) (e ▸ Nat.lt_irrefl _)
  exact h L h₁ m ⟨F.ns, fun b o e => F.keep b o (kg b o e), Nat.le_trans hsz F.above⟩ hm (fun q hq => ⟨F.keep _ _ (hled q hq).1, fr q hq, (hled q hq).2⟩) F.keep

end

theorem fr_mut {h₀ h h' : Heap} {L P : Addr} {m : Str → Option Value} (F : Fr h₀ L h m) (hL : L ≠ P) (h0 : h₀.get? P = none) (k : ∀ b o, b ≠ P → h.get? b = some o → h'.get? b = some o) : Fr h₀ L h' m := by
  refine ⟨?_, fun b o e => k b o (by rintro rfl; rw [h0] at e; cases e) (F.keep b o e), F.above⟩
  obtain ⟨oL, a1, a2, hoL, a3⟩ := F.ns
  exact ⟨oL, a1, a2, k _ _ hL hoL, a3⟩
theorem news_mut {h₀ h h' : Heap} {L P : Addr} {o o' : Obj} {rest : List (Addr × Obj)} (N : News h₀ L h ((P, o) :: rest)) (hr : ∀ p ∈ rest, p.1 ≠ P) (k : ∀ b o, b ≠ P → h.get? b = some o → h'.get? b = some o) (e : h'.get? P = some o') : News h₀ L h' ((P, o') :: rest) := by
  intro p hp
  rcases List.mem_cons.mp hp with rfl | hp
  · exact ⟨e, (N _ (.head _)).2⟩
  · exact ⟨k _ _ (hr p hp) (N p (.tail _ hp)).1, (N p (.tail _ hp)).2⟩
/-- one entry anywhere in the ledger takes another value -/
theorem news_set1 {h₀ h h' : Heap} {L P : Addr} {o o' : Obj} {pre post : List (Addr × Obj)} (N : News h₀ L h (pre ++ (P, o) :: post)) (h1 : ∀ p ∈ pre, p.1 ≠ P) (h2 : ∀ p ∈ post, p.1 ≠ P) (k : ∀ b o, b ≠ P → h.get? b = some o → h'.get? b = some o) (e : h'.get? P = some o') : News h₀ L h' (pre ++ (P, o') :: post) := by
  intro p hp
  rcases List.mem_append.mp hp with hp | hp
  · exact ⟨k _ _ (h1 p hp) (N p (List.mem_append.mpr (.inl hp))).1, (N p (List.mem_append.mpr (.inl hp))).2⟩
  · rcases List.mem_cons.mp hp with rfl | hp
    · exact ⟨e, (N _ (List.mem_append.mpr (.inr (.head _)))).2⟩
    · exact ⟨k _ _ (h2 p hp) (N p (List.mem_append.mpr (.inr (.tail _ hp)))).1, (N p (List.mem_append.mpr (.inr (.tail _ hp)))).2⟩

theorem News.app {h₀ h : Heap} {L : Addr} {a b : List (Addr × Obj)} (x : News h₀ L h a) (y : News h₀ L h b) : News h₀ L h (a ++ b) := fun p hp => (List.mem_append.mp hp).elim (x p) (y p)
theorem News.lft {h₀ h : Heap} {L : Addr} {a b : List (Addr × Obj)} (x : News h₀ L h (a ++ b)) : News h₀ L h a := fun p hp => x p (List.mem_append.mpr (.inl hp))
theorem News.rgt {h₀ h : Heap} {L : Addr} {a b : List (Addr × Obj)} (x : News h₀ L h (a ++ b)) : News h₀ L h b := fun p hp => x p (List.mem_append.mpr (.inr hp))

theorem one_led {h₀ h : Heap} {L a : Addr} {m : Str → Option Value} {o : Obj} (F : Fr h₀ L h m) (e : h.get? a = some o) (hs : ∃ v n, o.data = .seq v n) : ∃ es, News h₀ L h es ∧ (∀ p ∈ es, p = (a, o)) ∧ ∀ h', Kp h₀ h' → News h₀ L h' es → h'.get? a = some o := by
  cases h0 : h₀.get? a with
  | none =>
    refine ⟨[(a, o)], ?_, fun p hp => List.mem_singleton.mp hp, fun h' _ N => (N _ (.head _)).1⟩
    intro p hp
    cases List.mem_singleton.mp hp
    refine ⟨e, ?_, h0⟩
    rintro rfl
    obtain ⟨oL, b, c, hL, hd, _⟩ := F.ns
    obtain ⟨v, n, hs⟩ := hs
    rw [e] at hL
    cases hL
    rw [hs] at hd
    cases hd
  | some o' =>
    refine ⟨[], News.nil, fun p hp => (by cases hp), fun h' k _ => ?_⟩
    have := F.keep _ _ h0
    rw [e] at this
    cases this
    exact k _ _ h0
theorem PV.led {h₀ h : Heap} {L : Addr} {m : Str → Option Value} {v : Value} {p : Int × Int} (x : PV h v p) (F : Fr h₀ L h m) : ∃ es, News h₀ L h es ∧ (∀ e ∈ es, e.2.cls = .type "tuple") ∧ ∀ h', Kp h₀ h' → News h₀ L h' es → PV h' v p := by
  obtain ⟨a, t, u, rfl, o, ho, hc, n, hd⟩ := x
  obtain ⟨es, N, he, c⟩ := one_led F ho ⟨_, _, hd⟩
  exact ⟨es, N, fun e h => by rw [he e h]; exact hc, fun h' k N' => ⟨a, t, u, rfl, o, c h' k N', hc, n, hd⟩⟩
theorem PVs.led {h₀ h : Heap} {L : Addr} {m : Str → Option Value} {vs : List Value} {ps : List (Int × Int)} (x : PVs h vs ps) (F : Fr h₀ L h m) : ∃ es, News h₀ L h es ∧ (∀ e ∈ es, e.2.cls = .type "tuple") ∧ ∀ h', Kp h₀ h' → News h₀ L h' es → PVs h' vs ps := by
  induction x with
  | nil => exact ⟨[], News.nil, fun e h => (by cases h), fun _ _ _ => .nil⟩
  | cons a _ ih =>
    obtain ⟨e1, N1, c1, f1⟩ := a.led F
    obtain ⟨e2, N2, c2, f2⟩ := ih
    exact ⟨e1 ++ e2, News.app N1 N2, fun e h => (List.mem_append.mp h).elim (c1 e) (c2 e), fun h' k N => .cons (f1 h' k (News.lft N)) (f2 h' k (News.rgt N))⟩
/-- a list of pairs as entries of the ledger -/
theorem PL.led {h₀ h : Heap} {L l : Addr} {m : Str → Option Value} {ps : List (Int × Int)} (x : PL h l ps) (F : Fr h₀ L h m) :
    ∃ es, News h₀ L h es ∧ (∀ e ∈ es, e.2.cls = .type "tuple" ∨ (e.1 = l ∧ e.2.cls = .type "list")) ∧ ∀ h', Kp h₀ h' → News h₀ L h' es → PL h' l ps := by
  obtain ⟨vs, ⟨o, ho, hc, n, hd⟩, p⟩ := x
  obtain ⟨e1, N1, c1, f1⟩ := one_led F ho ⟨_, _, hd⟩
  obtain ⟨e2, N2, c2, f2⟩ := p.led F
  refine ⟨e1 ++ e2, News.app N1 N2, fun e h => ?_, fun h' k N => ⟨vs, ⟨o, f1 h' k (News.lft N), hc, n, hd⟩, f2 h' k (News.rgt N)⟩⟩
  rcases List.mem_append.mp h with h | h
  · rw [c1 e h]; exact .inr ⟨rfl, hc⟩
  · exact .inl (c2 e h)
theorem off_cls {h₀ h : Heap} {L l d : Addr} {o : Obj} {es : List (Addr × Obj)} (N : News h₀ L h es) (he : ∀ e ∈ es, e.2.cls = .type "tuple" ∨ (e.1 = l ∧ e.2.cls = .type "list")) (hd : h.get? d = some o) (h1 : o.cls ≠ .type "tuple") (h2 : o.cls ≠ .type "list") : ∀ e ∈ es, e.1 ≠ d := by
  rintro e hm rfl
  have := (N e hm).1
  rw [hd] at this
  cases this
  rcases he e hm with h | h
  · exact h1 h
  · exact h2 h.2
/-- as off_cls, for another list -/
theorem off_list {h₀ h : Heap} {L l d : Addr} {o : Obj} {es : List (Addr × Obj)} (N : News h₀ L h es) (he : ∀ e ∈ es, e.2.cls = .type "tuple" ∨ (e.1 = l ∧ e.2.cls = .type "list")) (hd : h.get? d = some o) (h1 : o.cls ≠ .type "tuple") (h2 : l ≠ d) : ∀ e ∈ es, e.1 ≠ d := by
  rintro e hm rfl
  have := (N e hm).1
  rw [hd] at this
  cases this
  rcases he e hm with h | h
  · exact h1 h
  · exact h2 h.1.symm
/-- the attributes of a space -/
def spD (P : Params) (t : Nat → Tok) (nm nn sn la ac le lo rc ls lt fl fu ua wn hn ec ig : Value) : Obj := dictOf [
  ⟨PyData.keyHash P (Str.ofString "name"), .str (Str.ofString "name") (t 0), nm⟩,
  ⟨PyData.keyHash P (Str.ofString "next_number"), .str (Str.ofString "next_number") (t 1), nn⟩,
  ⟨PyData.keyHash P (Str.ofString "sent"), .str (Str.ofString "sent") (t 2), sn⟩,
  ⟨PyData.keyHash P (Str.ofString "largest_acked"), .str (Str.ofString "largest_acked") (t 3), la⟩,
  ⟨PyData.keyHash P (Str.ofString "acked"), .str (Str.ofString "acked") (t 4), ac⟩,
  ⟨PyData.keyHash P (Str.ofString "last_eliciting_time"), .str (Str.ofString "last_eliciting_time") (t 5), le⟩,
  ⟨PyData.keyHash P (Str.ofString "loss_time"), .str (Str.ofString "loss_time") (t 6), lo⟩,
  ⟨PyData.keyHash P (Str.ofString "received"), .str (Str.ofString "received") (t 7), rc⟩,
  ⟨PyData.keyHash P (Str.ofString "largest_seen"), .str (Str.ofString "largest_seen") (t 8), ls⟩,
  ⟨PyData.keyHash P (Str.ofString "largest_time"), .str (Str.ofString "largest_time") (t 9), lt⟩,
  ⟨PyData.keyHash P (Str.ofString "floor"), .str (Str.ofString "floor") (t 10), fl⟩,
  ⟨PyData.keyHash P (Str.ofString "first_unacked"), .str (Str.ofString "first_unacked") (t 11), fu⟩,
  ⟨PyData.keyHash P (Str.ofString "unacked"), .str (Str.ofString "unacked") (t 12), ua⟩,
  ⟨PyData.keyHash P (Str.ofString "wants_now"), .str (Str.ofString "wants_now") (t 13), wn⟩,
  ⟨PyData.keyHash P (Str.ofString "has_new"), .str (Str.ofString "has_new") (t 14), hn⟩,
  ⟨PyData.keyHash P (Str.ofString "ecn"), .str (Str.ofString "ecn") (t 15), ec⟩,
  ⟨PyData.keyHash P (Str.ofString "is_gone"), .str (Str.ofString "is_gone") (t 16), ig⟩] 17

theorem PV.hid {h : Heap} {x : Addr} {o : Obj} {v : Value} {p : Int × Int} (e : PV h v p) (hx : h.get? x = some o) (hc : o.cls ≠ .type "tuple") : PV (hid h x) v p := by
  obtain ⟨a, t, u, rfl, o', ho, hc', r⟩ := e
  refine ⟨a, t, u, rfl, o', ?_, hc', r⟩
  rw [hid_ne]
  · exact ho
  · rintro rfl; rw [hx] at ho; cases ho; exact hc hc'
theorem PVs.hid {h : Heap} {x : Addr} {o : Obj} {vs : List Value} {ps : List (Int × Int)} (e : PVs h vs ps) (hx : h.get? x = some o) (hc : o.cls ≠ .type "tuple") : PVs (hid h x) vs ps := by
  induction e with
  | nil => exact .nil
  | cons a _ ih => exact .cons (a.hid hx hc) ih
theorem PL.hid {h : Heap} {x l : Addr} {o : Obj} {ps : List (Int × Int)} (e : PL h l ps) (hx : h.get? x = some o) (hc : o.cls ≠ .type "tuple") (hc2 : o.cls ≠ .type "list") : PL (hid h x) l ps := by
  obtain ⟨vs, ⟨o', ho, hc', r⟩, p⟩ := e
  refine ⟨vs, ⟨o', ?_, hc', r⟩, p.hid hx hc⟩
  rw [hid_ne]
  · exact ho
  · rintro rfl; rw [hx] at ho; cases ho; exact hc2 hc'

def knownR (f : Int) (ps : List (Int × Int)) (k : Int) : Bool := decide (k < f) || (decide (64 ≤ ps.length) && decide (k < (ps.getLastD (0, 0)).1)) || hasN ps k

section
variable {w : World} {mean : ExcName → Option Value} {mg mb : Str → Option Value} {dp un : Nat} {fr : Option (List Env)} {gd : Option (List Code)} {s : Shared} {Q E : Value → Shared → Prop}

/-- the two cells of a space hidden -/
theorem two_hid {h₀ h : Heap} {x d : Addr} {ox od : Obj} (k0 : Kp h₀ h) (hx0 : h₀.get? x = none) (hd0 : h₀.get? d = none) (hx : h.get? x = some ox) (hD : h.get? d = some od) (hxd : x ≠ d) :
    Kp h₀ (hid (hid h x) d) ∧ Kp (hid (hid h x) d) h ∧ (hid (hid h x) d).objs.size ≤ h.objs.size ∧ (∀ p ∈ [(x, ox), (d, od)], h.get? p.1 = some p.2 ∧ (hid (hid h x) d).get? p.1 = none) ∧ (hid h x).get? d = some od := by
  have e1 : (hid h x).get? d = some od := by rw [hid_ne (Ne.symm hxd)]; exact hD
  refine ⟨hid_of (hid_of k0 hx0) hd0, fun b o e => hid_keeps b o (hid_keeps b o e), Nat.le_of_eq (by rw [hid_size, hid_size]), ?_, e1⟩
  intro p hp
  simp only [List.mem_cons, List.not_mem_nil, or_false] at hp
  rcases hp with rfl | rfl
  · exact ⟨hx, by rw [hid_ne hxd]; exact hid_self⟩
  · exact ⟨hD, hid_self⟩
theorem two_back {h h' : Heap} {x d : Addr} {ox od : Obj} (k : Kp (hid (hid h x) d) h') (hx : h.get? x = some ox) (hx' : h'.get? x = some ox) (hD : h.get? d = some od) (hD' : h'.get? d = some od) : Kp h h' := fun b o e => by
  by_cases h1 : b = d
  · subst h1; rw [hD] at e; cases e; exact hD'
  · by_cases h2 : b = x
    · subst h2; rw [hx] at e; cases e; exact hx'
    · exact k b o (by rw [hid_ne h1, hid_ne h2]; exact e)

local macro_rules | `(tactic| walk_at "subscriptTail") => `(tactic| (k_here; (with_reducible show wpAny _ _ (subscriptTail _ _ (Value.ref _) (Value.int _ _)) _ _ _); k_dflt (refine' item_tupleT ?t ?a ?b ?c ?d ?_; (case t => assumption); (case a => decide); (case b => decide); (case c => rfl); (case d => rfl); k_whole)))
set_option maxHeartbeats 4000000 in
theorem spec_is_known {h₀ : Heap} {x d r : Addr} {ps : List (Int × Int)} {k f : Int} {tk tf : Tok} {t : Nat → Tok} {nm nn sn la ac le lo ls lt fu ua wn hn ec ig : Value}
    (X : (heapK w.params).In h₀) (T : Top viewK (looseW viewK []) mean mg mb h₀) (k0 : Kp h₀ s.heap) (hx0 : h₀.get? x = none) (hd0 : h₀.get? d = none) (hxd : x ≠ d)
    (hx : s.heap.get? x = some (instObj 196 d)) (hD : s.heap.get? d = some (spD w.params t nm nn sn la ac le lo (.ref r) ls lt (.int f tf) fu ua wn hn ec ig)) (hr : PL s.heap r ps) (hlen : ps.length ≤ 200)
    (hdp : dp + 20 < recursionLimit) (hun : un + 300 < cLine)
    (ret : ∀ h' tk', Kp s.heap h' → Q (.bool (knownR f ps k)) { s with heap := h', toks := tk' }) :
    wpAny (model PySem.Challenge.rw_pf0261_02.row.prog w) (Ar dp un fr gd) (call (.ref 74) [.ref x, .int k tk]) Q E s := by
  obtain ⟨kg, kb, ks, kl, e1⟩ := two_hid k0 hx0 hd0 hx hD hxd
  replace X := X.keeps kg
  replace T := T.keeps kg
  have hr2 := (hr.hid hx (by simp) (by simp)).hid e1 (by simp [spD]) (by simp [spD])
  refine enterB (hid (hid s.heap x) d) _ [(Str.ofString "self", .ref x), (Str.ofString "number", .int k tk)] X T kb ks kl (by k_is) (by k_is) (by omega) (BindsTo.of_eq rfl) (locs rfl) ?_ rfl rfl rfl (by decide)
  intro L h₁ m F hm N kh
  subst hm
  unfold spD at N
  (try dsimp only)
  (try k_fold)
  repeat' ((fail_if_success (with_reducible show wpAny _ _ (call (Value.builtin "len") _) _ _ _)); (first | (k_unfold; (try dsimp only)) | (k_end; wrow_close) | walk1 | (dsimp only; walk1) | (leave1; walk_say "STEP leave1"; try dsimp only) | fail "no step"))
  · rename (k < f) => g1
    rename Fr _ _ _ _ => F1
    rename News _ _ _ _ => N1
    show Q (.bool true) _
    have e : knownR f ps k = true := by unfold knownR; rw [decide_eq_true g1]; rfl
    rw [← e]
    exact ret _ _ (two_back F1.keep hx (N1 _ (.head _)).1 hD (N1 _ (.tail _ (.head _))).1)
  · rename (¬ k < f) => g1
    refine len_PL (hr2.keeps F.keep) (by omega) fun t tk => ?_
    by_cases h64 : 64 ≤ ps.length
    · have hc : ((64 : Int) ≤ ps.length) := by omega
      obtain ⟨p, hp⟩ : ∃ p, ps[ps.length - 1]? = some p := ⟨_, List.getElem?_eq_getElem (by omega)⟩
      have hlast : ps.getLastD (0, 0) = p := by rw [List.getLastD_eq_getLast?, List.getLast?_eq_getElem?, hp]; rfl
      repeat' ((fail_if_success (with_reducible show wpAny _ _ (subscriptTail _ _ (Value.ref _) _) _ _ _)); (first | (k_unfold; (try dsimp only)) | (k_end; wrow_close) | walk1 | (dsimp only; walk1) | (leave1; walk_say "STEP leave1"; try dsimp only) | fail "no step"))
      all_goals first | (exfalso; omega) | skip
      refine item_PL_last (hr2.keeps F.keep) rfl hp fun a x y ht => ?_
      k_steps
      · rename (k < p.1) => g2
        rename Fr _ _ _ _ => F1
        rename News _ _ _ _ => N1
        show Q (.bool true) _
        have e : knownR f ps k = true := by unfold knownR; rw [hlast, decide_eq_true h64, decide_eq_true g2]; simp
        rw [← e]
        exact ret _ _ (two_back F1.keep hx (N1 _ (.head _)).1 hD (N1 _ (.tail _ (.head _))).1)
      · rename (¬ k < p.1) => g2
        have e : knownR f ps k = hasN ps k := by unfold knownR; rw [hlast, decide_eq_false g1, decide_eq_false g2]; simp
        refine spec_has_number (s := { s with heap := _, toks := _ }) (X.keeps F.keep) (T.keeps F.keep) (hr2.keeps F.keep) (by omega) (by show dp + 1 + 8 < _; omega) fun h' tk' k3 => ?_
        have F2 : Fr _ L h' _ := F.after k3
        have N2 := News.grown N k3
        k_steps
        show Q (.bool (hasN ps k)) _
        rw [← e]
        exact ret _ _ (two_back F2.keep hx (N2 _ (.head _)).1 hD (N2 _ (.tail _ (.head _))).1)
    · have hc : ¬ ((64 : Int) ≤ ps.length) := by omega
      have e : knownR f ps k = hasN ps k := by unfold knownR; rw [decide_eq_false g1, decide_eq_false h64]; simp
      k_steps
      all_goals first | (exfalso; omega) | skip
      refine spec_has_number (s := { s with heap := _, toks := _ }) (X.keeps F.keep) (T.keeps F.keep) (hr2.keeps F.keep) (by omega) (by show dp + 1 + 8 < _; omega) fun h' tk' k3 => ?_
      have F2 : Fr _ L h' _ := F.after k3
      have N2 := News.grown N k3
      k_steps
      show Q (.bool (hasN ps k)) _
      rw [← e]
      exact ret _ _ (two_back F2.keep hx (N2 _ (.head _)).1 hD (N2 _ (.tail _ (.head _))).1)
end

def floorR (f : Int) (whole : List (Int × Int)) : Int := if 64 < whole.length then max f ((keptR whole).getLastD (0, 0)).1 else f
/-- what a space has seen: nothing yet, or some times -/
def Seen (ls lt fu : Value) : Prop := (ls = .none ∧ lt = .none ∧ fu = .none) ∨ ∃ a b c ta tb tc, ls = .int a ta ∧ lt = .int b tb ∧ fu = .int c tc

theorem two_back1 {h h' : Heap} {x d : Addr} {ox : Obj} (k : Kp (hid (hid h x) d) h') (hx : h.get? x = some ox) (hx' : h'.get? x = some ox) : ∀ b o, b ≠ d → h.get? b = some o → h'.get? b = some o := fun b o hb e => by
  by_cases h2 : b = x
  · subst h2; rw [hx] at e; cases e; exact hx'
  · exact k b o (by rw [hid_ne hb, hid_ne h2]; exact e)
theorem fresh_back {h h' : Heap} {D : Addr} (k : Kp h h') (e : h'.get? D = none) : h.get? D = none := by
  cases e2 : h.get? D with
  | none => rfl
  | some o => rw [k _ _ e2] at e; cases e
theorem swap2 {h₀ h : Heap} {L : Addr} {a b : Addr × Obj} (N : News h₀ L h [a, b]) : News h₀ L h [b, a] := News.sub N fun p hp => by
  simp only [List.mem_cons, List.not_mem_nil, or_false] at hp ⊢
  exact hp.symm
def bodyOf {K : Frag} {name qual : Str} {params : Arguments} {body : List Stmt} {scope : Scope} {dV kV doc pm cdv ct oc : Value} {an od : Option Addr} {osl : Array (Option Value)} {f : Addr}
    (_ : K.lookup f = some ⟨oc, od, .func (fnOf name qual params body scope dV kV doc pm an cdv ct), osl⟩) : List Stmt := body
def scopeOf {K : Frag} {name qual : Str} {params : Arguments} {body : List Stmt} {scope : Scope} {dV kV doc pm cdv ct oc : Value} {an od : Option Addr} {osl : Array (Option Value)} {f : Addr}
    (_ : K.lookup f = some ⟨oc, od, .func (fnOf name qual params body scope dV kV doc pm an cdv ct), osl⟩) : Scope := scope
set_option maxHeartbeats 4000000 in
noncomputable def orBody (P : Params) : List Stmt := bodyOf (K := heapK P) (f := 81) (by k_is)
set_option maxHeartbeats 4000000 in
noncomputable def orScope (P : Params) : Scope := scopeOf (K := heapK P) (f := 81) (by k_is)
noncomputable abbrev orEnv (P : Params) (L : Addr) (cd : Value) : Env := envOf (Str.ofString "Space.on_received") (orScope P) L 81 cd
/-- the end of a statement of on_received -/
def OE (h₀ : Heap) (L : Addr) (s : Shared) (Z : (Str → Option Value) → List (Addr × Obj) → Prop) (fl : Flow) (s' : Shared) : Prop :=
  fl = .next ∧ ∃ h' tk' m' nx', s' = { s with heap := h', toks := tk' } ∧ Fr h₀ L h' m' ∧ News h₀ L h' nx' ∧ Z m' nx'
theorem OE.intro {h₀ : Heap} {L : Addr} {nx : List (Addr × Obj)} {s : Shared} {Z : (Str → Option Value) → List (Addr × Obj) → Prop} {h' : Heap} {tk' : Nat} {m' : Str → Option Value} (F : Fr h₀ L h' m') (N : News h₀ L h' nx) (z : Z m' nx) :
    OE h₀ L s Z .next { s with heap := h', toks := tk' } := ⟨rfl, h', tk', m', nx, rfl, F, N, z⟩
/-- the names of on_received -/
def NM (x : Addr) (k now : Int) (tk tn t0 : Tok) (m : Str → Option Value) : Prop := m (Str.ofString "self") = some (.ref x) ∧ m (Str.ofString "number") = some (.int k tk) ∧ m (Str.ofString "now") = some (.int now tn) ∧ m (Str.ofString "has_eliciting") = some (.bool true) ∧ m (Str.ofString "mark") = some (.int 0 t0)

section
variable {w : World} {mean : ExcName → Option Value} {mg mb : Str → Option Value} {dp un : Nat} {fr : Option (List Env)} {gd : Option (List Code)} {s : Shared} {Q E : Value → Shared → Prop} {E2 : Value → Shared → Prop} {Q2 : Flow → Shared → Prop}
variable {g h : Heap} {L x d r : Addr} {cd : Value} {m : Str → Option Value} {es : List (Addr × Obj)} {ps W : List (Int × Int)} {k now f u : Int} {tk tn t0 tf tu tm : Tok} {t : Nat → Tok} {nn sn la ac le lo ls lt fu wn hn ec ig nm : Value} {tks : Nat} {b : Bool}

local macro_rules | `(tactic| walk_at "subscriptTail") => `(tactic| (k_here; (with_reducible show wpAny _ _ (subscriptTail _ _ (Value.ref _) (Value.int _ _)) _ _ _); k_dflt (refine' item_tupleT ?t ?a ?b ?c ?d ?_; (case t => assumption); (case a => decide); (case b => decide); (case c => rfl); (case d => rfl); k_whole)))
set_option maxHeartbeats 8000000 in
theorem or0 (X : (heapK w.params).In g) (T : Top viewK (looseW viewK []) mean mg mb g) (F : Fr g L h m) (hm : NM x k now tk tn t0 m) (hs : Seen ls lt fu)
    (N : News g L h ((d, spD w.params t nm nn sn la ac le lo (.ref r) ls lt (.int f tf) fu (.int u tu) wn hn ec ig) :: (x, instObj 196 d) :: es)) :
    wpAny (model PySem.Challenge.rw_pf0261_02.row.prog w) (Ar dp un fr gd) (exec (nthS 0 (orBody w.params)) (orEnv w.params L cd))
      (OE g L s fun m' nx' => NM x k now tk tn t0 m' ∧ (∃ b, m' (Str.ofString "is_gap") = some (.bool b)) ∧ nx' = (d, spD w.params t nm nn sn la ac le lo (.ref r) ls lt (.int f tf) fu (.int u tu) wn hn ec ig) :: (x, instObj 196 d) :: es) E2 { s with heap := h, toks := tks } := by
  obtain ⟨m1, m2, m3, m4, m5⟩ := hm
  have N0 := N
  unfold spD at N
  dsimp only [nthS, orBody, bodyOf, orEnv, orScope, scopeOf]
  (try k_fold)
  rcases hs with ⟨rfl, rfl, rfl⟩ | ⟨a, b, c, ta, tb, tc, rfl, rfl, rfl⟩
  all_goals k_steps
  all_goals (rename Fr _ _ _ _ => F1; rename News _ _ _ _ => N1; exact OE.intro F1 N1 ⟨⟨m1, m2, m3, m4, m5⟩, ⟨_, rfl⟩, rfl⟩)
set_option maxHeartbeats 8000000 in
theorem or1 (X : (heapK w.params).In g) (T : Top viewK (looseW viewK []) mean mg mb g) (hdp : dp + 40 < recursionLimit) (hun : un + 500 < cLine) (F : Fr g L h m) (hm : NM x k now tk tn t0 m) (hb : m (Str.ofString "is_gap") = some (.bool b)) (hr : PL g r ps) (hlen : ps.length ≤ 100)
    (N : News g L h [(d, spD w.params t nm nn sn la ac le lo (.ref r) ls lt (.int f tf) fu (.int u tu) wn hn ec ig), (x, instObj 196 d)]) :
    wpAny (model PySem.Challenge.rw_pf0261_02.row.prog w) (Ar dp un fr gd) (exec (nthS 1 (orBody w.params)) (orEnv w.params L cd))
      (OE g L s fun m' nx' => NM x k now tk tn t0 m' ∧ m' (Str.ofString "is_gap") = some (.bool b) ∧ ∃ D es, m' (Str.ofString "ranges") = some (.ref D) ∧ nx' = (d, spD w.params t nm nn sn la ac le lo (.ref r) ls lt (.int f tf) fu (.int u tu) wn hn ec ig) :: (x, instObj 196 d) :: es ∧
        (∀ p ∈ es, p.1 ≠ d) ∧ (∀ h', Kp g h' → News g L h' es → PL h' D (addRange ps k k)) ∧ g.get? D = none) E2 { s with heap := h, toks := tks } := by
  obtain ⟨m1, m2, m3, m4, m5⟩ := hm
  have N0 := N
  unfold spD at N
  dsimp only [nthS, orBody, bodyOf, orEnv, orScope, scopeOf]
  (try k_fold)
  k_steps
  refine spec_add (s := { s with heap := _, toks := _ }) (X.keeps F.keep) (T.keeps F.keep) (hr.keeps F.keep) (by omega) (by omega) (by omega) fun D2 h2 tk2 k2 nf2 hD2 => ?_
  have F2 : Fr _ L h2 _ := F.after k2
  have N2 := News.grown N0 k2
  dsimp only at k2 nf2 hD2
  replace nf2 := fresh_back F.keep nf2
  obtain ⟨es, Ne, ce, fe⟩ := hD2.led F2
  have off : ∀ e ∈ es, e.1 ≠ d := off_cls Ne ce (N2 _ (.head _)).1 (by simp [spD]) (by simp [spD])
  replace N2 := News.app N2 Ne
  clear F N N0 Ne hD2
  dsimp only [List.cons_append, List.nil_append] at N2
  k_steps
  rename Fr _ _ _ _ => F3
  rename News _ _ _ _ => N3
  exact OE.intro F3 N3 ⟨⟨m1, m2, m3, m4, m5⟩, hb, D2, es, rfl, rfl, off, fe, nf2⟩
set_option maxHeartbeats 8000000 in
theorem or2 (X : (heapK w.params).In g) (T : Top viewK (looseW viewK []) mean mg mb g) (hdp : dp + 40 < recursionLimit) (hun : un + 500 < cLine) (F : Fr g L h m) (hm : NM x k now tk tn t0 m) (hb : m (Str.ofString "is_gap") = some (.bool b)) {D : Addr} (hD : m (Str.ofString "ranges") = some (.ref D)) (hxd : x ≠ d)
    (N : News g L h ((d, spD w.params t nm nn sn la ac le lo (.ref r) ls lt (.int f tf) fu (.int u tu) wn hn ec ig) :: (x, instObj 196 d) :: es)) (off : ∀ p ∈ es, p.1 ≠ d) (fe : ∀ h', Kp g h' → News g L h' es → PL h' D W) (hlen2 : W.length ≤ 200) (nf : g.get? D = none) :
    wpAny (model PySem.Challenge.rw_pf0261_02.row.prog w) (Ar dp un fr gd) (exec (nthS 2 (orBody w.params)) (orEnv w.params L cd))
      (OE g L s fun m' nx' => NM x k now tk tn t0 m' ∧ m' (Str.ofString "is_gap") = some (.bool b) ∧ m' (Str.ofString "ranges") = some (.ref D) ∧ ∃ D2 es2, nx' = (d, spD w.params t nm nn sn la ac le lo (.ref D2) ls lt (.int f tf) fu (.int u tu) wn hn ec ig) :: (x, instObj 196 d) :: es2 ∧
        (∀ p ∈ es2, p.1 ≠ d) ∧ (∀ h', Kp g h' → News g L h' es2 → PL h' D W ∧ PL h' D2 (keptR W)) ∧ g.get? D2 = none) E2 { s with heap := h, toks := tks } := by
  obtain ⟨m1, m2, m3, m4, m5⟩ := hm
  have N0 := N
  unfold spD at N
  dsimp only [nthS, orBody, bodyOf, orEnv, orScope, scopeOf]
  (try k_fold)
  k_steps
  refine spec_kept (s := { s with heap := _, toks := _ }) (X.keeps F.keep) (T.keeps F.keep) (fe _ F.keep (News.tl (News.tl N0))) (by omega) (by omega) (by omega) fun D4 h4 tk4 k4 nf4 hD4 => ?_
  have F4 : Fr _ L h4 _ := F.after k4
  have N4 := News.grown N k4
  dsimp only at k4 nf4 hD4
  have nf5 : g.get? D4 = none := by
    rcases nf4 with rfl | nf4
    · exact nf
    · exact fresh_back F.keep nf4
  obtain ⟨es4, Ne4, ce4, fe4⟩ := hD4.led F4
  have off4 : ∀ e ∈ es4, e.1 ≠ d := off_cls Ne4 ce4 (N4 _ (.head _)).1 (by simp) (by simp)
  replace N4 := News.app N4 Ne4
  clear F N N0 Ne4 hD4
  dsimp only [List.cons_append, List.nil_append] at N4
  have off5 : ∀ e ∈ (x, instObj 196 d) :: (es ++ es4), e.1 ≠ d := List.forall_mem_cons.mpr ⟨hxd, fun e h => (List.mem_append.mp h).elim (off e) (off4 e)⟩
  k_steps
  rename Fr _ _ _ _ => F5
  rename News _ _ _ _ => N5
  exact OE.intro F5 N5 ⟨⟨m1, m2, m3, m4, m5⟩, hb, hD, D4, es ++ es4, rfl, fun e h => (List.mem_append.mp h).elim (off e) (off4 e), fun h' k N => ⟨fe h' k (News.lft N), fe4 h' k (News.rgt N)⟩, nf5⟩
set_option maxHeartbeats 8000000 in
theorem or3 (X : (heapK w.params).In g) (T : Top viewK (looseW viewK []) mean mg mb g) (F : Fr g L h m) (hm : NM x k now tk tn t0 m) (hb : m (Str.ofString "is_gap") = some (.bool b)) {D : Addr} (hD : m (Str.ofString "ranges") = some (.ref D)) (hxd : x ≠ d)
    (N : News g L h ((d, spD w.params t nm nn sn la ac le lo (.ref r) ls lt (.int f tf) fu (.int u tu) wn hn ec ig) :: (x, instObj 196 d) :: es)) (off : ∀ p ∈ es, p.1 ≠ d) (fe : ∀ h', Kp g h' → News g L h' es → PL h' D W ∧ PL h' r (keptR W)) (hlen2 : W.length ≤ 200) (hne : 64 < W.length → keptR W ≠ []) :
    wpAny (model PySem.Challenge.rw_pf0261_02.row.prog w) (Ar dp un fr gd) (exec (nthS 3 (orBody w.params)) (orEnv w.params L cd))
      (OE g L s fun m' nx' => NM x k now tk tn t0 m' ∧ m' (Str.ofString "is_gap") = some (.bool b) ∧ ∃ tf', nx' = (d, spD w.params t nm nn sn la ac le lo (.ref r) ls lt (.int (floorR f W) tf') fu (.int u tu) wn hn ec ig) :: (x, instObj 196 d) :: es) E2 { s with heap := h, toks := tks } := by
  obtain ⟨m1, m2, m3, m4, m5⟩ := hm
  have N0 := N
  have off5 : ∀ e ∈ (x, instObj 196 d) :: es, e.1 ≠ d := List.forall_mem_cons.mpr ⟨hxd, off⟩
  unfold spD at N
  dsimp only [nthS, orBody, bodyOf, orEnv, orScope, scopeOf]
  (try k_fold)
  repeat' ((fail_if_success (with_reducible show wpAny _ _ (call (Value.builtin "len") _) _ _ _)); (first | (k_unfold; (try dsimp only)) | (k_end; wrow_close) | walk1 | (dsimp only; walk1) | (leave1; walk_say "STEP leave1"; try dsimp only) | fail "no step"))
  refine len_PL (fe _ F.keep (News.tl (News.tl N))).1 (by omega) fun t5 tk5 => ?_
  by_cases h64 : 64 < W.length
  · have hc : ((64 : Int) < W.length) := by omega
    obtain ⟨p, hp, hlast⟩ : ∃ p, (keptR W)[(keptR W).length - 1]? = some p ∧ (keptR W).getLastD (0, 0) = p := by
      have := List.length_pos_iff.mpr (hne h64)
      refine ⟨_, List.getElem?_eq_getElem (by omega), ?_⟩
      rw [List.getLastD_eq_getLast?, List.getLast?_eq_getElem?, List.getElem?_eq_getElem (by omega)]; rfl
    have hfl : floorR f W = (if p.1 > f then p.1 else f) := by unfold floorR; rw [if_pos h64, hlast]; split <;> omega
    rw [hfl]
    repeat' ((fail_if_success (with_reducible show wpAny _ _ (subscriptTail _ _ (Value.ref _) _) _ _ _)); (first | (k_unfold; (try dsimp only)) | (k_end; wrow_close) | walk1 | (dsimp only; walk1) | (leave1; walk_say "STEP leave1"; try dsimp only) | fail "no step"))
    all_goals first | (exfalso; omega) | skip
    refine item_PL_last (fe _ F.keep (News.tl (News.tl N))).2 rfl hp fun a9 x9 y9 ht => ?_
    k_steps
    all_goals (rename Fr _ _ _ _ => F6; rename News _ _ _ _ => N6; exact OE.intro (nx := (d, _) :: (x, instObj 196 d) :: es) F6 N6 ⟨⟨m1, m2, m3, m4, m5⟩, hb, _, rfl⟩)
  · have hc : ¬ ((64 : Int) < W.length) := by omega
    have hfl : floorR f W = f := by unfold floorR; rw [if_neg h64]
    rw [hfl]
    k_steps
    all_goals first | (exfalso; omega) | skip
    exact OE.intro F N0 ⟨⟨m1, m2, m3, m4, m5⟩, hb, _, rfl⟩
def dropS : Nat → List Stmt → List Stmt
  | 0, l => l
  | n + 1, _ :: r => dropS n r
  | _, [] => []
set_option maxHeartbeats 8000000 in
theorem or4 (X : (heapK w.params).In g) (T : Top viewK (looseW viewK []) mean mg mb g) (F : Fr g L h m) (hm : NM x k now tk tn t0 m) (hb : m (Str.ofString "is_gap") = some (.bool b)) (hs : Seen ls lt fu) (hxd : x ≠ d) {nmS : Str}
    (N : News g L h ((d, spD w.params t (.str nmS tm) nn sn la ac le lo (.ref r) ls lt (.int f tf) fu (.int u tu) wn hn ec ig) :: (x, instObj 196 d) :: es)) (off : ∀ p ∈ es, p.1 ≠ d)
    (ret : ∀ h' tk' m' ls' lt' fu' wn' hn' u' tu', Fr g L h' m' → News g L h' ((d, spD w.params t (.str nmS tm) nn sn la ac le lo (.ref r) ls' lt' (.int f tf) fu' (.int u' tu') wn' hn' ec ig) :: (x, instObj 196 d) :: es) → Seen ls' lt' fu' → Q2 .next { s with heap := h', toks := tk' }) :
    wpAny (model PySem.Challenge.rw_pf0261_02.row.prog w) (Ar dp un fr gd) (execs (dropS 4 (orBody w.params)) (orEnv w.params L cd)) Q2 E2 { s with heap := h, toks := tks } := by
  obtain ⟨m1, m2, m3, m4, m5⟩ := hm
  have off5 : ∀ e ∈ (x, instObj 196 d) :: es, e.1 ≠ d := List.forall_mem_cons.mpr ⟨hxd, off⟩
  unfold spD at N
  dsimp only [dropS, orBody, bodyOf, orEnv, orScope, scopeOf]
  (try k_fold)
  rcases hs with ⟨rfl, rfl, rfl⟩ | ⟨a, b, c, ta, tb, tc, rfl, rfl, rfl⟩
  all_goals k_steps
  all_goals (rename Fr _ _ _ _ => F6; rename News _ _ _ _ => N6; first | exact ret _ _ _ _ _ _ _ _ _ _ F6 N6 (.inr ⟨_, _, _, _, _, _, rfl, rfl, rfl⟩) | exact ret _ _ _ _ _ _ _ _ _ _ F6 (News.tl N6) (.inr ⟨_, _, _, _, _, _, rfl, rfl, rfl⟩))
theorem or_eq (P : Params) : orBody P = nthS 0 (orBody P) :: nthS 1 (orBody P) :: nthS 2 (orBody P) :: nthS 3 (orBody P) :: dropS 4 (orBody P) := rfl
set_option maxHeartbeats 8000000 in
theorem spec_on_received {h₀ : Heap} {nmS : Str}
    (X : (heapK w.params).In h₀) (T : Top viewK (looseW viewK []) mean mg mb h₀) (k0 : Kp h₀ s.heap) (hx0 : h₀.get? x = none) (hd0 : h₀.get? d = none) (hxd : x ≠ d)
    (hx : s.heap.get? x = some (instObj 196 d)) (hD : s.heap.get? d = some (spD w.params t (.str nmS tm) nn sn la ac le lo (.ref r) ls lt (.int f tf) fu (.int u tu) wn hn ec ig)) (hs : Seen ls lt fu) (hr : PL s.heap r ps) (hlen : ps.length ≤ 100)
    (hlen2 : (addRange ps k k).length ≤ 200) (hne : 64 < (addRange ps k k).length → keptR (addRange ps k k) ≠ [])
    (hdp : dp + 50 < recursionLimit) (hun : un + 600 < cLine)
    (ret : ∀ h' tk' r' ls' lt' fu' wn' hn' u' tf' tu', (∀ b o, b ≠ d → s.heap.get? b = some o → h'.get? b = some o) → s.heap.get? r' = none → PL h' r' (keptR (addRange ps k k)) → Seen ls' lt' fu' →
      h'.get? d = some (spD w.params t (.str nmS tm) nn sn la ac le lo (.ref r') ls' lt' (.int (floorR f (addRange ps k k)) tf') fu' (.int u' tu') wn' hn' ec ig) → Q .none { s with heap := h', toks := tk' }) :
    wpAny (model PySem.Challenge.rw_pf0261_02.row.prog w) (Ar dp un fr gd) (call (.ref 81) [.ref x, .int k tk, .int now tn, .bool true, .int 0 t0]) Q E s := by
  obtain ⟨kg, kb, ks, kl, e1⟩ := two_hid k0 hx0 hd0 hx hD hxd
  have hr2 := (hr.hid hx (by simp) (by simp)).hid e1 (by simp [spD]) (by simp [spD])
  have X2 := X.keeps kg
  have T2 := T.keeps kg
  refine enterB (hid (hid s.heap x) d) _ [(Str.ofString "self", .ref x), (Str.ofString "number", .int k tk), (Str.ofString "now", .int now tn), (Str.ofString "has_eliciting", .bool true), (Str.ofString "mark", .int 0 t0)] X2 T2 kb ks kl (by k_is) (by k_is) (by omega) (BindsTo.of_eq rfl) (locs rfl) ?_ rfl rfl rfl (by decide)
  intro L h₁ m F hm N kh
  subst hm
  replace N := swap2 N
  show wpAny _ _ (execs (orBody w.params) (orEnv w.params L _)) _ _ _
  have nfx : ∀ D, (hid (hid s.heap x) d).get? D = none → D ≠ x → D ≠ d → s.heap.get? D = none := fun D e n1 n2 => by rwa [hid_ne n2, hid_ne n1] at e
  rw [or_eq]
  refine wpAny_execs_cons (wpAny_mono (or0 X2 T2 F ⟨rfl, rfl, rfl, rfl, rfl⟩ hs N) (fun fl s1 z => ?_) fun _ _ e => e)
  obtain ⟨rfl, h1, tk1, m1, nx1, rfl, F1, N1, hm1, ⟨b, hb1⟩, rfl⟩ := z
  refine wpAny_execs_cons (wpAny_mono (or1 X2 T2 (by show dp + 1 + 40 < _; omega) (by show un + 3 + 500 < _; omega) F1 hm1 hb1 hr2 hlen N1) (fun fl s1 z => ?_) fun _ _ e => e)
  obtain ⟨rfl, h2, tk2, m2, nx2, rfl, F2, N2, hm2, hb2, D2, e2, hD2, rfl, off2, fe2, nf2⟩ := z
  refine wpAny_execs_cons (wpAny_mono (or2 X2 T2 (by show dp + 1 + 40 < _; omega) (by show un + 3 + 500 < _; omega) F2 hm2 hb2 hD2 hxd N2 off2 fe2 hlen2 nf2) (fun fl s1 z => ?_) fun _ _ e => e)
  obtain ⟨rfl, h3, tk3, m3, nx3, rfl, F3, N3, hm3, hb3, hD3, D4, e4, rfl, off4, fe4, nf4⟩ := z
  refine wpAny_execs_cons (wpAny_mono (or3 X2 T2 F3 hm3 hb3 hD3 hxd N3 off4 fe4 hlen2 hne) (fun fl s1 z => ?_) fun _ _ e => e)
  obtain ⟨rfl, h4, tk4, m4, nx4, rfl, F4, N4, hm4, hb4, tf', rfl⟩ := z
  refine or4 X2 T2 F4 hm4 hb4 hs hxd N4 off4 fun h5 tk5 m5 ls5 lt5 fu5 wn5 hn5 u5 tu5 F5 N5 hs5 => ?_
  have pl := (fe4 _ F5.keep (News.tl (News.tl N5))).2
  have n1 : D4 ≠ x := by
    rintro rfl
    obtain ⟨_, ⟨o, ho, hc, _⟩, _⟩ := pl
    rw [(N5 _ (.tail _ (.head _))).1] at ho; cases ho; simp at hc
  have n2 : D4 ≠ d := by
    rintro rfl
    obtain ⟨_, ⟨o, ho, hc, _⟩, _⟩ := pl
    rw [(N5 _ (.head _)).1] at ho; cases ho; simp [spD] at hc
  exact ret _ _ D4 _ _ _ _ _ _ _ _ (two_back1 F5.keep hx (N5 _ (.tail _ (.head _))).1) (nfx _ nf4 n1 n2) pl hs5 (N5 _ (.head _)).1
end

section
variable {w : World} {mean : ExcName → Option Value} {mg mb : Str → Option Value} {dp un : Nat} {fr : Option (List Env)} {gd : Option (List Code)} {s : Shared} {Q E : Value → Shared → Prop}

set_option maxHeartbeats 8000000 in
theorem spec_ack_frame {h₀ : Heap} {x d r e : Addr} {ps : List (Int × Int)} {t9 t3 e1 e2 e3 : Tok} {t : Nat → Tok} {nm nn sn la ac le lo ls lt fu fl ua wn hn ig : Value}
    (X : (heapK w.params).In h₀) (T : Top viewK (looseW viewK []) mean mg mb h₀) (k0 : Kp h₀ s.heap) (hx0 : h₀.get? x = none) (hd0 : h₀.get? d = none) (hxd : x ≠ d)
    (hx : s.heap.get? x = some (instObj 196 d)) (hD : s.heap.get? d = some (spD w.params t nm nn sn la ac le lo (.ref r) ls lt fl fu ua wn hn (.ref e) ig)) (hs : Seen ls lt fu) (hr : PL s.heap r ps) (hlen : ps.length ≤ 200) (hne : ps ≠ [])
    (hE : s.heap.IsList e #[.int 0 e1, .int 0 e2, .int 0 e3])
    (hdp : dp + 50 < recursionLimit) (hun : un + 600 < cLine)
    (ret : ∀ D a v0 v1 v3 h' tk', Kp s.heap h' → IsTup h' D #[v0, v1, .ref a, v3] → PL h' a (ps.take 32) → Q (.ref D) { s with heap := h', toks := tk' }) :
    wpAny (model PySem.Challenge.rw_pf0261_02.row.prog w) (Ar dp un fr gd) (call (.ref 88) [.ref x, .int 500 t9, .int 3 t3]) Q E s := by
  obtain ⟨kg, kb, ks, kl, e1'⟩ := two_hid k0 hx0 hd0 hx hD hxd
  replace X := X.keeps kg
  replace T := T.keeps kg
  have hr2 := (hr.hid hx (by simp) (by simp)).hid e1' (by simp [spD]) (by simp [spD])
  have hE2 : (hid (hid s.heap x) d).IsList e [Value.int 0 e1, .int 0 e2, .int 0 e3].toArray := by
    obtain ⟨o, ho, hc, n, hd⟩ := hE
    refine ⟨o, ?_, hc, n, hd⟩
    rw [hid_ne, hid_ne]
    · exact ho
    · rintro rfl; rw [hx] at ho; cases ho; simp at hc
    · rintro rfl; rw [hD] at ho; cases ho; simp [spD] at hc
  have hEi : IntsAre [Value.int 0 e1, .int 0 e2, .int 0 e3] [0, 0, 0] := .cons _ _ (.cons _ _ (.cons _ _ .nil))
  refine enterB (hid (hid s.heap x) d) _ [(Str.ofString "self", .ref x), (Str.ofString "now", .int 500 t9), (Str.ofString "exponent", .int 3 t3)] X T kb ks kl (by k_is) (by k_is) (by omega) (BindsTo.of_eq rfl) (locs rfl) ?_ rfl rfl rfl (by decide)
  intro L h₁ m F hm N kh
  subst hm
  replace N := swap2 N
  unfold spD at N
  (try dsimp only)
  (try k_fold)
  repeat' ((fail_if_success (with_reducible show wpAny _ _ (call (Value.builtin "len") _) _ _ _)); (first | (k_unfold; (try dsimp only)) | (k_end; wrow_close) | walk1 | (dsimp only; walk1) | (leave1; walk_say "STEP leave1"; try dsimp only) | fail "no step"))
  refine len_PL (hr2.keeps F.keep) (by omega) fun t5 tk5 => ?_
  have hc : ¬ ((ps.length : Int) = 0) := by have := List.length_pos_iff.mpr hne; omega
  rcases hs with ⟨rfl, rfl, rfl⟩ | ⟨a, b, c, ta, tb, tc, rfl, rfl, rfl⟩
  · k_steps
    all_goals first | (exfalso; omega) | skip
    all_goals (
      rename Fr _ _ _ _ => F1
      rename News _ _ _ _ => N1
      refine spec_ack (s := { s with heap := _, toks := _ }) (X.keeps F1.keep) (T.keeps F1.keep) (hr2.keeps F1.keep) (by omega) (by show dp + 1 + 10 < _; omega) (by show un + 3 + 200 < _; omega) fun D2 h2 tk2 k2 nf2 hD2 => ?_
      have F2 : Fr _ L h2 _ := F1.after k2
      have N2 := News.grown N1 k2
      dsimp only at k2 nf2 hD2
      obtain ⟨es, Ne, ce, fe⟩ := hD2.led F2
      replace N2 := News.app N2 Ne
      clear F1 N1 Ne hD2
      dsimp only [List.cons_append, List.nil_append] at N2
      k_steps
      rename Fr _ _ _ _ => F3
      rename News _ _ _ _ => N3
      refine ret _ D2 _ _ _ _ _ (two_back F3.keep hx (N3 (x, instObj 196 d) (by first | exact .tail _ (.head _) | exact .tail _ (.tail _ (.head _)))).1 hD ?_) (News.isTup N3 (.head _)) (fe _ F3.keep (News.sub N3 fun p hp => .tail _ (.tail _ (.tail _ hp))))
      exact (N3 _ (.tail _ (.head _))).1
    )
  · k_steps
    all_goals first | (exfalso; omega) | skip
    all_goals (
      rename Fr _ _ _ _ => F1
      rename News _ _ _ _ => N1
      refine spec_ack (s := { s with heap := _, toks := _ }) (X.keeps F1.keep) (T.keeps F1.keep) (hr2.keeps F1.keep) (by omega) (by show dp + 1 + 10 < _; omega) (by show un + 3 + 200 < _; omega) fun D2 h2 tk2 k2 nf2 hD2 => ?_
      have F2 : Fr _ L h2 _ := F1.after k2
      have N2 := News.grown N1 k2
      dsimp only at k2 nf2 hD2
      obtain ⟨es, Ne, ce, fe⟩ := hD2.led F2
      replace N2 := News.app N2 Ne
      clear F1 N1 Ne hD2
      dsimp only [List.cons_append, List.nil_append] at N2
      k_steps
      rename Fr _ _ _ _ => F3
      rename News _ _ _ _ => N3
      refine ret _ D2 _ _ _ _ _ (two_back F3.keep hx (N3 (x, instObj 196 d) (by first | exact .tail _ (.head _) | exact .tail _ (.tail _ (.head _)))).1 hD ?_) (News.isTup N3 (.head _)) (fe _ F3.keep (News.sub N3 fun p hp => .tail _ (.tail _ (.tail _ hp))))
      exact (N3 _ (.tail _ (.head _))).1
    )
set_option maxHeartbeats 8000000 in
theorem spec_ack_frame0 {h₀ : Heap} {x d r e : Addr} {ps : List (Int × Int)} {t9 t3 e1 e2 e3 : Tok} {t : Nat → Tok} {nm nn sn la ac le lo ls lt fu fl ua wn hn ig : Value}
    (X : (heapK w.params).In h₀) (T : Top viewK (looseW viewK []) mean mg mb h₀) (k0 : Kp h₀ s.heap) (hx0 : h₀.get? x = none) (hd0 : h₀.get? d = none) (hxd : x ≠ d)
    (hx : s.heap.get? x = some (instObj 196 d)) (hD : s.heap.get? d = some (spD w.params t nm nn sn la ac le lo (.ref r) ls lt fl fu ua wn hn (.ref e) ig)) (hs : Seen ls lt fu) (hr : PL s.heap r ps) (hlen : ps.length ≤ 200) (hne : ps ≠ [])
    (hE : s.heap.IsList e #[.int 0 e1, .int 0 e2, .int 0 e3])
    (hdp : dp + 50 < recursionLimit) (hun : un + 600 < cLine)
    (ret : ∀ D a v0 v1 v3 h' tk', Kp s.heap h' → IsTup h' D #[v0, v1, .ref a, v3] → PL h' a (ps.take 32) → Q (.ref D) { s with heap := h', toks := tk' }) :
    wpAny (model PySem.Challenge.rw_pf0261_02.row.prog w) (Ar dp un fr gd) (call (.ref 88) [.ref x, .int 1 t9, .int 0 t3]) Q E s := by
  obtain ⟨kg, kb, ks, kl, e1'⟩ := two_hid k0 hx0 hd0 hx hD hxd
  replace X := X.keeps kg
  replace T := T.keeps kg
  have hr2 := (hr.hid hx (by simp) (by simp)).hid e1' (by simp [spD]) (by simp [spD])
  have hE2 : (hid (hid s.heap x) d).IsList e [Value.int 0 e1, .int 0 e2, .int 0 e3].toArray := by
    obtain ⟨o, ho, hc, n, hd⟩ := hE
    refine ⟨o, ?_, hc, n, hd⟩
    rw [hid_ne, hid_ne]
    · exact ho
    · rintro rfl; rw [hx] at ho; cases ho; simp at hc
    · rintro rfl; rw [hD] at ho; cases ho; simp [spD] at hc
  have hEi : IntsAre [Value.int 0 e1, .int 0 e2, .int 0 e3] [0, 0, 0] := .cons _ _ (.cons _ _ (.cons _ _ .nil))
  refine enterB (hid (hid s.heap x) d) _ [(Str.ofString "self", .ref x), (Str.ofString "now", .int 1 t9), (Str.ofString "exponent", .int 0 t3)] X T kb ks kl (by k_is) (by k_is) (by omega) (BindsTo.of_eq rfl) (locs rfl) ?_ rfl rfl rfl (by decide)
  intro L h₁ m F hm N kh
  subst hm
  replace N := swap2 N
  unfold spD at N
  (try dsimp only)
  (try k_fold)
  repeat' ((fail_if_success (with_reducible show wpAny _ _ (call (Value.builtin "len") _) _ _ _)); (first | (k_unfold; (try dsimp only)) | (k_end; wrow_close) | walk1 | (dsimp only; walk1) | (leave1; walk_say "STEP leave1"; try dsimp only) | fail "no step"))
  refine len_PL (hr2.keeps F.keep) (by omega) fun t5 tk5 => ?_
  have hc : ¬ ((ps.length : Int) = 0) := by have := List.length_pos_iff.mpr hne; omega
  rcases hs with ⟨rfl, rfl, rfl⟩ | ⟨a, b, c, ta, tb, tc, rfl, rfl, rfl⟩
  · k_steps
    all_goals first | (exfalso; omega) | skip
    all_goals (
      rename Fr _ _ _ _ => F1
      rename News _ _ _ _ => N1
      refine spec_ack (s := { s with heap := _, toks := _ }) (X.keeps F1.keep) (T.keeps F1.keep) (hr2.keeps F1.keep) (by omega) (by show dp + 1 + 10 < _; omega) (by show un + 3 + 200 < _; omega) fun D2 h2 tk2 k2 nf2 hD2 => ?_
      have F2 : Fr _ L h2 _ := F1.after k2
      have N2 := News.grown N1 k2
      dsimp only at k2 nf2 hD2
      obtain ⟨es, Ne, ce, fe⟩ := hD2.led F2
      replace N2 := News.app N2 Ne
      clear F1 N1 Ne hD2
      dsimp only [List.cons_append, List.nil_append] at N2
      k_steps
      rename Fr _ _ _ _ => F3
      rename News _ _ _ _ => N3
      refine ret _ D2 _ _ _ _ _ (two_back F3.keep hx (N3 (x, instObj 196 d) (by first | exact .tail _ (.head _) | exact .tail _ (.tail _ (.head _)))).1 hD ?_) (News.isTup N3 (.head _)) (fe _ F3.keep (News.sub N3 fun p hp => .tail _ (.tail _ (.tail _ hp))))
      exact (N3 _ (.tail _ (.head _))).1
    )
  · k_steps
    all_goals first | (exfalso; omega) | skip
    all_goals (
      rename Fr _ _ _ _ => F1
      rename News _ _ _ _ => N1
      refine spec_ack (s := { s with heap := _, toks := _ }) (X.keeps F1.keep) (T.keeps F1.keep) (hr2.keeps F1.keep) (by omega) (by show dp + 1 + 10 < _; omega) (by show un + 3 + 200 < _; omega) fun D2 h2 tk2 k2 nf2 hD2 => ?_
      have F2 : Fr _ L h2 _ := F1.after k2
      have N2 := News.grown N1 k2
      dsimp only at k2 nf2 hD2
      obtain ⟨es, Ne, ce, fe⟩ := hD2.led F2
      replace N2 := News.app N2 Ne
      clear F1 N1 Ne hD2
      dsimp only [List.cons_append, List.nil_append] at N2
      k_steps
      rename Fr _ _ _ _ => F3
      rename News _ _ _ _ => N3
      refine ret _ D2 _ _ _ _ _ (two_back F3.keep hx (N3 (x, instObj 196 d) (by first | exact .tail _ (.head _) | exact .tail _ (.tail _ (.head _)))).1 hD ?_) (News.isTup N3 (.head _)) (fe _ F3.keep (News.sub N3 fun p hp => .tail _ (.tail _ (.tail _ hp))))
      exact (N3 _ (.tail _ (.head _))).1
    )
end

section
variable {prog : Program} {w : World} {A : Around} {E : Value → Shared → Prop} {s : Shared} {env : Env} {h₀ : Heap} {x : Str} {body : List Stmt} {Q : Flow → Shared → Prop}

/-- a loop over a tuple of the ledger -/
theorem iterTup {T : Addr} {vs : List Value} {m₀ : Str → Option Value} {news : List (Addr × Obj)} (J : Nat → (Str → Option Value) → List (Addr × Obj) → Prop)
    (hh : A.handled = none) (hT : s.heap.IsTuple T vs.toArray) (hTL : T ≠ env.locals) (F : Fr h₀ env.locals s.heap m₀) (N : News h₀ env.locals s.heap news) (hj : J 0 m₀ news) (hJT : ∀ i m nx, J i m nx → ∀ p ∈ nx, p.1 ≠ T)
    (turn : ∀ i v m₁ news₁ h tk own, vs[i]? = some v → OwnOff own (news₁.map (·.1)) → J i m₁ news₁ → Fr h₀ env.locals h (fun y => if y = x then some v else m₁ y) → News h₀ env.locals h (news₁ ++ own) →
      wpAny (model prog w) A (execs body env) (InvPostG h₀ env.locals (J (i + 1)) own { s with heap := h, toks := tk } Q) E { s with heap := h, toks := tk })
    (done : ∀ m₁ news₁ h tk, J vs.length m₁ news₁ → Fr h₀ env.locals h m₁ → News h₀ env.locals h news₁ → Q .next { s with heap := h, toks := tk }) :
    wpAny (model prog w) A (pyIter (.ref T)) (fun it s₂ => LoopAtV prog w A h₀ env x body Q E it s₂) E s := by
  have hT' := hT
  obtain ⟨oT, hoT, _⟩ := hT'
  have hne : T ≠ s.heap.objs.size := Nat.ne_of_lt (Heap.lt_size hoT)
  refine wpAny_pyIter_tuple hT ?_
  have W := Walks.tuple (prog := prog) (w := w) hh s.heap.objs.size T hne vs.toArray
  have hlen : vs.toArray.size = vs.length := by simp
  rw [hlen] at W
  refine ⟨_, _, _, vs.length, _, _, m₀, news, J, rfl, W, fun hm => ?_, fun b hb => ?_, fun p hp hI => ?_, ⟨⟨_, Heap.get?_push_size _ rfl, rfl, rfl⟩, ?_⟩, F.push _, (fun p hp => ⟨Heap.get?_push_of_some _ (N p hp).1, (N p hp).2⟩), hj, ?_, ?_⟩
  · rcases List.mem_cons.mp hm with e | hm
    · exact absurd F.ns.lt (e ▸ Nat.lt_irrefl _)
    · exact hTL (List.mem_singleton.mp hm).symm
  · rw [List.mem_singleton.mp hb]
    exact next_is_new F
  · exact absurd (Heap.lt_size (N p hp).1) ((List.mem_singleton.mp hI) ▸ Nat.lt_irrefl _)
  · obtain ⟨o, ho, r⟩ := hT
    exact ⟨o, Heap.get?_push_of_some _ ho, r⟩
  · rintro i v m₁ news₁ s₁ own ⟨hh', tk', rfl⟩ hin hP hJ hoff hown _ hfp hst F₁ N₁
    have hI0 : h₀.get? s.heap.objs.size = none := next_is_new F
    obtain ⟨⟨oI, hoI, _⟩, _⟩ := id hst
    have hIown : (s.heap.objs.size, oI) ∈ own := hfp _ (List.mem_cons.mpr (.inl rfl)) hI0 _ hoI
    have hsep : OwnOff own (news₁.map (·.1)) := by
      intro p hp b hb e
      obtain ⟨q, hq, rfl⟩ := List.mem_map.mp hb
      rcases List.mem_cons.mp (hown p hp) with h1 | h1
      · exact hoff q hq (List.mem_singleton.mpr (e ▸ h1))
      · exact hJT i m₁ news₁ hJ q hq (e ▸ List.mem_singleton.mp h1)
    have N₂ : News h₀ env.locals hh' (news₁ ++ own) := fun p hp => N₁ p ((List.mem_append.mp hp).elim (fun h => List.mem_append.mpr (.inr h)) fun h => List.mem_append.mpr (.inl h))
    refine wpAny_mono (turn i v m₁ news₁ hh' tk' own (by simpa using hP) hsep hJ F₁ N₂) (fun f s₂ p => ?_) fun _ _ e => e
    have fin : InvEndG h₀ env.locals (J (i + 1)) own { s with heap := hh', toks := tk' } s₂ → LoopStepU h₀ env.locals [s.heap.objs.size] own (J (i + 1)) { s with heap := hh', toks := tk' } .next s₂ := by
      rintro ⟨h', tk, m', news', nx, e, F', N', hn, ho, ha, hm⟩
      refine ⟨rfl, h', tk, m', nx, e, F', fun p hp => N' p ((List.mem_append.mp hp).elim (ho p) (hn p)), fun p hp hq => ?_, hm⟩
      exact ha _ hIown p.1 (List.mem_map.mpr ⟨p, hp, rfl⟩) (List.mem_singleton.mp hq).symm
    cases f with
    | ret v => exact .ret p
    | brk => exact .brk p
    | next => exact .next (fin p)
    | cont => exact .cont (fin p)
  · rintro h' tk m' news' F' N' _ hJ
    exact done m' news' h' tk hJ F' N'

end

section
variable {prog : Program} {w : World} {A : Around} {E : Value → Shared → Prop} {s : Shared} {Q : Value → Shared → Prop} {value slice : PySem.Expr}
theorem ints_get {vs : List Value} {ns : List Int} (hi : IntsAre vs ns) {i : Nat} {v : Int} (h : ns[i]? = some v) : ∃ t, vs[i]? = some (.int v t) := hi.get i v h
theorem item_IL {l : Addr} {vs : List Value} {ns : List Int} {k v : Int} {u : Tok} (hl : s.heap.IsList l vs.toArray) (hi : IntsAre vs ns) (h0 : 0 ≤ k) (hk : k < 2 ^ 63) (hp : ns[k.toNat]? = some v) (h : ∀ t, Q (.int v t) s)
    (hs : subscripted slice false (.ref l) (.int k u) = operate [.ref l, .int k u] (getItem (.ref l) (.int k u)) := by with_unfolding_all rfl) :
    wpAny (model prog w) A (subscriptTail value slice (.ref l) (.int k u)) Q E s := by
  obtain ⟨t, ht⟩ := ints_get hi hp
  exact tail_any hl.typeIs slot_list_getitem.lookup (wpAny_getItem_list hl h0 hk (by simpa using ht) (h t)) hs
end

section
variable {w : World} {mean : ExcName → Option Value} {mg mb : Str → Option Value} {dp un : Nat} {fr : Option (List Env)} {gd : Option (List Code)} {s : Shared} {Q E : Value → Shared → Prop} {prog : Program} {p : Program} {loose : List Str}
local macro_rules | `(tactic| walk_at "subscriptTail") => `(tactic| (k_here; (with_reducible show wpAny _ _ (subscriptTail _ (Expr.BinOp _ _ _ _) (Value.ref _) (Value.int _ _)) _ _ _); refine Halt.out ?_))
set_option maxHeartbeats 4000000 in
theorem spec_draw {h₀ : Heap} {P l : Addr} {vs : List Value} {ns : List Int} {i z k : Int} {t u t2 : Tok} {n : Nat} (X : (heapK w.params).In h₀) (T : Top viewK (looseW viewK []) mean mg mb h₀) (k0 : Kp h₀ s.heap) (hsz : h₀.objs.size ≤ s.heap.objs.size) (hP0 : h₀.get? P = none)
    (hP : s.heap.get? P = some (PySem.W.listOf #[.int z u, .ref l, .int i t] n)) (hl : s.heap.IsList l vs.toArray) (hns : IntsAre vs ns) (hlen : ns.length ≤ 63) (hlP : l ≠ P) (hi : 0 ≤ i) (hi2 : i ≤ 1000) (hk : 0 < k)
    (hdp : dp + 8 < recursionLimit) (hun : un + 200 < cLine)
    (ret : ∀ v z' h' tk' t3 u3 t4 n', 0 ≤ v → v < k → (∀ b o, b ≠ P → s.heap.get? b = some o → h'.get? b = some o) → h'.get? P = some (PySem.W.listOf #[.int z' u3, .ref l, .int (i + 1) t3] n') → Q (.int v t4) { s with heap := h', toks := tk' }) :
    wpAny (model PySem.Challenge.rw_pf0261_02.row.prog w) (Ar dp un fr gd) (call (.ref 214) [.ref P, .int k t2]) Q E s := by
  have kg := hid_of k0 hP0
  replace X := X.keeps kg
  replace T := T.keeps kg
  refine enterB (hid s.heap P) [(P, PySem.W.listOf #[.int z u, .ref l, .int i t] n)] [(Str.ofString "pool", .ref P), (Str.ofString "many", .int k t2)] X T hid_keeps (Nat.le_of_eq hid_size) ?_ (by k_is) (by k_is) (by omega) (BindsTo.of_eq rfl) (locs rfl) ?_ rfl rfl rfl (by decide)
  · intro q hq
    cases List.mem_singleton.mp hq
    exact ⟨hP, hid_self⟩
  intro L h₁ m F hm N ks
  subst hm
  have hlg : (hid s.heap P).IsList l vs.toArray := by
    obtain ⟨o, ho, r⟩ := hl
    exact ⟨o, by rw [hid_ne hlP]; exact ho, r⟩
  have hnl := hns.length
  (try dsimp only)
  (try k_fold)
  by_cases hn0 : ns = []
  · k_steps
    all_goals first | (exfalso; simp_all; done) | skip
    rename Fr _ _ _ _ => F4
    rename News _ _ _ _ => N4
    exact ret _ _ _ _ _ _ _ _ (Int.fmod_nonneg_of_pos _ hk) (Int.fmod_lt_of_pos _ hk) (fun b o hb e => F4.keep _ _ (by rw [hid_ne hb]; exact e)) (N4 _ (.tail _ (.head _))).1
  · have hpos : 0 < ns.length := List.length_pos_iff.mpr hn0
    k_steps
    all_goals first | (exfalso; simp_all; done) | skip
    rename Fr _ _ _ _ => F4
    rename News _ _ _ _ => N4
    exact ret _ _ _ _ _ _ _ _ (Int.fmod_nonneg_of_pos _ hk) (Int.fmod_lt_of_pos _ hk) (fun b o hb e => F4.keep _ _ (by rw [hid_ne hb]; exact e)) (N4 _ (.tail _ (.head _))).1
end

def singles (n : Nat) (f : Int) : List (Int × Int) := (List.range n).reverse.map fun (a : Nat) => (f + 3 * (a : Int), f + 3 * (a : Int))
section
open LCg
variable {prog : Program} {w : World} {A : Around} {E : Value → Shared → Prop} {s : Shared} {h₀ : Heap} {L : Addr} {m : Str → Option Value} {env : Env}
def SrcRg (prog : Program) (w : World) (A : Around) (h₀ : Heap) (L : Addr) (m : Str → Option Value) (env : Env) (elt : Expr) (x : Str) (scope : Scope) (cl : List (Str × Addr)) (Fin : Shared → List Value → List (Addr × Obj) → Prop) (xv : Value) (s₁ : Shared) : Prop :=
  ∃ r a b c t u v n news, xv = .ref r ∧ A.handled = none ∧ Fr h₀ L s₁.heap m ∧ News h₀ L s₁.heap news ∧ IsRange s₁.heap r a b c t u v ∧ Builtin.Range.small a b c = true ∧ Builtin.Range.rangeSize a b c = ((n : Nat) : Int) ∧ n ≤ sizeLine ∧
    ∀ s₂ : Shared, (∃ h, s₂ = { s₁ with heap := h }) → CompRest prog w A h₀ L m env elt x scope cl s₂ (fun _ => True) (fun i v => ∃ t, v = .int (a + (i : Int) * c) t) (Fin s₂) n 0 [] news
theorem rg_walks {I : Addr} (hh : A.handled = none) (a c : Int) (n : Nat) : Walks prog w A I [I] [I] n (fun i v => ∃ t, v = .int (a + (i : Int) * c) t) (fun i h => IsRangeIter h I (a + (i : Nat) * c) ((n : Int) - (i : Nat)) c) :=
  let W : Walks prog w A I [I] [I] n (fun i v => i < n ∧ ∃ t, v = .int (a + i * c) t) (fun i h => IsRangeIter h I (a + (i : Nat) * c) ((n : Int) - (i : Nat)) c) := (Walks.range hh I a c n).bound
  { sub := W.sub, frame := W.frame, done := W.done, self := W.self,
    item := fun i s Q E hi st hQ => W.item i s Q E hi st fun v h' tk hP => hQ v h' tk hP.2 }
theorem rg_st {I : Addr} {a c : Int} {n : Nat} : ∀ i (h h' : Heap) (o : Obj) (nw : List (Addr × Obj)), IsRangeIter h I (a + (i : Nat) * c) ((n : Int) - (i : Nat)) c → h.get? I = some o → h'.get? I = some o → (∀ b o, h₀.get? b = some o → h'.get? b = some o) → News h₀ L h' nw → True → IsRangeIter h' I (a + (i : Nat) * c) ((n : Int) - (i : Nat)) c :=
  fun i h h' o nw st e e' _ _ _ => by
    have st' : h.get? I = some _ := st
    show h'.get? I = some _
    rw [e', ← e]; exact st'
/-- a comprehension over a range of any step -/
theorem ListComp_R {elt iter : Expr} {x : Str} {px : Pos} {scope : Scope} {cl : List (Str × Addr)} {pos : Pos} {Q : Value → Shared → Prop} (_F₀ : Fr h₀ L s.heap m)
    (hclos : closureFor scope env = pure cl) (hcell : ∀ y ∈ scope.names, y.2 ≠ .cell) (hkind : scope.kind = .function)
    (hnames : ∀ y ∈ scope.names, y.2 = .local → scope.names.lookup y.1 = some .local) (hx : scope.names.lookup x = some .local)
    (h : wpAny (model prog w) A (eval iter env) (SrcRg prog w A h₀ L m env elt x scope cl (fun s₂ => FinE h₀ L m s₂ Q)) E s)
    (hs : ∀ x, foldedSetIterable iter env x = pure x := by intro _; rfl) :
    wpAny (model prog w) A (eval (.ListComp elt [⟨.Name x px, iter, [], 0⟩] scope pos) env) Q E s := by
  rw [eval_ListComp]
  refine wpAny_comprehension_free (use := none) rfl hs hclos hkind hnames (wpAny_mono h (fun xv s₁ h₁ => ?_) fun _ _ e => e)
  obtain ⟨r, a, b, c, t, u, v, n, news, rfl, hh, F, N, hr, hsm, hn, hsz, R⟩ := h₁
  refine wpAny_pyIter_range hr hsm ?_
  refine block_U (rg_walks hh a c n) hsz (fun i h st => ⟨_, st⟩) rg_st hcell hkind hx (by show IsRangeIter _ _ _ _ _; rw [hn]; simpa using Heap.get?_push_size _ rfl) (fun b hb => ?_)
    (F.keeps fun _ _ e => Heap.get?_push_of_some _ e) (N.grown fun _ _ e => Heap.get?_push_of_some _ e) (Nat.ne_of_lt F.ns.lt) (next_is_new F) (fun p hp => Nat.ne_of_lt (Heap.lt_size (N p hp).1)) trivial (R _ ⟨_, rfl⟩) ?_
  · rw [List.mem_singleton.mp hb]
    show s₁.heap.objs.size < (s₁.heap.push _).objs.size
    rw [Heap.size_push]; exact Nat.lt_succ_self _
  · intro D C h tk m' ys news' F' N' o1 hn hC₀ hD₀ hCL hDL hCD offC fin
    refine ⟨m', hn, fun h'' hs'' => fin D h'' tk (F'.change hs'' hCL hC₀) (fun p hp => ?_) o1⟩
    refine ⟨hs''.extBut _ _ ?_ (N' p hp).1, (N' p hp).2⟩
    rcases List.mem_cons.mp hp with rfl | hp
    · exact Ne.symm hCD
    · exact offC p hp
theorem restU_inv {elt : Expr} {x : Str} {scope : Scope} {cl : List (Str × Addr)} {S : List (Addr × Obj) → Prop} {P : Nat → Value → Prop} {Fin : List Value → List (Addr × Obj) → Prop} {n : Nat} (J : Nat → List Value → List (Addr × Obj) → Prop)
    (turn : ∀ i v ys news I oI C oC D m₂ h tk (E' : Value → Shared → Prop), i < n → P i v → J i ys news → NsObj oC m₂ → m₂ x = some v → Fr h₀ L h m → News h₀ L h ((I, oI) :: (C, oC) :: (D, lst ys) :: news) → Off3 I C D news →
      ((@Ne Nat I C) ∧ (@Ne Nat I D) ∧ (@Ne Nat C D)) →
      wpAny (model prog w) A (eval elt (compEnvC scope cl C env)) (fun y s'' => Halt (CompEnd h₀ L m { s with heap := h, toks := tk } I oI C oC D (lst ys) S (fun y news' => J (i + 1) (ys ++ [y]) news') y s'')) E' { s with heap := h, toks := tk })
    (fin : ∀ ys news, J n ys news → Fin ys news) : ∀ (k i : Nat) (ys : List Value) (news : List (Addr × Obj)), i + k = n → J i ys news → CompRest prog w A h₀ L m env elt x scope cl s S P Fin k i ys news
  | 0, i, ys, news, e, hJ => CompRest.zero (fin ys news (by rw [← e]; exact hJ))
  | k + 1, i, ys, news, e, hJ => by
    refine CompRest.succ fun v I oI C oC D m₂ h tk E' hP hC hx F N off ne => ?_
    exact wpAny_mono (turn i v ys news I oI C oC D m₂ h tk E' (by omega) hP hJ hC hx F N off ne) (fun y s'' hr => cend_mono hr.out fun nw hj => restU_inv J turn fin k (i + 1) _ nw (by omega) hj) fun _ _ e => e
end
theorem singles_snoc (n i : Nat) (f : Int) (h : i < n) : (singles n f).take (i + 1) = (singles n f).take i ++ [(f + 3 * ((n : Int) - 1 + i * -1), f + 3 * ((n : Int) - 1 + i * -1))] := by
  have hl : (singles n f).length = n := by simp [singles]
  rw [List.take_add_one, List.getElem?_eq_getElem (by omega)]
  congr 1
  simp only [singles, List.getElem_map, List.getElem_reverse, List.getElem_range, Option.toList_some, List.length_range]
  have : ((n - 1 - i : Nat) : Int) = (n : Int) - 1 + i * -1 := by omega
  rw [this]
section
variable {w : World} {mean : ExcName → Option Value} {mg mb : Str → Option Value} {dp un : Nat} {fr : Option (List Env)} {gd : Option (List Code)} {s : Shared} {Q E : Value → Shared → Prop} {prog : Program} {p : Program} {loose : List Str}
local macro_rules | `(tactic| walk_at "eval ListComp") => `(tactic| (k_here; k_dflt (refine ListComp_R (_F₀ := by k_asm) (by with_unfolding_all rfl) (by decide) (by rfl) (by decide) (by rfl) ?_)))
set_option maxHeartbeats 4000000 in
theorem spec_singles (X : (heapK w.params).In s.heap) (T : Top viewK (looseW viewK []) mean mg mb s.heap) {n : Nat} {f : Int} {t u : Tok} (hn : n ≤ 100) (hn0 : 0 < n)
    (hdp : dp + 8 < recursionLimit) (hun : un + 200 < cLine)
    (ret : ∀ D h' tk', Kp s.heap h' → s.heap.get? D = none → PL h' D (singles n f) → Q (.ref D) { s with heap := h', toks := tk' }) :
    wpAny (model PySem.Challenge.rw_pf0261_02.row.prog w) (Ar dp un fr gd) (call (.ref 219) [.int n t, .int f u]) Q E s := by
  refine enterC [(Str.ofString "many", .int n t), (Str.ofString "first", .int f u)] X T (by k_is) (by k_is) (by omega) rfl rfl (by decide +kernel) ?_ rfl rfl rfl
  intro L h₁ tk cells F N Y
  k_cells Y
  (try dsimp only)
  (try k_fold)
  rename Fr _ _ _ _ => F1
  rename News _ _ _ _ => N1
  k_steps
  rename IsRange _ _ _ _ _ _ _ _ => hR
  rename Fr _ _ _ _ => F2
  rename News _ _ _ _ => N2
  rename Obj => oF
  refine ⟨_, _, _, _, _, _, _, n, _, rfl, rfl, F2, N2, hR, small_down (by omega) (by omega) (by decide) (by decide), by rw [rangeSize_downNat]; omega, by rw [sizeLine_eq]; omega, fun s₂ ⟨g, e⟩ => ?_⟩
  subst e
  have hsl : (singles n f).length = n := by simp [singles]
  refine restU_inv (n := n) (fun i ys nw => ∃ tl, nw = (L + 1, oF) :: tl ∧ ys.length ≤ i ∧ ∀ h, Kp s.heap h → News s.heap L h tl → PVs h ys ((singles n f).take i)) ?_ ?_ _ 0 [] _ (by simp) ⟨[], rfl, Nat.le_refl _, fun _ _ _ => .nil⟩
  · rintro i v ys nw I oI C oC D m₂ h tk E' hi ⟨tv, rfl⟩ ⟨tl, rfl, hyl, hys⟩ hC hx F3 N3 off ne
    have hst := singles_snoc n i f hi
    clear F2 N2
    k_steps
    rename Fr _ _ _ _ => F4
    rename News _ _ _ _ => N4
    rename (_ < _ ∧ _) => g2
    refine cend_tup F4 N4 off g2 trivial ⟨_, rfl, by simp; omega, fun h k N => ?_⟩
    rw [hst]
    exact (hys h k (News.tl N)).append (.one (pv_tup N (.head _)))
  · rintro ys nw ⟨tl, rfl, hyl, hys⟩
    rw [List.take_of_length_le (by omega)] at hys
    intro D h' tk' F5 N5 _
    show Q (.ref D) _
    exact ret _ _ _ F5.keep (N5 _ (.head _)).2.2 ⟨ys, ⟨_, (N5 _ (.head _)).1, rfl, _, rfl⟩, hys _ F5.keep (News.tl (News.tl N5))⟩
end

theorem ct0 (elt t0 i0 t1 i1 : Expr) (scope : Scope) (pos : Pos) (it acc : Value) (env : Env) :
    compTurn (.ListComp elt [⟨t0, i0, [], 0⟩, ⟨t1, i1, [], 0⟩] scope pos) 0 it acc env = (standAt i0.pos >>= fun _ => pyNext it >>= fun r => match r with
      | none => pure (.done .next)
      | some v => letOwnedTupleGo t0 it v >>= fun _ => assign t0 env v >>= fun _ =>
        eval i1 env >>= fun x => standAt i1.pos >>= fun _ => foldedSetIterable i1 env x >>= fun x => holding [x] (pyIter x) >>= fun it' => runOwn (.compStart (.ListComp elt [⟨t0, i0, [], 0⟩, ⟨t1, i1, [], 0⟩] scope pos) 1 it' acc env) env >>= fun _ =>
          again (.compLoop (.ListComp elt [⟨t0, i0, [], 0⟩, ⟨t1, i1, [], 0⟩] scope pos) 0 it acc env)) := by rfl
theorem ct1 (elt t0 i0 t1 i1 : Expr) (scope : Scope) (pos : Pos) (it acc : Value) (env : Env) :
    compTurn (.ListComp elt [⟨t0, i0, [], 0⟩, ⟨t1, i1, [], 0⟩] scope pos) 1 it acc env = (standAt i1.pos >>= fun _ => pyNext it >>= fun r => match r with
      | none => pure (.done .next)
      | some v => letOwnedTupleGo t1 it v >>= fun _ => assign t1 env v >>= fun _ =>
        (eval elt env >>= fun x => call (.builtin "list.append") [acc, x] >>= fun _ => pure ()) >>= fun _ =>
          again (.compLoop (.ListComp elt [⟨t0, i0, [], 0⟩, ⟨t1, i1, [], 0⟩] scope pos) 1 it acc env)) := by rfl
section
variable {prog : Program} {w : World} {A : Around} {E : Value → Shared → Prop} {R : Result → Shared → Prop}
theorem nest_inner {elt t0 i0 i1 : Expr} {x : Str} {px : Pos} {scope : Scope} {pos : Pos} {C D J : Addr} {cenv : Env} {lo : Int} {n : Nat} {ys : List Value} {m : Str → Option Value} {s : Shared}
    (hh : A.handled = none) (hx : cenv.kindOf x = some .local) (hp : (cenv.scope.kind == .class || (cenv.scope.kind == .module && cenv.locals != cenv.globals)) = false) (hC : cenv.locals = C) (hJD : J ≠ D) (hJC : J ≠ C) (hDC : D ≠ C)
    (helt : ∀ (s : Shared) (m : Str → Option Value) (v : Value) (Q E : Value → Shared → Prop), s.heap.Ns C m → m x = some v → Q v s → wpAny (model prog w) A (eval elt cenv) Q E s)
    (hit : IsRangeIter s.heap J lo n 1) (hacc : s.heap.get? D = some (LCg.lst ys)) (hns : s.heap.Ns C m) (hsz : ys.length + n ≤ 1000)
    (hR : ∀ h' tk m' zs, h'.Ns C m' → h'.get? D = some (LCg.lst (ys ++ zs)) → IntsAre zs ((List.range n).map fun (i : Nat) => lo + (i : Int)) → (∀ b o, b ≠ C → b ≠ J → b ≠ D → s.heap.get? b = some o → h'.get? b = some o) → R (.ok .next) { s with heap := h', toks := tk }) :
    codeAny (model prog w) A (.compLoop (.ListComp elt [⟨t0, i0, [], 0⟩, ⟨.Name x px, i1, [], 0⟩] scope pos) 1 (.ref J) (.ref D) cenv) R s := by
  subst hC
  have W := rg_walks (prog := prog) (w := w) (A := A) (I := J) hh lo 1 n
  refine codeAny_loop rfl (fun k s' => ∃ h' tk i m' zs, s' = { s with heap := h', toks := tk } ∧ i ≤ n ∧ k = n + 1 - i ∧ IsRangeIter h' J (lo + (i : Nat) * 1) ((n : Int) - (i : Nat)) 1 ∧ h'.Ns cenv.locals m' ∧ h'.get? D = some (LCg.lst (ys ++ zs)) ∧ IntsAre zs ((List.range i).map fun (i : Nat) => lo + (i : Int)) ∧
    (∀ b o, b ≠ cenv.locals → b ≠ J → b ≠ D → s.heap.get? b = some o → h'.get? b = some o)) ?_ (n + 1) ⟨s.heap, s.toks, 0, m, [], rfl, Nat.zero_le _, rfl, by simpa using hit, hns, by simpa using hacc, .nil, fun _ _ _ _ _ e => e⟩
  rintro k s' ⟨h', tk, i, m', zs, rfl, hi, rfl, hit', hns', hacc', hzs, hk⟩
  show wpAny _ A ((compTurn (.ListComp elt [⟨t0, i0, [], 0⟩, ⟨.Name x px, i1, [], 0⟩] scope pos) 1 (.ref J) (.ref D) cenv).onRaise (fun x => do noteFrame x cenv; theTreesLotGoes x)) _ _ _
  refine wpAny_noted ?_
  rw [ct1]
  refine wpAny_bind (wpAny_standAt (wpAny_bind ?_))
  have hzl : zs.length = i := by rw [hzs.length]; simp
  by_cases hlt : i < n
  · refine W.item i _ _ _ hlt hit' fun v h₂ tk₂ hP hst hk₂ => ?_
    obtain ⟨t, rfl⟩ := hP
    have k2 : ∀ b o, b ≠ J → h'.get? b = some o → h₂.get? b = some o := fun b o hb e => hk₂ b o (by simpa using hb) e
    show wpAny _ A (letOwnedTupleGo (.Name x px) (.ref J) _ >>= _) _ _ _
    refine wpAny_bind (wpAny_of_eq rfl ?_)
    refine wpAny_bind (wpAny_assign_Name (wpAny_storeName_local hx (hns'.at' fun o e => k2 _ o (Ne.symm hJC) e) (fun h₃ hn₃ hs₃ => ?_) hp))
    refine wpAny_bind (wpAny_bind (helt _ _ (.int (lo + (i : Int) * 1) t) _ _ hn₃ (if_pos rfl) ?_))
    have hac3 : h₃.get? D = some (LCg.lst (ys ++ zs)) := (hs₃.2 D hDC).trans (k2 _ _ (Ne.symm hJD) hacc')
    refine wpAny_bind (append_at (hsz := by rw [List.size_toArray, List.length_append, sizeLine_eq]; omega) hac3 fun h₄ hs₄ hD₄ => ?_)
    refine wpAny_pure (wpAny_pure ⟨rfl, n + 1 - (i + 1), by omega, h₄, _, i + 1, _, zs ++ [.int (lo + (i : Int) * 1) t], rfl, hlt, rfl, ?_, hn₃.sameBut hs₄ (Ne.symm hDC), ?_, ?_, ?_⟩)
    · have e1 : h₂.get? J = some _ := hst
      show h₄.get? J = some _
      exact (hs₄.2 J hJD).trans ((hs₃.2 J hJC).trans e1)
    · rw [hD₄, ← List.append_assoc]
      exact congrArg some (LCg.lst_snoc _ _)
    · rw [List.range_succ, List.map_append]
      exact hzs.append (by rw [Int.mul_one]; exact .cons _ _ .nil)
    · exact fun b o b1 b2 b3 e => (hs₄.2 b b3).trans ((hs₃.2 b b1).trans (k2 b o b2 (hk b o b1 b2 b3 e)))
  · have hin : i = n := by omega
    subst hin
    refine W.done _ _ _ hit' fun h₂ tk₂ hk₂ => ?_
    have k2 : ∀ b o, b ≠ J → h'.get? b = some o → h₂.get? b = some o := fun b o hb e => hk₂ b o (by simpa using hb) e
    exact wpAny_pure (hR h₂ tk₂ m' zs (hns'.at' fun o e => k2 _ o (Ne.symm hJC) e) (k2 _ _ (Ne.symm hJD) hacc') hzs fun b o b1 b2 b3 e => k2 b o b2 (hk b o b1 b2 b3 e))

def rng (p : Int × Int) : List Int := (List.range (p.2 + 1 - p.1).toNat).map fun (i : Nat) => p.1 + (i : Int)
def NestSrc (prog : Program) (w : World) (A : Around) (env : Env) (m : Str → Option Value) (i1 : Expr) (scope : Scope) (cl : List (Str × Addr)) (a b y : Str) (Q : Flow → Shared → Prop) (xv : Value) (s₁ : Shared) : Prop :=
  ∃ l vs ps, xv = .ref l ∧ s₁.heap.Ns env.locals m ∧ s₁.heap.IsList l vs.toArray ∧ PVs s₁.heap vs ps ∧ (ps.flatMap rng).length ≤ 1000 ∧ vs.length ≤ 1000 ∧ (∀ p ∈ ps, -(2 ^ 61) ≤ p.1 ∧ p.1 ≤ p.2 ∧ p.2 < 2 ^ 61) ∧
      (∀ C x y t u s₃ m₃ E', Kp s₁.heap s₃.heap → s₁.heap.get? C = none → s₃.heap.Ns C m₃ → m₃ a = some (.int x t) → m₃ b = some (.int y u) →
        wpAny (model prog w) A (eval i1 (compEnvC scope cl C env)) (fun v s₄ => ∃ r h' tk t1 u1 v1, v = .ref r ∧ s₄ = { s₃ with heap := h', toks := tk } ∧ Kp s₃.heap h' ∧ IsRange h' r x (y + 1) 1 t1 u1 v1) E' s₃) ∧
      ∀ D h' tk vs', s₁.heap.get? D = none → (∀ b o, b ≠ env.locals → s₁.heap.get? b = some o → h'.get? b = some o) → h'.Ns env.locals (fun z => if z = y then some (.ref D) else m z) → h'.get? D = some (LCg.lst vs') → IntsAre vs' (ps.flatMap rng) → Q .next { s₁ with heap := h', toks := tk }
theorem range_self {A : Around} {s : Shared} {E : Value → Shared → Prop} {prog : Program} {w : World} {J : Addr} {a c : Int} {Q : Value → Shared → Prop} (hh : A.handled = none) (N : Nat) (hit : IsRangeIter s.heap J a (N : Int) c) (h : Q (.ref J) s) : wpAny (model prog w) A (pyIter (.ref J)) Q E s :=
  (rg_walks (prog := prog) (w := w) (A := A) (I := J) hh a c N).self 0 s Q E (by simpa using hit) h
theorem cs1 {elt t0 i0 t1 i1 : Expr} {scope : Scope} {pos : Pos} {it acc : Value} {env : Env} {s : Shared}
    (h0 : codeAny (model prog w) A (.compLoop (.ListComp elt [⟨t0, i0, [], 0⟩, ⟨t1, i1, [], 0⟩] scope pos) 1 it acc env) R s)
    (h : wpAny (model prog w) A (pyIter it) (fun it' s' => codeAny (model prog w) A (.compLoop (.ListComp elt [⟨t0, i0, [], 0⟩, ⟨t1, i1, [], 0⟩] scope pos) 1 it' acc env) R s') (notedBy (model prog w) A env fun x s' => R (.error x) s') s) :
    codeAny (model prog w) A (.compStart (.ListComp elt [⟨t0, i0, [], 0⟩, ⟨t1, i1, [], 0⟩] scope pos) 1 it acc env) R s := by
  refine codeAny_of_tree ?_
  show wpAny _ _ ((compStart (.ListComp elt [⟨t0, i0, [], 0⟩, ⟨t1, i1, [], 0⟩] scope pos) 1 it acc env).onRaise (fun x => do noteFrame x env; standAt theWindowsPlace)) _ _ s
  refine wpAny_notedAt ?_
  unfold compStart
  show wpAny _ _ (ask >>= _) _ _ s
  refine wpAny_bind (wpAny_askSetting (wpAny_ite ?_))
  split
  · first
      | exact wpAny_bind (wpAny_pure (wpAny_pure (And.intro rfl h0)))
      | exact wpAny_pure (And.intro rfl h0)
  · first
      | exact wpAny_bind (wpAny_rule (wpAny_bind (wpAny_standAt (wpAny_bind (wpAny_mono h (fun it' s' h' => wpAny_pure (And.intro rfl h')) fun _ _ x => x)))))
      | (refine wpAny_bind (wpAny_rule ?_); show wpAny _ _ (standAt i1.pos >>= _) _ _ s; exact wpAny_bind (wpAny_standAt (wpAny_bind (wpAny_mono h (fun it' s' h' => wpAny_pure (And.intro rfl h')) fun _ _ x => x))))

theorem nest_start {elt t0 i0 i1 : Expr} {x : Str} {px : Pos} {scope : Scope} {pos : Pos} {C D J : Addr} {cenv : Env} {lo : Int} {n : Nat} {ys : List Value} {m : Str → Option Value} {s : Shared}
    (hh : A.handled = none) (hx : cenv.kindOf x = some .local) (hp : (cenv.scope.kind == .class || (cenv.scope.kind == .module && cenv.locals != cenv.globals)) = false) (hC : cenv.locals = C) (hJD : J ≠ D) (hJC : J ≠ C) (hDC : D ≠ C)
    (helt : ∀ (s : Shared) (m : Str → Option Value) (v : Value) (Q E : Value → Shared → Prop), s.heap.Ns C m → m x = some v → Q v s → wpAny (model prog w) A (eval elt cenv) Q E s)
    (hit : IsRangeIter s.heap J lo n 1) (hacc : s.heap.get? D = some (LCg.lst ys)) (hns : s.heap.Ns C m) (hsz : ys.length + n ≤ 1000)
    (hR : ∀ h' tk m' zs, h'.Ns C m' → h'.get? D = some (LCg.lst (ys ++ zs)) → IntsAre zs ((List.range n).map fun (i : Nat) => lo + (i : Int)) → (∀ b o, b ≠ C → b ≠ J → b ≠ D → s.heap.get? b = some o → h'.get? b = some o) → R (.ok .next) { s with heap := h', toks := tk }) :
    codeAny (model prog w) A (.compStart (.ListComp elt [⟨t0, i0, [], 0⟩, ⟨.Name x px, i1, [], 0⟩] scope pos) 1 (.ref J) (.ref D) cenv) R s :=
  cs1 (nest_inner hh hx hp hC hJD hJC hDC helt hit hacc hns hsz hR) (range_self hh n hit (nest_inner hh hx hp hC hJD hJC hDC helt hit hacc hns hsz hR))

theorem rng_len (p : Int × Int) : (rng p).length = (p.2 + 1 - p.1).toNat := by simp [rng]
theorem comp_nest {A : Around} {E : Value → Shared → Prop} {s : Shared} {env : Env} {m : Str → Option Value} {iter i1 : Expr} {a b x y : Str} {pa pb tp px pe py : Pos} {kk : Nat} {scope : Scope} {cl : List (Str × Addr)} {pos spos : Pos} {Q : Flow → Shared → Prop} (hh : A.handled = none) (_hm : s.heap.Ns env.locals m)
    (hsw : swapsWith (.ListComp (.Name x pe) [⟨.Tuple [.Name a pa, .Name b pb] kk tp, iter, [], 0⟩, ⟨.Name x px, i1, [], 0⟩] scope pos) (some (.Name y py)) spos.line env = pure true)
    (hclos : closureFor scope env = pure cl) (hcell : ∀ y ∈ scope.names, y.2 ≠ .cell) (hkind : scope.kind = .function)
    (hnames : ∀ y ∈ scope.names, y.2 = .local → scope.names.lookup y.1 = some .local) (hxa : scope.names.lookup a = some .local) (hxb : scope.names.lookup b = some .local) (hxx : scope.names.lookup x = some .local) (hab : ¬ b = a) (hd : (x == ("__debug__" : Str)) = false)
    (hy : env.kindOf y = some .local) (hp : (env.scope.kind == .class || (env.scope.kind == .module && env.locals != env.globals)) = false)
    (h : wpAny (model prog w) A (eval iter env) (NestSrc prog w A env m i1 scope cl a b y Q) E s)
    (hs : ∀ x, foldedSetIterable iter env x = pure x := by intro _; rfl) (hs1 : ∀ env x, foldedSetIterable i1 env x = pure x := by intro _ _; rfl) :
    wpAny (model prog w) A (exec (.Assign [.Name y py] (.ListComp (.Name x pe) [⟨.Tuple [.Name a pa, .Name b pb] kk tp, iter, [], 0⟩, ⟨.Name x px, i1, [], 0⟩] scope pos) spos) env) Q E s := by
  rw [exec_Assign_Name_used _ _ _ _ hsw]
  refine wpAny_bind (wpAny_standAt (wpAny_bind ?_))
  show wpAny _ A (do let _ ← comprehension (.ListComp (.Name x pe) [⟨.Tuple [.Name a pa, .Name b pb] kk tp, iter, [], 0⟩, ⟨.Name x px, i1, [], 0⟩] scope pos) scope env _ (newList []) false (eval iter env) (some (assign (.Name y py) env))) _ _ s
  refine wpAny_bind (wpAny_mono (wpAny_comprehension_free (use := some (assign (.Name y py) env)) (Q := fun _ s' => Q .next s') rfl hs hclos hkind hnames
    (wpAny_mono h (fun xv s₁ h₁ => ?_) fun _ _ e => e)) (fun _ s' hq => wpAny_pure (wpAny_pure hq)) fun _ _ e => e)
  obtain ⟨l, vs, ps, rfl, hnsL, hl, hps, hsz, hsz2, hbd, hi1, fin⟩ := h₁
  refine wpAny_pyIter_list hl ?_
  have hlt : l < s₁.heap.objs.size := by obtain ⟨_, e, _⟩ := hl; exact Heap.lt_size e
  refine wpAny_newObj_type (wpAny_newFunctionEnv hcell (by intro y hy; simp at hy) (fun h₁ hns₁ hsb₁ => ?_) hkind)
  dsimp only at hns₁ hsb₁ ⊢
  have hC2 : ((s₁.heap.push { cls := Value.type "list_iterator", dict := none, data := Data.fields #[Value.ref l, Value.int 0 0] }).push { cls := Value.type "list", dict := none, data := Data.seq ([] : List Value).toArray }).objs.size = s₁.heap.objs.size + 2 := by
    rw [Heap.size_push, Heap.size_push]
  have hD2 : (s₁.heap.push { cls := Value.type "list_iterator", dict := none, data := Data.fields #[Value.ref l, Value.int 0 0] }).objs.size = s₁.heap.objs.size + 1 := by rw [Heap.size_push]
  have keep₁ : Kp s₁.heap h₁ := fun b o e => hsb₁.extBut b o (by rw [hC2]; exact Nat.ne_of_lt (Nat.lt_add_right 2 (Heap.lt_size e))) (Heap.get?_push_of_some _ (Heap.get?_push_of_some _ (Heap.get?_push_of_some _ e)))
  have hit₁ : h₁.IsListIter s₁.heap.objs.size l 0 :=
    ⟨_, hsb₁.extBut _ _ (by rw [hC2]; exact Nat.ne_of_lt (Nat.lt_add_of_pos_right (by decide))) (Heap.get?_push_of_some _ (Heap.get?_push_of_some _ (Heap.get?_push_size _ rfl))), rfl, rfl⟩
  have hacc₁ : h₁.get? (s₁.heap.push { cls := Value.type "list_iterator", dict := none, data := Data.fields #[Value.ref l, Value.int 0 0] }).objs.size = some (LCg.lst []) :=
    hsb₁.extBut _ _ (by rw [hC2, hD2]; exact Nat.ne_of_lt (Nat.lt_succ_self _)) (Heap.get?_push_of_some _ (Heap.get?_push_size _ rfl))
  clear hsb₁
  generalize hC : ((s₁.heap.push { cls := Value.type "list_iterator", dict := none, data := Data.fields #[Value.ref l, Value.int 0 0] }).push { cls := Value.type "list", dict := none, data := Data.seq ([] : List Value).toArray }).objs.size = C at hns₁ hC2 ⊢
  generalize hD : (s₁.heap.push { cls := Value.type "list_iterator", dict := none, data := Data.fields #[Value.ref l, Value.int 0 0] }).objs.size = D at hacc₁ hD2 ⊢
  generalize hI : s₁.heap.objs.size = I at hit₁ hC2 hD2 hlt ⊢
  have ne1 : D ≠ I := by intro e; rw [e] at hD2; exact absurd hD2 (Nat.ne_of_lt (Nat.lt_succ_self _))
  have ne2 : C ≠ I := by intro e; rw [e] at hC2; exact absurd hC2 (Nat.ne_of_lt (Nat.lt_add_of_pos_right (by decide)))
  have ne3 : C ≠ D := by intro e; rw [hC2, hD2] at e; exact absurd e (Nat.ne_of_gt (Nat.lt_succ_self _))
  have fresh : ∀ {x : Addr}, I ≤ x → s₁.heap.get? x = none := fun hx => Heap.get?_none_of_le (by rw [hI]; exact hx)
  have fD : s₁.heap.get? D = none := fresh (by rw [hD2]; exact Nat.le_succ _)
  have fC : s₁.heap.get? C = none := fresh (by rw [hC2]; exact Nat.le_add_right _ _)
  have fI : s₁.heap.get? I = none := fresh (Nat.le_refl _)
  have s₁I : ∀ x o, s₁.heap.get? x = some o → x ≠ I := fun x o e hx => by rw [hx, fI] at e; cases e
  have s₁C : ∀ x o, s₁.heap.get? x = some o → x ≠ C := fun x o e hx => by rw [hx, fC] at e; cases e
  have s₁D : ∀ x o, s₁.heap.get? x = some o → x ≠ D := fun x o e hx => by rw [hx, fD] at e; cases e
  have W := Walks.list (prog := prog) (w := w) (A := A) hh I l (Nat.ne_of_lt hlt) vs.toArray
  have hsize : vs.toArray.size = vs.length := by simp
  rw [hsize] at W
  have loop : codeAny (model prog w) A (.compLoop (.ListComp (.Name x pe) [⟨.Tuple [.Name a pa, .Name b pb] kk tp, iter, [], 0⟩, ⟨.Name x px, i1, [], 0⟩] scope pos) 0 (.ref I) (.ref D) (compEnvC scope cl C env))
      (compPost (model prog w) A E (some (assign (.Name y py) env)) (fun _ s' => Q .next s') (.ref D) C) { s₁ with heap := h₁, toks := s₁.toks + ([] : List (Str × Value)).length } := by
    refine codeAny_loop rfl
      (fun k s' => ∃ h' tk i m' vs', s' = { s₁ with heap := h', toks := tk } ∧ i ≤ vs.length ∧ k = vs.length + 1 - i ∧ h'.IsListIter I l i ∧ Kp s₁.heap h' ∧ h'.Ns C m' ∧ h'.get? D = some (LCg.lst vs') ∧ IntsAre vs' ((ps.take i).flatMap rng))
      ?_ (vs.length + 1) ⟨h₁, _, 0, _, [], rfl, Nat.zero_le _, rfl, hit₁, keep₁, hns₁, hacc₁, .nil⟩
    rintro k s' ⟨h', tk, i, m', vs', rfl, hi, rfl, hit, hk, hn, hac, hvs'⟩
    show wpAny _ A ((compTurn (.ListComp (.Name x pe) [⟨.Tuple [.Name a pa, .Name b pb] kk tp, iter, [], 0⟩, ⟨.Name x px, i1, [], 0⟩] scope pos) 0 (.ref I) (.ref D) (compEnvC scope cl C env)).onRaise (fun y => do noteFrame y (compEnvC scope cl C env); theTreesLotGoes y)) _ _ _
    refine wpAny_noted ?_
    rw [ct0]
    refine wpAny_bind (wpAny_standAt (wpAny_bind ?_))
    have hl' : h'.IsList l vs.toArray := hl.at fun o e => hk _ _ e
    by_cases hlt2 : i < vs.length
    · refine W.item i _ _ _ hlt2 ⟨hit, hl'⟩ fun v h₂ tk₂ hP st₂ hk₂ => ?_
      have k2 : ∀ x o, x ≠ I → h'.get? x = some o → h₂.get? x = some o := fun x o hx e => hk₂ x o (by simpa using hx) e
      obtain ⟨q, hq, a', t, u, rfl, ht⟩ := hps.get (by simpa using hP)
      have kk2 : Kp s₁.heap h₂ := fun x o e => k2 x o (s₁I x o e) (hk x o e)
      show wpAny _ A (letOwnedTupleGo (.Tuple [.Name a pa, .Name b pb] kk tp) (.ref I) (.ref a') >>= _) _ _ _
      refine wpAny_bind (wpAny_letOwnedTupleGo_listiter st₂.1 ?_)
      have ht2 : h₂.IsTuple a' #[.int q.1 t, .int q.2 u] := by obtain ⟨o, ho, hc, hd⟩ := ht; exact ⟨o, kk2 _ _ ho, hc, hd⟩
      refine wpAny_bind (kcp_assign (env := compEnvC scope cl C env) hh ht2 (lookup_relabel_local hxa) (lookup_relabel_local hxb) (by simp [compEnvC, relabel, hkind]) (hn.at' fun o e => k2 _ o ne2 e) fun h₄ tk₄ hn₄ hk₄ => ?_)
      have k4 : Kp s₁.heap h₄ := fun x o e => hk₄ x o (s₁C x o e) (kk2 x o e)
      refine wpAny_bind (wpAny_mono (hi1 C q.1 q.2 t u _ _ _ k4 fC hn₄ (by simp [Ne.symm hab]) (by simp)) (fun v s₅ hv => ?_) fun _ _ e => e)
      obtain ⟨r, h₅, tk₅, t1, u1, v1, rfl, rfl, k5, hr5⟩ := hv
      refine wpAny_bind (wpAny_standAt (wpAny_bind (wpAny_of_eq (hs1 _ _) (wpAny_bind (wpAny_holding ?_)))))
      obtain ⟨b1, b2, b3⟩ := hbd q (List.mem_of_getElem? hq)
      refine wpAny_pyIter_range hr5 (small_one (by omega) (by omega) (by omega) (by omega)) ?_
      have hac5 : h₅.get? D = some (LCg.lst vs') := k5 _ _ (hk₄ _ _ (Ne.symm ne3) (k2 _ _ ne1 hac))
      have hn5 := hn₄.at' (h' := h₅) fun o e => k5 _ _ e
      have hCl : C < h₅.objs.size := hn5.lt
      have hDl : D < h₅.objs.size := Heap.lt_size hac5
      have hIl : I < h₅.objs.size := by
        obtain ⟨o, ho, _⟩ := st₂.1
        exact Heap.lt_size (k5 _ _ (hk₄ _ _ (Ne.symm ne2) ho))
      have hsum : vs'.length + (rng q).length ≤ 1000 := by
        have h1 := hvs'.length
        have h2 : ((ps.take (i + 1)).flatMap rng).length ≤ (ps.flatMap rng).length := by
          have e : ps.flatMap rng = (ps.take (i + 1)).flatMap rng ++ (ps.drop (i + 1)).flatMap rng := by rw [← List.flatMap_append, List.take_append_drop]
          rw [e, List.length_append]; omega
        rw [List.take_add_one, hq, List.flatMap_append, List.length_append] at h2
        simp only [Option.toList_some, List.flatMap_cons, List.flatMap_nil, List.append_nil] at h2
        omega
      rw [rng_len] at hsum
      have hm0 : (A.mark none).handled = none := by simp [Around.mark, hh]
      have hitJ : IsRangeIter (h₅.push { cls := .type "range_iterator", data := .fields #[.int q.1 0, .int (Builtin.Range.rangeSize q.1 (q.2 + 1) 1) 0, .int 1 0] }) h₅.objs.size q.1 (((q.2 + 1 - q.1).toNat : Nat) : Int) 1 := by
        rw [← show Builtin.Range.rangeSize q.1 (q.2 + 1) 1 = (((q.2 + 1 - q.1).toNat : Nat) : Int) by rw [rangeSize_one]; split <;> omega]
        exact Heap.get?_push_size _ rfl
      have up5 : ∀ {b o} (oo : Obj), h₅.get? b = some o → (h₅.push oo).get? b = some o := fun _ e => Heap.get?_push_of_some _ e
      refine wpAny_bind (wpAny_runOwn (nest_start hm0 (lookup_relabel_local hxx) (by simp [compEnvC, relabel, hkind]) rfl (Nat.ne_of_gt hDl) (Nat.ne_of_gt hCl) (Ne.symm ne3)
        (fun s m v Q E hn hm hQ => wpAny_Name (wpAny_loadName_local (by simp [compEnvC, relabel, hkind]) (lookup_relabel_local hxx) hn hm hQ) hd)
        hitJ (up5 _ hac5) (hn5.at' fun o e => up5 _ e) hsum fun h6 tk6 m6 zs hn6 hD6 hzs hk6 => ?_))
      have k6 : ∀ {b o}, b ≠ C → b ≠ D → h₅.get? b = some o → h6.get? b = some o := fun b1 b2 e => hk6 _ _ b1 (Nat.ne_of_lt (Heap.lt_size e)) b2 (up5 _ e)
      refine wpAny_pure ⟨rfl, vs.length + 1 - (i + 1), by omega, h6, tk6, i + 1, m6, vs' ++ zs, rfl, hlt2, rfl, ?_, ?_, hn6, hD6, ?_⟩
      · obtain ⟨o, ho, r⟩ := st₂.1
        exact ⟨o, k6 (Ne.symm ne2) (Ne.symm ne1) (k5 _ _ (hk₄ _ _ (Ne.symm ne2) ho)), r⟩
      · exact fun b o e => k6 (s₁C b o e) (s₁D b o e) (k5 _ _ (k4 b o e))
      · rw [List.take_add_one, hq, List.flatMap_append]
        simp only [Option.toList_some, List.flatMap_cons, List.flatMap_nil, List.append_nil]
        exact hvs'.append hzs
    · have hin : i = vs.length := by omega
      subst hin
      refine W.done _ _ _ ⟨hit, hl'⟩ fun h₂ tk₂ hk₂ => ?_
      have k2 : ∀ x o, x ≠ I → h'.get? x = some o → h₂.get? x = some o := fun x o hx e => hk₂ x o (by simpa using hx) e
      refine wpAny_pure ?_
      have hnL : h₂.Ns env.locals m := hnsL.at' fun o e => k2 _ o (fun hx => by rw [hx, fI] at e; cases e) (hk _ o e)
      have hCL : C ≠ env.locals := fun hx => by
        obtain ⟨o, _, _, e, _⟩ := hnsL
        rw [← hx, fC] at e; cases e
      have hDL : D ≠ env.locals := fun hx => by
        obtain ⟨o, _, _, e, _⟩ := hnsL
        rw [← hx, fD] at e; cases e
      show wpAny _ A (assign (.Name y py) env (.ref D)) _ _ _
      refine wpAny_assign_Name (wpAny_storeName_local hy hnL (fun h₃ hn₃ hs₃ => ?_) hp)
      refine ⟨m', (hn.at' fun o e => k2 _ o ne2 e).sameBut hs₃ hCL, fun h₄ hs₄ => fin D h₄ _ vs' fD (fun x o hxL e => ?_) (hn₃.sameBut hs₄ (Ne.symm hCL)) ?_ ?_⟩
      · exact hs₄.extBut x o (fun hx => by rw [hx, fC] at e; cases e) (hs₃.extBut x o hxL (k2 x o (fun hx => by rw [hx, fI] at e; cases e) (hk x o e)))
      · exact hs₄.extBut _ _ (Ne.symm ne3) (hs₃.extBut _ _ hDL (k2 _ _ ne1 hac))
      · rw [hps.length, List.take_length] at hvs'
        exact hvs'
  refine codeAny_compStart_list loop ?_
  exact wpAny_pyIter_listiter hit₁ loop
end

section
variable {w : World} {mean : ExcName → Option Value} {mg mb : Str → Option Value} {dp un : Nat} {fr : Option (List Env)} {gd : Option (List Code)} {s : Shared} {Q E : Value → Shared → Prop}
local macro_rules | `(tactic| walk_at "subscriptTail") => `(tactic| (k_here; (with_reducible show wpAny _ _ (subscriptTail _ _ (Value.ref _) (Value.int _ _)) _ _ _); k_dflt (refine' item_tupleT ?t ?a ?b ?c ?d ?_; (case t => assumption); (case a => decide); (case b => decide); (case c => rfl); (case d => rfl); k_whole)))
local macro_rules | `(tactic| walk_at "call type:dict") => `(tactic| (k_here; refine Halt.out ?_))
local macro_rules | `(tactic| walk_at "exec Assign cons ListComp") => `(tactic| (k_here; refine Halt.out ?_))
local macro_rules | `(tactic| walk_at "eval ListComp") => `(tactic| (k_here; refine Halt.out ?_))
local macro_rules | `(tactic| walk_at "subscriptTail Name Slice ref ref") => `(tactic| (k_here; refine Halt.out ?_))
local macro_rules | `(tactic| walk_at "subscriptTail Call Slice ref ref") => `(tactic| (k_here; refine Halt.out ?_))
local macro_rules | `(tactic| walk_at "binaryOp Add ref ref") => `(tactic| (k_here; refine Halt.out ?_))
local macro_rules | `(tactic| walk_at "compareOp NotEq ref ref") => `(tactic| (k_here; refine Halt.out ?_))
theorem off1_mem {D : Addr} : ∀ {l : List (Addr × Obj)}, LCg.Off1 D l → ∀ p ∈ l, p.1 ≠ D
  | [], _, p, hp => by cases hp
  | q :: r, h, p, hp => by
    rcases List.mem_cons.mp hp with rfl | hp
    · exact h.1
    · exact off1_mem h.2 p hp
theorem pairs_snoc {h : Heap} {ys : List Value} {kvs : List (Int × Value)} {p : Int × Value} {a : Addr} {t : Tok} {o : Obj} {n : Nat} (x : PairsAt h ys.toArray kvs) (ho : h.get? a = some o) (hc : o.cls = .type "tuple") (hd : o.data = .seq #[.int p.1 t, p.2] n) : PairsAt h (ys ++ [Value.ref a]).toArray (kvs ++ [p]) := by
  have hl : ys.length = kvs.length := by simpa using x.1
  refine ⟨by simp [hl], fun i q hq => ?_⟩
  by_cases hi : i < kvs.length
  · rw [List.getElem?_append_left hi] at hq
    obtain ⟨a', t', o', n', x1, x2⟩ := x.2 i q hq
    refine ⟨a', t', o', n', ?_, x2⟩
    rw [List.getElem?_toArray] at x1 ⊢
    rw [List.getElem?_append_left (by omega)]; exact x1
  · have hi2 : i = kvs.length := by
      have := (List.getElem?_eq_some_iff.mp hq).1
      rw [List.length_append, List.length_singleton] at this; omega
    subst hi2
    rw [List.getElem?_concat_length] at hq
    cases hq
    refine ⟨a, t, o, n, ?_, ho, hc, hd⟩
    rw [List.getElem?_toArray, ← hl, List.getElem?_concat_length]
set_option maxHeartbeats 4000000 in
theorem spec_joined (X : (heapK w.params).In s.heap) (T : Top viewK (looseW viewK []) mean mg mb s.heap) {l : Addr} {ps : List (Int × Int)} {k : Int} {t : Tok} (hl : PL s.heap l ps) (hlen : ps.length ≤ 100) (hbd : ∀ p ∈ ps, -(2 ^ 61) ≤ p.1 ∧ p.1 ≤ p.2 ∧ p.2 < 2 ^ 61)
    (hn1 : (ps.flatMap rng).length ≤ 100) (hnd : (ps.flatMap rng ++ [k]).Nodup)
    (hdp : dp + 8 < recursionLimit) (hun : un + 200 < cLine)
    (ret : ∀ D h' tk' (ms : List Int), Kp s.heap h' → s.heap.get? D = none → ms.Perm (ps.flatMap rng ++ [k]) → ms.Pairwise (fun a b => b ≤ a) → PL h' D (ms.foldl lrF []) → Q (.ref D) { s with heap := h', toks := tk' }) :
    wpAny (model PySem.Challenge.rw_pf0261_02.row.prog w) (Ar dp un fr gd) (call (.ref 224) [.ref l, .int k t]) Q E s := by
  obtain ⟨vs, hvs, hps⟩ := hl
  refine enterP [(Str.ofString "ranges", .ref l), (Str.ofString "number", .int k t)] X T (by k_is) (by k_is) (by omega) (BindsTo.of_eq rfl) (locs rfl) ?_ rfl rfl rfl (by decide)
  intro L h₁ m F hm N
  subst hm
  (try k_fold)
  k_steps
  rename Fr _ _ _ _ => F1
  rename News _ _ _ _ => N1
  refine Halt.out ?_
  refine comp_nest rfl F1.ns (by with_unfolding_all rfl) (by with_unfolding_all rfl) (by decide) (by rfl) (by decide) (by rfl) (by rfl) (by rfl) (by decide) (by rfl) (by rfl) (by rfl) ?_ (by intro _; rfl) (by intro _ _; rfl)
  k_steps
  have hvl := hps.length
  refine ⟨l, vs, ps, rfl, F1.ns, hvs.at fun o e => F1.keep _ _ e, hps.keeps F1.keep, by omega, by omega, hbd, ?_, ?_⟩
  · intro C x y t u s₃ m₃ E' k3 hC hn hx hy
    obtain ⟨oC, heC, hoC⟩ := LCg.ns_obj hn
    have F3 : Fr s.heap L s₃.heap _ := F1.after k3
    have N3 := News.grown N1 k3
    have hCL : C ≠ L := by rintro rfl; obtain ⟨o, _, _, ho, _⟩ := F1.ns; rw [hC] at ho; cases ho
    have hC0 : s.heap.get? C = none := by
      cases e : s.heap.get? C with
      | none => rfl
      | some o => rw [F1.keep _ _ e] at hC; cases hC
    have N4 : News s.heap L s₃.heap ((C, oC) :: []) := List.forall_mem_cons.mpr ⟨⟨heC, hCL, hC0⟩, N3⟩
    clear F1 N1 N3
    k_steps
    rename (∀ (b : Addr) (o : Obj), _ → _) => kk
    exact kk _ _ (by assumption)
  · generalize ps.flatMap rng = zs at *
    intro D h2 tk2 vs2 hD k2 hn2 hD2 hi2
    dsimp only at hD k2 hn2
    have hsL : s.heap.get? L = none := Heap.get?_none_of_le F1.above
    have F2 : Fr s.heap L h2 _ := ⟨hn2, fun b o e => k2 b o (fun q => by have q' : b = L := q; rw [q', hsL] at e; cases e) (F1.keep b o e), F1.above⟩
    have N2 : News s.heap L h2 [(D, LCg.lst vs2)] := by
      intro p hp
      cases List.mem_singleton.mp hp
      refine ⟨hD2, ?_, ?_⟩
      · rintro rfl
        obtain ⟨_, _, _, e, _⟩ := F1.ns
        rw [hD] at e; cases e
      · cases e : s.heap.get? D with
        | none => rfl
        | some o => rw [F1.keep _ _ e] at hD; cases hD
    clear F1 N1
    k_steps
    rename Fr _ _ _ _ => F3
    rename News _ _ _ _ => N3
    refine For_invVF F3 rfl rfl ?_
    k_steps
    refine Halt.out ?_
    refine LCg.ListComp_U (F₀ := F3) (by with_unfolding_all rfl) (by decide) (by rfl) (by decide) (by rfl) ?_
    k_steps
    refine Halt.out ?_
    rename Fr _ _ _ _ => F4
    rename News _ _ _ _ => N4
    rename_i _ lF _ lDF _ lK _ lKF
    refine kmk_add_ints (ns := zs) (ms := [k]) F4 N4 (News.isList N4 (.tail _ (.tail _ (.head _)))) (News.isList N4 (.head _)) hi2 (.cons _ _ .nil) (fun D8 us h8 F8 N8 l8 hi8 => ?_) (by rw [sizeLine_eq, List.length_singleton]; omega)
    have hns1 : (zs ++ [k]).length ≤ 101 := by rw [List.length_append, List.length_singleton]; omega
    generalize zs ++ [k] = ns at *
    have hul := hi8.length
    try clear F2 N2
    try clear F3 N3
    try clear F4 N4
    refine LCg.CompSrc.ledger rfl F8 N8 (.head _) (by rw [List.size_toArray, sizeLine_eq]; omega) fun g => ?_
    have hsz : us.toArray.size = us.length := by simp
    refine restU_inv (n := us.toArray.size) (fun i ys nw => ∃ tl, nw = (D8, PySem.W.listOf us.toArray 0) :: tl ∧ ys.length ≤ i ∧ (lF, PySem.W.listOf #[] 0) ∈ tl ∧ ∀ h, Kp s.heap h → News s.heap L h tl → PairsAt h ys.toArray ((ns.take i).map fun x => (x, Value.bool true))) ?_ ?_ _ 0 [] _ (by simp) ⟨_, rfl, Nat.le_refl _, .tail _ (.head _), fun _ _ _ => ⟨rfl, fun i p h => by cases h⟩⟩
    · rintro i v ys nw I oI C oC D9 m₂ h tk E' hi hv ⟨tl, rfl, hyl, hin, hys⟩ hC hx F3 N3 off ne
      obtain ⟨x, tx, rfl, hx2⟩ := ints_at hi8 (i := i) (by simpa using hv)
      have hst : (ns.take (i + 1)).map (fun x => (x, Value.bool true)) = (ns.take i).map (fun x => (x, Value.bool true)) ++ [(x, Value.bool true)] := by
        rw [List.take_add_one, hx2, Option.toList_some, List.map_append]; rfl
      clear F8 N8
      k_steps
      rename Fr _ _ _ _ => F4
      rename News _ _ _ _ => N4
      rename (_ < _ ∧ _) => g2
      refine cend_tup F4 N4 off g2 (.inr ⟨_, .head _, rfl, _, rfl⟩) ⟨_, rfl, by simp; omega, .tail _ hin, fun h k N => ?_⟩
      rw [hst]
      exact pairs_snoc (hys h k (News.tl N)) (N _ (.head _)).1 rfl rfl
    · rintro ys nw ⟨tl, rfl, hyl, hin, hys⟩
      intro D9 h9 tk9 F9 N9 off9
      have pairs := hys _ F9.keep (News.tl (News.tl N9))
      rw [hsz, hul, List.take_length] at pairs
      have o9 : lF ≠ D9 := off1_mem off9 _ (.tail _ hin)
      have N10 : News s.heap L h9 [(D9, LCg.lst ys), (lF, PySem.W.listOf #[] 0)] := News.sub N9 (List.forall_mem_cons.mpr ⟨.head _, List.forall_mem_cons.mpr ⟨.tail _ (.tail _ hin), List.forall_mem_nil _⟩⟩)
      clear N9 F8 N8 hys off9
      k_steps
      refine Halt.out ?_
      rename Fr _ _ _ _ => F11
      rename News _ _ _ _ => N11
      have hmap : (ns.map fun x => (x, Value.bool true)).map (·.1) = ns := by rw [List.map_map]; exact List.map_id ns
      refine call_dict_pairs rfl (N11 _ (.head _)).1 pairs (by rw [hmap]; exact hnd) (by rw [List.length_map]; omega) fun h12 tk12 hd12 k12 => ?_
      have hl0 : 0 < s.heap.objs.size := by
        obtain ⟨o, e, _⟩ := hvs
        exact Nat.lt_of_le_of_lt (Nat.zero_le _) (Heap.lt_size e)
      have hdn : 1 < h9.objs.size := Nat.lt_of_le_of_lt (Nat.lt_of_lt_of_le hl0 F11.above) F11.ns.lt
      have hdn : (h9.objs.size == sysModules) = false := by
        rw [beq_eq_false_iff_ne]
        exact Nat.ne_of_gt hdn
      have F12 := F11.after k12
      have N12 := News.grown N11 k12
      clear F11 N11
      dsimp only at hd12
      k_steps
      rename Fr _ _ _ _ => F13
      rename News _ _ _ _ => N13
      refine Halt.out ?_
      refine sorted_dict_N rfl F13 N13 hdn hd12 (by rw [List.length_map]; omega) fun D14 vs14 ns14 e14 h14 tk14 F14 N14 l14 hv14 hp14 ho14 => ?_
      rw [hmap] at hp14
      have hl2 : vs14.length < 128 := by rw [hv14.length, hp14.length_eq]; omega
      clear F13 N13
      k_steps
      (try dsimp only)
      refine krv_lit (s := { s with heap := h14, toks := _ }) (its := vs14.toArray) (zs := vs14.reverse) F14 N14 (News.isList N14 (.head _)) (IsPart.int _ _) rfl (fun D3 h3 F3 N3 l3 => ?_) (by with_unfolding_all rfl) (by intro _; with_unfolding_all rfl) (by rw [List.size_toArray, sizeLine_eq]; omega)
      clear F14 N14
      dsimp only [pyIter]
      have hv3 : vs14.reverse.length < 128 := by rw [List.length_reverse]; exact hl2
      have hi3 : IntsAre vs14.reverse ns14.reverse := hv14.reverse
      have hp3 : ns14.reverse.Perm ns := (List.reverse_perm _).trans hp14
      generalize vs14.reverse = xs at *
      have ho3 : ns14.reverse.Pairwise (fun a b => b ≤ a) := List.pairwise_reverse.mpr ho14
      generalize ns14.reverse = ms at *
      refine kdl_iter (LRJ s.heap L D3 ms) rfl (.tail _ (.head _)) F3 (News.sub (r' := [(lF, _), (D3, _)]) N3 (List.forall_mem_cons.mpr ⟨.tail _ (.tail _ (.tail _ (.head _))), List.forall_mem_cons.mpr ⟨.head _, List.forall_mem_nil _⟩⟩)) ?_ ?_ ?_
      · exact ⟨_, [], 0, _, rfl, rfl, Nat.zero_le _, Nat.ne_of_gt (l3 _ (.tail _ (.tail _ (.head _)))), List.forall_mem_cons.mpr ⟨Nat.ne_of_gt (l3 _ (.tail _ (.tail _ (.head _)))), List.forall_mem_nil _⟩, fun _ _ _ => .nil⟩
      · rintro i v m₁ nx h' tk' own hv hoff hin ⟨D1, vs', n, tl, rfl, e1, hln, h31, hDo, hout⟩ F2 N2
        obtain ⟨k, t, rfl, hk⟩ : ∃ k t, v = .int k t ∧ ms[i]? = some k := ints_at hi3 hv
        rw [List.cons_append] at N2
        have hown : ∀ q ∈ own, q.1 ≠ D1 ∧ ∀ p ∈ tl, q.1 ≠ p.1 := fun q hq => ⟨hoff q hq D1 (by simp), fun p hp => hoff q hq p.1 (by simp; exact .inr ⟨p.2, hp⟩)⟩
        have hD : ∀ p ∈ tl ++ own, p.1 ≠ D1 := by
          intro p hp
          rcases List.mem_append.mp hp with hp | hp
          · exact hDo p hp
          · exact (hown p hp).1
        have hst : (ms.take (i + 1)).foldl lrF [] = lrF ((ms.take i).foldl lrF []) k := by
          rw [List.take_add_one, hk, Option.toList_some, List.foldl_append]
          rfl
        generalize hf : (ms.take i).foldl lrF [] = f at *
        clear F3 N3 hoff
        have hfl : f.length ≤ i := by rw [← (hout _ F2.keep (News.sub N2 fun p hp => .tail _ (List.mem_append.mpr (.inl hp)))).length]; exact hln
        have hil : i < xs.length := (List.getElem?_eq_some_iff.mp hv).1
        k_steps
        rename Fr _ _ _ _ => F3
        rename News _ _ _ _ => N3
        rename (_ < _ ∧ AllLt _ _) => g3
        have hPL : PL _ D1 f := ⟨vs', ⟨_, (N3 _ (.tail _ (.head _))).1, rfl, _, rfl⟩, hout _ F3.keep (News.sub N3 fun p hp => .tail _ (.tail _ (List.mem_append.mpr (.inl hp))))⟩
        refine ne_PL (ps := f) (qs := []) hPL ⟨[], ⟨_, (N3 _ (.head _)).1, rfl, _, rfl⟩, .nil⟩ (by show un + 3 + 64 < _; omega) ?_
        rcases List.eq_nil_or_concat f with rfl | ⟨g, q, rfl⟩
        · dsimp only [List.nil_append, decide_true, Bool.not_true]
          k_steps
          rename Fr _ _ _ _ => F4
          rename News _ _ _ _ => N4
          rename (_ < _ ∧ _ < _ ∧ AllLt _ _) => g4
          (try simp only [List.push_toArray] at N4)
          refine lr_end F4 N4 e1 (by simp; omega) hDo (hst ▸ fun h k N => (hout h k (News.tl N)).append (.one (pv_tup N (.head _)))) hin (.head _) (.tail _ (.tail _ (.head _))) (fun p hp => .tail _ (.tail _ (.tail _ hp))) g4.2.1 (fun p hp => (allLt_mem g4.2.2 p hp)) h31 hown
        · have hne : g.concat q ≠ [] := by simp
          rw [decide_eq_false hne]
          dsimp only [Bool.not_false]
          repeat' ((fail_if_success (with_reducible show wpAny _ _ (subscriptTail _ _ (Value.ref _) (Value.int (-1) _)) _ _ _)); (first | (k_unfold; (try dsimp only)) | (k_end; wrow_close) | walk1 | (dsimp only; walk1) | (leave1; walk_say "STEP leave1"; try dsimp only) | fail "no step"))
          refine item_PL_last (p := q) hPL rfl (by simp) fun a x y ht => ?_
          repeat' ((fail_if_success (with_reducible show wpAny _ _ (subscriptTail _ _ (Value.ref _) (Value.int (-1) _)) _ _ _)); (first | (k_unfold; (try dsimp only)) | (k_end; wrow_close) | walk1 | (dsimp only; walk1) | (leave1; walk_say "STEP leave1"; try dsimp only) | fail "no step"))
          · refine item_PL_last (p := q) hPL rfl (by simp) fun a2 x2 y2 ht2 => ?_
            k_steps
            rename Fr _ _ _ _ => F4
            rename News _ _ _ _ => N4
            rename (_ < _ ∧ _ < _ ∧ AllLt _ _) => g4
            rename (q.1 = k + 1) => gq
            have hl2 : lrF (g.concat q) k = g ++ [(k, q.2)] := by
              unfold lrF; rw [if_pos ⟨hne, by simpa using gq⟩]; simp
            rw [List.concat_eq_append] at hout
            obtain ⟨ws, v, rfl, hwl⟩ := (hout _ F4.keep (News.sub N4 fun p hp => .tail _ (.tail _ (.tail _ (List.mem_append.mpr (.inl hp)))))).unsnoc
            refine set_last F4 N4 (.tail _ (.tail _ (.head _))) (List.forall_mem_cons.mpr ⟨⟨.head _, Nat.ne_of_gt g4.2.1⟩, fun p hp => ⟨.tail _ (.tail _ (.tail _ hp)), hD p hp⟩⟩) fun h' F5 N5 => ?_
            clear F4 N4
            k_steps
            refine lr_end F5 N5 e1 (by simp at hln ⊢; omega) hDo (by rw [hst, hl2]; exact fun h k N => ((hout h k (News.tl N)).left hwl).append (.one (pv_tup N (.head _)))) hin (.tail _ (.head _)) (.head _) (fun p hp => .tail _ (.tail _ hp)) g4.2.1 (fun p hp => (allLt_mem g4.2.2 p hp)) h31 hown
          · rename Fr _ _ _ _ => F4
            rename News _ _ _ _ => N4
            rename (_ < _ ∧ _ < _ ∧ AllLt _ _) => g4
            rename (q.1 ≠ k + 1) => gq
            (try simp only [List.push_toArray] at N4)
            have hl2 : lrF (g.concat q) k = g.concat q ++ [(k, k)] := by
              unfold lrF; rw [if_neg]; rintro ⟨_, h⟩; exact gq (by simpa using h)
            refine lr_end F4 N4 e1 (by simp; omega) hDo (by rw [hst, hl2]; exact fun h k N => (hout h k (News.tl N)).append (.one (pv_tup N (.head _)))) hin (.head _) (.tail _ (.tail _ (.head _))) (fun p hp => .tail _ (.tail _ (.tail _ hp))) g4.2.1 (fun p hp => (allLt_mem g4.2.2 p hp)) h31 hown
      · rintro m₁ nx h' tk' ⟨D1, vs', n, tl, rfl, e1, hln, h31, hDo, hout⟩ F2 N2
        clear F3 N3
        rw [hi3.length] at hout
        rw [List.take_length] at hout
        k_steps
        show Q (.ref D1) _
        refine ret _ _ _ _ F2.keep (N2 _ (.head _)).2.2 hp3 ho3 ⟨vs', ⟨_, (N2 _ (.head _)).1, rfl, _, rfl⟩, hout _ F2.keep (News.tl N2)⟩
end

theorem IsList.hid {h : Heap} {x l : Addr} {o : Obj} {vs : Array Value} (e : h.IsList l vs) (hx : h.get? x = some o) (hl : l ≠ x) : (hid h x).IsList l vs := by
  obtain ⟨o', ho, r⟩ := e
  exact ⟨o', by rw [hid_ne hl]; exact ho, r⟩
theorem isList_ne {h : Heap} {x l : Addr} {o : Obj} {vs : Array Value} (e : h.IsList l vs) (hx : h.get? x = some o) (hc : o.cls ≠ .type "list") : l ≠ x := by
  rintro rfl
  obtain ⟨o', ho, hc', _⟩ := e
  rw [hx] at ho; cases ho; exact hc hc'
section
variable {w : World} {mean : ExcName → Option Value} {mg mb : Str → Option Value} {dp un : Nat} {fr : Option (List Env)} {gd : Option (List Code)} {s : Shared} {Q E : Value → Shared → Prop}

local macro_rules | `(tactic| walk_at "subscriptTail") => `(tactic| (k_here; (with_reducible show wpAny _ _ (subscriptTail _ _ (Value.ref _) (Value.int _ _)) _ _ _); k_dflt (refine' item_tupleT ?t ?a ?b ?c ?d ?_; (case t => assumption); (case a => decide); (case b => decide); (case c => rfl); (case d => rfl); k_whole)))
local macro_rules | `(tactic| walk_at "exec For Name Tuple cons nil") => `(tactic| (k_here; refine Halt.out ?_))
local macro_rules | `(tactic| walk_at "subscriptTail Name Slice ref ref") => `(tactic| (k_here; refine Halt.out ?_))
set_option maxHeartbeats 8000000 in
theorem spec_known_right {h₀ : Heap} {x d r e R : Addr} {ps : List (Int × Int)} {f : Int} {tf tf2 e1 e2 e3 : Tok} {t : Nat → Tok} {nm nn sn la ac le lo ls lt fu ua wn hn ig : Value}
    (X : (heapK w.params).In h₀) (T : Top viewK (looseW viewK []) mean mg mb h₀) (k0 : Kp h₀ s.heap) (hx0 : h₀.get? x = none) (hd0 : h₀.get? d = none) (hxd : x ≠ d)
    (hx : s.heap.get? x = some (instObj 196 d)) (hD : s.heap.get? d = some (spD w.params t nm nn sn la ac le lo (.ref r) ls lt (.int f tf) fu ua wn hn (.ref e) ig)) (hs : Seen ls lt fu)
    (hr : PL s.heap r ps) (hR : PL s.heap R ps) (hE : s.heap.IsList e #[.int 0 e1, .int 0 e2, .int 0 e3])
    (hps : 0 < ps.length) (hps2 : ps.length ≤ 64)
    (hdp : dp + 100 < recursionLimit) (hun : un + 1000 < cLine)
    (ret : ∀ h' tk', Kp s.heap h' → Q (.bool true) { s with heap := h', toks := tk' }) :
    wpAny (model PySem.Challenge.rw_pf0261_02.row.prog w) (Ar dp un fr gd) (call (.ref 231) [.ref x, .ref R, .int f tf2]) Q E s := by
  obtain ⟨kg, kb, ks, kl, e1'⟩ := two_hid k0 hx0 hd0 hx hD hxd
  replace X := X.keeps kg
  replace T := T.keeps kg
  have hr2 := (hr.hid hx (by simp) (by simp)).hid e1' (by simp [spD]) (by simp [spD])
  have hR2 := (hR.hid hx (by simp) (by simp)).hid e1' (by simp [spD]) (by simp [spD])
  have hE2 := IsList.hid (IsList.hid hE hx (isList_ne hE hx (by simp))) e1' (isList_ne hE hD (by simp [spD]))
  refine enterB (hid (hid s.heap x) d) _ [(Str.ofString "space", .ref x), (Str.ofString "ranges", .ref R), (Str.ofString "floor", .int f tf2)] X T kb ks kl (by k_is) (by k_is) (by omega) (BindsTo.of_eq rfl) (locs rfl) ?_ rfl rfl rfl (by decide)
  intro L h₁ m F hm N kh
  subst hm
  generalize hg : hid (hid s.heap x) d = g at *
  obtain ⟨pl, hpl⟩ : ∃ p, ps[ps.length - 1]? = some p := ⟨_, List.getElem?_eq_getElem (by omega)⟩
  obtain ⟨p0, hp0⟩ : ∃ p, ps[0]? = some p := ⟨_, List.getElem?_eq_getElem (by omega)⟩
  have hlast : ps.getLastD (0, 0) = pl := by rw [List.getLastD_eq_getLast?, List.getLast?_eq_getElem?, hpl]; rfl
  (try dsimp only)
  (try k_fold)
  repeat' ((fail_if_success (with_reducible show wpAny _ _ (subscriptTail _ _ (Value.ref R) _) _ _ _)); (first | (k_unfold; (try dsimp only)) | (k_end; wrow_close) | walk1 | (dsimp only; walk1) | (leave1; walk_say "STEP leave1"; try dsimp only) | fail "no step"))
  refine item_PL_last (hR2.keeps F.keep) rfl hpl fun a5 x5 y5 ht5 => ?_
  repeat' ((fail_if_success (with_reducible show wpAny _ _ (subscriptTail _ _ (Value.ref R) _) _ _ _)); (first | (k_unfold; (try dsimp only)) | (k_end; wrow_close) | walk1 | (dsimp only; walk1) | (leave1; walk_say "STEP leave1"; try dsimp only) | fail "no step"))
  refine item_PL (hR2.keeps F.keep) (by decide) (by decide) hp0 fun a0 x0 y0 ht0 => ?_
  k_steps
  rename Fr _ _ _ _ => F1
  rename News _ _ _ _ => N1
  refine Halt.out ?_
  refine For_invVF F1 rfl rfl ?_
  k_steps
  refine Halt.out ?_
  rename Fr _ _ _ _ => F11
  rename News _ _ _ _ => N11
  rename (_ < _ ∧ _ ∧ _) => l11
  have hN11 := News.sub (r' := [(x, instObj 196 d), (d, spD w.params t nm nn sn la ac le lo (.ref r) ls lt (.int f tf) fu ua wn hn (.ref e) ig)]) N11 (fun p hp => .tail _ (.tail _ hp))
  refine iterTup (T := _) (fun _ m nx => m (Str.ofString "space") = some (.ref x) ∧ m (Str.ofString "ranges") = some (.ref R) ∧ m (Str.ofString "floor") = some (.int f tf2) ∧ m (Str.ofString "low") = some (.int pl.1 x5) ∧
      nx = [(x, instObj 196 d), (d, spD w.params t nm nn sn la ac le lo (.ref r) ls lt (.int f tf) fu ua wn hn (.ref e) ig)]) rfl ⟨_, (N11 _ (.head _)).1, rfl, _, rfl⟩ (N11 _ (.head _)).2.1 F11 hN11 ⟨rfl, rfl, rfl, rfl, rfl⟩ ?_ ?_ ?_
  · rintro j m nx ⟨_, _, _, _, rfl⟩
    exact List.forall_mem_cons.mpr ⟨Nat.ne_of_lt l11.2.1, List.forall_mem_cons.mpr ⟨Nat.ne_of_lt l11.2.2, List.forall_mem_nil _⟩⟩
  · rintro j v9 m₂ nx h12 tk12 own hv9 hoff ⟨q1, q2, q3, q4, rfl⟩ F12 N12
    obtain ⟨k, tk, rfl⟩ : ∃ k t, v9 = .int k t := by
      have := List.mem_of_getElem? hv9
      simp only [List.mem_cons, List.not_mem_nil, or_false] at this
      rcases this with rfl | rfl | rfl | rfl | rfl | rfl | rfl <;> exact ⟨_, _, rfl⟩
    clear F11 hN11 N11
    by_cases g1 : k < f
    · have hkn : knownR f ps k = true := by unfold knownR; rw [decide_eq_true g1]; rfl
      k_steps
      all_goals first | (exfalso; omega) | skip
      rename Fr _ _ _ _ => F13
      rename News _ _ _ _ => N13
      refine spec_is_known (h₀ := g) (s := { s with heap := _, toks := _ }) X T F13.keep (N13 _ (.head _)).2.2 (N13 _ (.tail _ (.head _))).2.2 hxd (N13 _ (.head _)).1 (N13 _ (.tail _ (.head _))).1 (hr2.keeps F13.keep) (by omega) (by show dp + 1 + 20 < _; omega) (by show un + 3 + 300 < _; omega) fun h14 tk14 k14 => ?_
      have F14 : Fr _ L h14 _ := F13.after k14
      have N14 := News.grown N13 k14
      clear F13 N13
      rw [hkn]
      k_steps
      all_goals first
        | (exfalso; rename ((_ != _) = true) => aa; first | (exact absurd aa (by decide)) | (simp [g1] at aa; done) | (simp [g3] at aa; done))
        | (rename Fr _ _ _ _ => F15; rename News _ _ _ _ => N15; refine InvEndG.intro F15 N15 ?_ hoff (fun p hp => List.mem_append.mpr (.inl hp)) (fun p hp => List.mem_append.mpr (.inr hp)); exact ⟨q1, q2, q3, q4, rfl⟩)
    · by_cases g2 : 64 ≤ ps.length
      · have hc : ((64 : Int) ≤ ps.length) := by omega
        by_cases g3 : k < pl.1
        · have hkn : knownR f ps k = true := by unfold knownR; rw [hlast, decide_eq_true g2, decide_eq_true g3]; simp
          repeat' ((fail_if_success (with_reducible show wpAny _ _ (call (Value.builtin "len") _) _ _ _)); (first | (k_unfold; (try dsimp only)) | (k_end; wrow_close) | walk1 | (dsimp only; walk1) | (leave1; walk_say "STEP leave1"; try dsimp only) | fail "no step"))
          all_goals first | (exfalso; omega) | skip
          refine len_PL (hR2.keeps F12.keep) (by omega) fun t5 tk5 => ?_
          k_steps
          all_goals first | (exfalso; omega) | skip
          rename Fr _ _ _ _ => F13
          rename News _ _ _ _ => N13
          refine spec_is_known (h₀ := g) (s := { s with heap := _, toks := _ }) X T F13.keep (N13 _ (.head _)).2.2 (N13 _ (.tail _ (.head _))).2.2 hxd (N13 _ (.head _)).1 (N13 _ (.tail _ (.head _))).1 (hr2.keeps F13.keep) (by omega) (by show dp + 1 + 20 < _; omega) (by show un + 3 + 300 < _; omega) fun h14 tk14 k14 => ?_
          have F14 : Fr _ L h14 _ := F13.after k14
          have N14 := News.grown N13 k14
          clear F13 N13
          rw [hkn]
          k_steps
          all_goals first
            | (exfalso; rename ((_ != _) = true) => aa; first | (exact absurd aa (by decide)) | (simp [g1] at aa; done) | (simp [g3] at aa; done))
            | (rename Fr _ _ _ _ => F15; rename News _ _ _ _ => N15; refine InvEndG.intro F15 N15 ?_ hoff (fun p hp => List.mem_append.mpr (.inl hp)) (fun p hp => List.mem_append.mpr (.inr hp)); exact ⟨q1, q2, q3, q4, rfl⟩)
        · have hkn : knownR f ps k = hasN ps k := by unfold knownR; rw [hlast, decide_eq_false g1, decide_eq_false g3]; simp
          repeat' ((fail_if_success (with_reducible show wpAny _ _ (call (Value.builtin "len") _) _ _ _)); (first | (k_unfold; (try dsimp only)) | (k_end; wrow_close) | walk1 | (dsimp only; walk1) | (leave1; walk_say "STEP leave1"; try dsimp only) | fail "no step"))
          all_goals first | (exfalso; omega) | skip
          refine len_PL (hR2.keeps F12.keep) (by omega) fun t5 tk5 => ?_
          k_steps
          all_goals first | (exfalso; omega) | skip
          rename Fr _ _ _ _ => F13
          rename News _ _ _ _ => N13
          refine spec_is_known (h₀ := g) (s := { s with heap := _, toks := _ }) X T F13.keep (N13 _ (.head _)).2.2 (N13 _ (.tail _ (.head _))).2.2 hxd (N13 _ (.head _)).1 (N13 _ (.tail _ (.head _))).1 (hr2.keeps F13.keep) (by omega) (by show dp + 1 + 20 < _; omega) (by show un + 3 + 300 < _; omega) fun h14 tk14 k14 => ?_
          have F14 : Fr _ L h14 _ := F13.after k14
          have N14 := News.grown N13 k14
          clear F13 N13
          rw [hkn]
          k_steps
          rename Fr _ _ _ _ => F15
          rename News _ _ _ _ => N15
          refine spec_has_number (s := { s with heap := _, toks := _ }) (X.keeps F15.keep) (T.keeps F15.keep) (hR2.keeps F15.keep) (by omega) (by show dp + 1 + 8 < _; omega) fun h16 tk16 k16 => ?_
          have F16 : Fr _ L h16 _ := F15.after k16
          have N16 := News.grown N15 k16
          clear F15 N15
          cases hasN ps k
          all_goals k_steps
          all_goals first
            | (exfalso; rename ((_ != _) = true) => aa; first | (exact absurd aa (by decide)) | (simp [g1] at aa; done) | (simp [g3] at aa; done))
            | (rename Fr _ _ _ _ => F15; rename News _ _ _ _ => N15; refine InvEndG.intro F15 N15 ?_ hoff (fun p hp => List.mem_append.mpr (.inl hp)) (fun p hp => List.mem_append.mpr (.inr hp)); exact ⟨q1, q2, q3, q4, rfl⟩)

      · have hc : ¬ ((64 : Int) ≤ ps.length) := by omega
        have hkn : knownR f ps k = hasN ps k := by unfold knownR; rw [decide_eq_false g1, decide_eq_false g2]; simp
        repeat' ((fail_if_success (with_reducible show wpAny _ _ (call (Value.builtin "len") _) _ _ _)); (first | (k_unfold; (try dsimp only)) | (k_end; wrow_close) | walk1 | (dsimp only; walk1) | (leave1; walk_say "STEP leave1"; try dsimp only) | fail "no step"))
        all_goals first | (exfalso; omega) | skip
        refine len_PL (hR2.keeps F12.keep) (by omega) fun t5 tk5 => ?_
        k_steps
        all_goals first | (exfalso; omega) | skip
        rename Fr _ _ _ _ => F13
        rename News _ _ _ _ => N13
        refine spec_is_known (h₀ := g) (s := { s with heap := _, toks := _ }) X T F13.keep (N13 _ (.head _)).2.2 (N13 _ (.tail _ (.head _))).2.2 hxd (N13 _ (.head _)).1 (N13 _ (.tail _ (.head _))).1 (hr2.keeps F13.keep) (by omega) (by show dp + 1 + 20 < _; omega) (by show un + 3 + 300 < _; omega) fun h14 tk14 k14 => ?_
        have F14 : Fr _ L h14 _ := F13.after k14
        have N14 := News.grown N13 k14
        clear F13 N13
        rw [hkn]
        k_steps
        rename Fr _ _ _ _ => F15
        rename News _ _ _ _ => N15
        refine spec_has_number (s := { s with heap := _, toks := _ }) (X.keeps F15.keep) (T.keeps F15.keep) (hR2.keeps F15.keep) (by omega) (by show dp + 1 + 8 < _; omega) fun h16 tk16 k16 => ?_
        have F16 : Fr _ L h16 _ := F15.after k16
        have N16 := News.grown N15 k16
        clear F15 N15
        cases hasN ps k
        all_goals k_steps
        all_goals first
          | (exfalso; rename ((_ != _) = true) => aa; first | (exact absurd aa (by decide)) | (simp [g1] at aa; done) | (simp [g3] at aa; done))
          | (rename Fr _ _ _ _ => F15; rename News _ _ _ _ => N15; refine InvEndG.intro F15 N15 ?_ hoff (fun p hp => List.mem_append.mpr (.inl hp)) (fun p hp => List.mem_append.mpr (.inr hp)); exact ⟨q1, q2, q3, q4, rfl⟩)

  · rintro m₂ nx h12 tk12 ⟨q1, q2, q3, q4, rfl⟩ F12 N12
    clear F11 hN11 N11
    have N12f := N12
    unfold spD at N12
    k_steps
    refine spec_ack_frame (h₀ := g) (s := { s with heap := _, toks := _ }) X T F12.keep (N12 _ (.head _)).2.2 (N12 _ (.tail _ (.head _))).2.2 hxd (N12 _ (.head _)).1 (N12 _ (.tail _ (.head _))).1 hs (hr2.keeps F12.keep) (by omega) (by rintro rfl; simp at hps) (hE2.at fun o e => F12.keep _ _ e) (by show dp + 1 + 50 < _; omega) (by show un + 3 + 600 < _; omega) fun D20 a20 v0 v1 v3 h20 tk20 k20 ht20 hp20 => ?_
    have F20 : Fr _ L h20 _ := F12.after k20
    have N20 := News.grown N12f k20
    obtain ⟨es, Ne, ce, fe⟩ := hp20.led F20
    obtain ⟨o20, ho20, hc20, n20, hd20⟩ := ht20
    obtain ⟨e9, N9, _, f9⟩ := one_led F20 ho20 ⟨_, _, hd20⟩
    replace N20 := News.app N20 (News.app N9 Ne)
    clear F12 N12 N12f Ne N9
    dsimp only [List.cons_append, List.nil_append] at N20
    repeat' ((fail_if_success (with_reducible show wpAny _ _ (subscriptTail _ _ (Value.ref _) _) _ _ _)); (first | (k_unfold; (try dsimp only)) | (k_end; wrow_close) | walk1 | (dsimp only; walk1) | (leave1; walk_say "STEP leave1"; try dsimp only) | fail "no step"))
    rename Fr _ _ _ _ => F21
    rename News _ _ _ _ => N21
    refine item_tupleT ⟨o20, f9 _ F21.keep (News.lft (News.tl (News.tl N21))), hc20, n20, hd20⟩ (by decide) (by decide) rfl rfl ?_
    k_steps
    obtain ⟨vR, hvR, hpR⟩ := hR2
    have hvl := hpR.length
    refine slice_L (s := { s with heap := _, toks := _ }) F21 N21 (hvR.at fun o e => F21.keep _ _ e) (by omega) (by decide) (fun D22 h22 F22 N22 l22 => ?_) (by with_unfolding_all rfl) (by intro _; with_unfolding_all rfl)
    clear F21 N21
    repeat' ((fail_if_success (with_reducible show wpAny _ _ (compareOp CmpOp.Eq (Value.ref _) (Value.ref _)) _ _ _)); (first | (k_unfold; (try dsimp only)) | (k_end; wrow_close) | walk1 | (dsimp only; walk1) | (leave1; walk_say "STEP leave1"; try dsimp only) | fail "no step"))
    refine eq_PL (ps := ps.take 32) (qs := ps.take 32) (fe _ F22.keep (News.rgt (News.tl (News.tl (News.tl N22))))) ⟨_, News.isList N22 (.head _), (hpR.take _).keeps F22.keep⟩ (by show un + 3 + 64 < _; omega) ?_
    rw [decide_eq_true rfl]
    k_steps
    rename Fr _ _ _ _ => F23
    rename News _ _ _ _ => N23
    show Q (.bool true) _
    refine ret _ _ (two_back (by rw [hg]; exact F23.keep) hx (N23 _ (.tail _ (.head _))).1 hD (N23 _ (.tail _ (.tail _ (.head _)))).1)
end

/-- ranges as the space keeps them: the newest first, none touching the next -/
def Norm : List (Int × Int) → Prop
  | [] => True
  | p :: r => p.1 ≤ p.2 ∧ (∀ q ∈ r, q.2 + 1 < p.1) ∧ Norm r

theorem hasN_iff {ps : List (Int × Int)} {k : Int} : hasN ps k = true ↔ ∃ p ∈ ps, p.1 ≤ k ∧ k ≤ p.2 := by
  unfold hasN; simp [List.any_eq_true]
theorem hasN_cons {p : Int × Int} {ps : List (Int × Int)} {k : Int} : hasN (p :: ps) k = true ↔ (p.1 ≤ k ∧ k ≤ p.2) ∨ hasN ps k = true := by
  rw [hasN_iff, hasN_iff]; simp
theorem Norm.wf {ps : List (Int × Int)} (h : Norm ps) : ∀ p ∈ ps, p.1 ≤ p.2 := by
  induction ps with
  | nil => intro p hp; cases hp
  | cons a r ih =>
    intro p hp
    rcases List.mem_cons.mp hp with rfl | hp
    · exact h.1
    · exact ih h.2.2 p hp
theorem Norm.below {p : Int × Int} {r : List (Int × Int)} (h : Norm (p :: r)) {k : Int} (hk : hasN r k = true) : k + 1 < p.1 := by
  obtain ⟨q, hq, _, h2⟩ := hasN_iff.mp hk
  have := h.2.1 q hq
  omega
theorem norm_uniq : ∀ {ps qs : List (Int × Int)}, Norm ps → Norm qs → (∀ k, hasN ps k = hasN qs k) → ps = qs
  | [], [], _, _, _ => rfl
  | [], q :: qs, _, h2, e => by
    have := e q.1
    rw [hasN_cons.mpr (.inl ⟨Int.le_refl _, h2.1⟩)] at this
    simp [hasN] at this
  | p :: ps, [], h1, _, e => by
    have := e p.1
    rw [hasN_cons.mpr (.inl ⟨Int.le_refl _, h1.1⟩)] at this
    simp [hasN] at this
  | p :: ps, q :: qs, h1, h2, e => by
    have m1 : ∀ k, ((p.1 ≤ k ∧ k ≤ p.2) ∨ hasN ps k = true) ↔ ((q.1 ≤ k ∧ k ≤ q.2) ∨ hasN qs k = true) := fun k => by
      rw [← hasN_cons, ← hasN_cons, e k]
    have b1 : ∀ {k}, hasN ps k = true → k + 1 < p.1 := fun h => h1.below h
    have b2 : ∀ {k}, hasN qs k = true → k + 1 < q.1 := fun h => h2.below h
    have w1 := h1.1
    have w2 := h2.1
    have e2 : p.2 = q.2 := by
      have a := (m1 p.2).mp (.inl ⟨w1, Int.le_refl _⟩)
      have b := (m1 q.2).mpr (.inl ⟨w2, Int.le_refl _⟩)
      rcases a with a | a
      · rcases b with b | b
        · omega
        · have := b1 b; omega
      · have := b2 a
        rcases b with b | b
        · omega
        · have := b1 b; omega
    have e1 : p.1 = q.1 := by
      rcases Int.lt_trichotomy p.1 q.1 with h | h | h
      · have a := (m1 (q.1 - 1)).mp (.inl ⟨by omega, by omega⟩)
        rcases a with a | a
        · omega
        · have := b2 a; omega
      · exact h
      · have a := (m1 (p.1 - 1)).mpr (.inl ⟨by omega, by omega⟩)
        rcases a with a | a
        · omega
        · have := b1 a; omega
    have ep : p = q := Prod.ext e1 e2
    subst ep
    rw [norm_uniq h1.2.2 h2.2.2 fun k => ?_]
    rw [Bool.eq_iff_iff]
    constructor
    · intro h
      rcases (m1 k).mp (.inr h) with a | a
      · have := b1 h; omega
      · exact a
    · intro h
      rcases (m1 k).mpr (.inr h) with a | a
      · have := b2 h; omega
      · exact a

theorem norm_append {ps : List (Int × Int)} {q : Int × Int} : Norm (ps ++ [q]) ↔ Norm ps ∧ q.1 ≤ q.2 ∧ ∀ p ∈ ps, q.2 + 1 < p.1 := by
  induction ps with
  | nil => simp [Norm]
  | cons a r ih =>
    rw [List.cons_append]
    simp only [Norm, ih, List.mem_append, List.mem_cons, List.not_mem_nil, or_false]
    constructor
    · rintro ⟨h1, h2, h3, h4, h5⟩
      refine ⟨⟨h1, fun p hp => h2 p (.inl hp), h3⟩, h4, ?_⟩
      rintro p (rfl | hp)
      · exact h2 q (.inr rfl)
      · exact h5 p hp
    · rintro ⟨⟨h1, h2, h3⟩, h4, h5⟩
      refine ⟨h1, ?_, h3, h4, fun p hp => h5 p (.inr hp)⟩
      rintro p (hp | rfl)
      · exact h2 p hp
      · exact h5 a (.inl rfl)
theorem hasN_append {ps qs : List (Int × Int)} {k : Int} : hasN (ps ++ qs) k = true ↔ hasN ps k = true ∨ hasN qs k = true := by
  rw [hasN_iff, hasN_iff, hasN_iff]
  simp only [List.mem_append]
  constructor
  · rintro ⟨p, h | h, r⟩
    · exact .inl ⟨p, h, r⟩
    · exact .inr ⟨p, h, r⟩
  · rintro (⟨p, h, r⟩ | ⟨p, h, r⟩)
    · exact ⟨p, .inl h, r⟩
    · exact ⟨p, .inr h, r⟩
theorem hasN_one {q : Int × Int} {k : Int} : hasN [q] k = true ↔ q.1 ≤ k ∧ k ≤ q.2 := by
  rw [hasN_iff]; simp

/-- one step of the law's own ranges -/
theorem lrF_step {f : List (Int × Int)} {n : Int} (h : Norm f) (hn : ∀ k, hasN f k = true → n < k) : Norm (lrF f n) ∧ (∀ k, hasN (lrF f n) k = true ↔ hasN f k = true ∨ k = n) := by
  unfold lrF
  rcases List.eq_nil_or_concat f with rfl | ⟨g, q, rfl⟩
  · simp [Norm, hasN]
    intro k; omega
  · rw [List.concat_eq_append] at *
    have hg := norm_append.mp h
    have hq : n < q.1 := hn q.1 (hasN_append.mpr (.inr (hasN_one.mpr ⟨Int.le_refl _, hg.2.1⟩)))
    simp only [List.getLastD_concat, List.dropLast_concat]
    by_cases e : q.1 = n + 1
    · rw [if_pos ⟨by simp, e⟩]
      refine ⟨norm_append.mpr ⟨hg.1, by dsimp only; omega, hg.2.2⟩, fun k => ?_⟩
      rw [hasN_append, hasN_append, hasN_one, hasN_one]
      dsimp only
      constructor
      · rintro (h | h)
        · exact .inl (.inl h)
        · by_cases hk : k = n
          · exact .inr hk
          · exact .inl (.inr ⟨by omega, h.2⟩)
      · rintro ((h | h) | rfl)
        · exact .inl h
        · exact .inr ⟨by omega, h.2⟩
        · exact .inr ⟨Int.le_refl _, by omega⟩
    · rw [if_neg (fun h => e h.2)]
      refine ⟨norm_append.mpr ⟨h, Int.le_refl _, fun p hp => ?_⟩, fun k => ?_⟩
      · dsimp only
        rcases List.mem_append.mp hp with hp | hp
        · have := hg.2.2 p hp
          omega
        · rw [List.mem_singleton.mp hp]; omega
      · rw [hasN_append, hasN_one]
        dsimp only
        constructor
        · rintro (h | h)
          · exact .inl h
          · exact .inr (by omega)
        · rintro (h | rfl)
          · exact .inl h
          · exact .inr ⟨Int.le_refl _, Int.le_refl _⟩
theorem lr_fold : ∀ {ms : List Int} {f : List (Int × Int)}, Norm f → ms.Pairwise (fun a b => b < a) → (∀ k, hasN f k = true → ∀ n ∈ ms, n < k) → Norm (ms.foldl lrF f) ∧ ∀ k, hasN (ms.foldl lrF f) k = true ↔ hasN f k = true ∨ k ∈ ms
  | [], f, h, _, _ => ⟨h, fun k => by simp⟩
  | n :: ms, f, h, hp, hf => by
    rw [List.pairwise_cons] at hp
    obtain ⟨a, b⟩ := lrF_step h fun k hk => hf k hk n (.head _)
    obtain ⟨c, d⟩ := lr_fold (ms := ms) a hp.2 fun k hk m hm => by
      rcases (b k).mp hk with h1 | rfl
      · exact hf k h1 m (.tail _ hm)
      · exact hp.1 m hm
    refine ⟨c, fun k => ?_⟩
    rw [List.foldl_cons, d, b, List.mem_cons, or_assoc]
/-- the law's own ranges are the normal form of its numbers -/
theorem lr_norm {ks ms : List Int} (hn : ks.Nodup) (hp : ms.Perm ks) (hs : ms.Pairwise (fun a b => b ≤ a)) : Norm (ms.foldl lrF []) ∧ ∀ k, hasN (ms.foldl lrF []) k = decide (k ∈ ks) := by
  have hd : ms.Pairwise (fun a b => b < a) := by
    have h2 : ms.Pairwise (fun a b => a ≠ b) := hp.nodup_iff.mpr hn
    exact (hs.and h2).imp fun {a b} h => by omega
  obtain ⟨a, b⟩ := lr_fold (f := []) trivial hd (fun k h => by simp [hasN] at h)
  refine ⟨a, fun k => ?_⟩
  rw [Bool.eq_iff_iff, b, decide_eq_true_iff, hp.mem_iff]
  simp [hasN]
theorem lr_eq {ks ms : List Int} {W : List (Int × Int)} (hn : ks.Nodup) (hp : ms.Perm ks) (hs : ms.Pairwise (fun a b => b ≤ a)) (hW : Norm W) (hm : ∀ k, hasN W k = decide (k ∈ ks)) : ms.foldl lrF [] = W := by
  obtain ⟨a, b⟩ := lr_norm hn hp hs
  exact norm_uniq a hW fun k => by rw [b, hm]

def ins : List (Int × Int) → Int → Int → List (Int × Int)
  | [], lo, hi => [(lo, hi)]
  | p :: r, lo, hi => if hi + 1 < p.1 then p :: ins r lo hi else if p.2 < lo - 1 then (lo, hi) :: p :: r else ins r (if p.1 < lo then p.1 else lo) (if p.2 > hi then p.2 else hi)

theorem fold_in : ∀ {ps out : List (Int × Int)} {lo hi : Int}, Norm ps → (∀ p ∈ ps, p.2 < lo - 1) → lo ≤ hi → ps.foldl addFold (out, true, lo, hi) = (out ++ ps, true, lo, hi)
  | [], out, lo, hi, _, _, _ => by simp
  | p :: r, out, lo, hi, h, hl, hh => by
    have h1 := h.1
    have h2 := hl p (.head _)
    have e : addFold (out, true, lo, hi) p = (out ++ [p], true, lo, hi) := by
      unfold addFold
      rw [if_neg (by dsimp only; omega), if_pos (by dsimp only; omega)]
      rfl
    rw [List.foldl_cons, e, fold_in h.2.2 (fun q hq => hl q (.tail _ hq)) hh]
    simp
def finR (st : List (Int × Int) × Bool × Int × Int) : List (Int × Int) := if st.2.1 then st.1 else st.1 ++ [(st.2.2.1, st.2.2.2)]
theorem fold_ins : ∀ {ps out : List (Int × Int)} {lo hi : Int}, Norm ps → lo ≤ hi → finR (ps.foldl addFold (out, false, lo, hi)) = out ++ ins ps lo hi
  | [], out, lo, hi, _, _ => by simp [finR, ins]
  | p :: r, out, lo, hi, h, hh => by
    have h1 := h.1
    rw [List.foldl_cons, ins]
    by_cases c1 : hi + 1 < p.1
    · have e : addFold (out, false, lo, hi) p = (out ++ [p], false, lo, hi) := by unfold addFold; rw [if_pos c1]
      rw [e, if_pos c1, fold_ins h.2.2 hh]; simp
    · rw [if_neg c1]
      by_cases c2 : p.2 < lo - 1
      · have e : addFold (out, false, lo, hi) p = (out ++ [(lo, hi)] ++ [p], true, lo, hi) := by unfold addFold; rw [if_neg c1, if_pos c2]; rfl
        rw [e, if_pos c2, fold_in h.2.2 (fun q hq => by have := h.2.1 q hq; omega) hh]
        simp [finR]
      · have e : addFold (out, false, lo, hi) p = (out, false, (if p.1 < lo then p.1 else lo), if p.2 > hi then p.2 else hi) := by unfold addFold; rw [if_neg c1, if_neg c2]
        rw [e, if_neg c2]
        exact fold_ins h.2.2 (by split <;> split <;> omega)
theorem ins_spec : ∀ {ps : List (Int × Int)} {lo hi : Int}, Norm ps → lo ≤ hi → Norm (ins ps lo hi) ∧ ∀ k, hasN (ins ps lo hi) k = true ↔ hasN ps k = true ∨ (lo ≤ k ∧ k ≤ hi)
  | [], lo, hi, _, hh => ⟨⟨hh, by simp, trivial⟩, fun k => by rw [ins, hasN_one]; simp [hasN]⟩
  | p :: r, lo, hi, h, hh => by
    have h1 := h.1
    rw [ins]
    by_cases c1 : hi + 1 < p.1
    · rw [if_pos c1]
      obtain ⟨a, b⟩ := ins_spec (lo := lo) (hi := hi) h.2.2 hh
      refine ⟨⟨h1, fun q hq => ?_, a⟩, fun k => ?_⟩
      · have hw := a.wf q hq
        rcases (b q.2).mp (hasN_iff.mpr ⟨q, hq, hw, Int.le_refl _⟩) with x | x
        · exact h.below x
        · omega
      · rw [hasN_cons, hasN_cons, b, or_assoc]
    · rw [if_neg c1]
      by_cases c2 : p.2 < lo - 1
      · rw [if_pos c2]
        refine ⟨⟨hh, fun q hq => ?_, h⟩, fun k => ?_⟩
        · dsimp only
          rcases List.mem_cons.mp hq with rfl | hq
          · omega
          · have := h.2.1 q hq; omega
        · rw [hasN_cons, or_comm]
      · rw [if_neg c2]
        obtain ⟨a, b⟩ := ins_spec (lo := if p.1 < lo then p.1 else lo) (hi := if p.2 > hi then p.2 else hi) h.2.2 (by split <;> split <;> omega)
        refine ⟨a, fun k => ?_⟩
        rw [b, hasN_cons]
        constructor
        · rintro (x | x)
          · exact .inl (.inr x)
          · by_cases y : lo ≤ k ∧ k ≤ hi
            · exact .inr y
            · refine .inl (.inl ?_)
              revert x
              split <;> split <;> intro x <;> omega
        · rintro ((x | x) | x)
          · refine .inr ?_
            split <;> split <;> omega
          · exact .inl x
          · refine .inr ?_
            split <;> split <;> omega
theorem ins_le : ∀ {ps : List (Int × Int)} {lo hi : Int}, (ins ps lo hi).length ≤ ps.length + 1
  | [], lo, hi => by simp [ins]
  | p :: r, lo, hi => by
    rw [ins]
    split
    · have := ins_le (ps := r) (lo := lo) (hi := hi)
      simp only [List.length_cons]; omega
    · split
      · simp
      · have := ins_le (ps := r) (lo := if p.1 < lo then p.1 else lo) (hi := if p.2 > hi then p.2 else hi)
        simp only [List.length_cons]; omega
theorem ins_ge0 {r : List (Int × Int)} {lo hi : Int} (h : Norm r) (hl : ∀ q ∈ r, q.2 < lo - 1) (hh : lo ≤ hi) : (ins r lo hi).length = r.length + 1 := by
  cases r with
  | nil => simp [ins]
  | cons p r =>
    have h1 := h.1
    have h2 := hl p (.head _)
    rw [ins, if_neg (by omega), if_pos h2]
    simp
theorem ins_ge1 {r : List (Int × Int)} {lo hi : Int} (h : Norm r) (hl : ∀ q ∈ r, q.2 < lo) (hh : lo ≤ hi) : r.length ≤ (ins r lo hi).length := by
  cases r with
  | nil => simp
  | cons p r =>
    have h1 := h.1
    have h2 := hl p (.head _)
    rw [ins, if_neg (by omega)]
    split
    · simp
    · rw [if_pos (by omega), if_neg (by omega), ins_ge0 h.2.2 (fun q hq => by have := h.2.1 q hq; omega) (by omega)]
      simp
theorem ins_ge : ∀ {ps : List (Int × Int)} {n : Int}, Norm ps → ps.length ≤ (ins ps n n).length + 1
  | [], n, _ => by simp
  | p :: r, n, h => by
    have h1 := h.1
    rw [ins]
    by_cases c1 : n + 1 < p.1
    · rw [if_pos c1]
      have := ins_ge (n := n) h.2.2
      simp only [List.length_cons]; omega
    · rw [if_neg c1]
      by_cases c2 : p.2 < n - 1
      · rw [if_pos c2]; simp only [List.length_cons]; omega
      · rw [if_neg c2]
        have := ins_ge1 (r := r) (lo := if p.1 < n then p.1 else n) (hi := if p.2 > n then p.2 else n) h.2.2 (fun q hq => by have := h.2.1 q hq; split <;> omega) (by split <;> split <;> omega)
        simp only [List.length_cons]; omega
theorem addRange_ins {ps : List (Int × Int)} {n : Int} (h : Norm ps) : addRange ps n n = ins ps n n := by
  have := fold_ins (out := []) h (Int.le_refl n)
  rw [List.nil_append] at this
  exact this
theorem add_norm {ps : List (Int × Int)} {n : Int} (h : Norm ps) : Norm (addRange ps n n) ∧ (∀ k, hasN (addRange ps n n) k = true ↔ hasN ps k = true ∨ k = n) ∧ (addRange ps n n).length ≤ ps.length + 1 ∧ ps.length ≤ (addRange ps n n).length + 1 := by
  rw [addRange_ins h]
  obtain ⟨a, b⟩ := ins_spec h (Int.le_refl n)
  exact ⟨a, fun k => by rw [b]; constructor <;> (rintro (x | x); exact .inl x; exact .inr (by omega)), ins_le, ins_ge h⟩

theorem norm_split {A B : List (Int × Int)} (h : Norm (A ++ B)) : Norm A ∧ Norm B ∧ ∀ a ∈ A, ∀ b ∈ B, b.2 + 1 < a.1 := by
  induction A with
  | nil => exact ⟨trivial, h, fun a ha => by cases ha⟩
  | cons p r ih =>
    obtain ⟨a, b, c⟩ := ih h.2.2
    refine ⟨⟨h.1, fun q hq => h.2.1 q (List.mem_append.mpr (.inl hq)), a⟩, b, fun x hx y hy => ?_⟩
    rcases List.mem_cons.mp hx with rfl | hx
    · exact h.2.1 y (List.mem_append.mpr (.inr hy))
    · exact c x hx y hy
theorem split63 {W : List (Int × Int)} (h : 64 < W.length) : ∃ A q B, W = A ++ q :: B ∧ A.length = 63 ∧ W.take 64 = A ++ [q] ∧ W[63]? = some q := by
  refine ⟨W.take 63, W[63], W.drop 64, ?_, by simp; omega, ?_, List.getElem?_eq_getElem (by omega)⟩
  · rw [← List.drop_eq_getElem_cons (i := 63) (by omega), List.take_append_drop]
  · rw [List.take_add_one (i := 63), List.getElem?_eq_getElem (by omega)]; rfl
theorem prune_split {A B : List (Int × Int)} {q : Int × Int} (h : Norm (A ++ q :: B)) : pruneR (A ++ q :: B) q.1 = A ++ [q] := by
  obtain ⟨hA, hB, hAB⟩ := norm_split h
  have hq := hB.1
  unfold pruneR
  have e1 : (A ++ q :: B).filter (fun p => decide (q.1 ≤ p.2)) = A ++ [q] := by
    rw [List.filter_append, List.filter_cons_of_pos (by simpa using hq)]
    rw [List.filter_eq_self.mpr (fun a ha => by have := hAB a ha q (.head _); have := hA.wf a ha; simp; omega)]
    rw [List.filter_eq_nil_iff.mpr (fun b hb => by have := hB.2.1 b hb; simp; omega)]
  rw [e1]
  refine (List.map_congr_left (g := id) fun p hp => ?_).trans (List.map_id _)
  unfold pruneF
  rw [if_neg]
  · rfl
  · rcases List.mem_append.mp hp with hp | hp
    · have := hAB p hp q (.head _); omega
    · rw [List.mem_singleton.mp hp]; omega
theorem kept_take {W : List (Int × Int)} (h : Norm W) : keptR W = W.take 64 := by
  unfold keptR
  by_cases hl : W.length ≤ 64
  · rw [if_pos hl, List.take_of_length_le hl]
  · rw [if_neg hl]
    obtain ⟨A, q, B, e, hA, ht, hg⟩ := split63 (W := W) (by omega)
    rw [List.getD_eq_getElem?_getD, hg, ht]
    subst e
    exact prune_split h
theorem nodup_le : ∀ {l ks : List Int}, l.Nodup → (∀ k ∈ l, k ∈ ks) → l.length ≤ ks.length
  | [], ks, _, _ => by simp
  | a :: r, ks, hn, hs => by
    rw [List.nodup_cons] at hn
    have ha := hs a (.head _)
    have := nodup_le (l := r) (ks := ks.erase a) hn.2 fun k hk => (List.mem_erase_of_ne (by rintro rfl; exact hn.1 hk)).mpr (hs k (.tail _ hk))
    rw [List.length_erase_of_mem ha] at this
    have := List.length_pos_of_mem ha
    simp only [List.length_cons]; omega
def getFor : Stmt → List Stmt
  | .For _ _ b _ _ => b
  | _ => []
set_option maxHeartbeats 4000000 in
noncomputable def lawBody (P : Params) : List Stmt := bodyOf (K := heapK P) (f := 236) (by k_is)
set_option maxHeartbeats 4000000 in
noncomputable def lawScope (P : Params) : Scope := scopeOf (K := heapK P) (f := 236) (by k_is)
noncomputable def turnBody (P : Params) : List Stmt := getFor (nthS 8 (lawBody P))
noncomputable abbrev lawEnv (P : Params) (L fa : Addr) (cd : Value) : Env := envOfC (Str.ofString "law") (lawScope P) L fa cd

section
variable {prog : Program} {w : World} {A : Around} {E : Value → Shared → Prop} {s : Shared} {env : Env} {h₀ : Heap} {x : Str} {body : List Stmt} {Q : Flow → Shared → Prop}
/-- a loop over a range -/
theorem iterRange2 {r : Addr} {a₀ b₀ c : Int} {t₀ u₀ v₀ : Tok} {n : Nat} {m₀ : Str → Option Value} {news : List (Addr × Obj)} (J : Nat → (Str → Option Value) → List (Addr × Obj) → Prop)
    (hh : A.handled = none) (hr : IsRange s.heap r a₀ b₀ c t₀ u₀ v₀) (hsmall : Builtin.Range.small a₀ b₀ c = true) (hn : Builtin.Range.rangeSize a₀ b₀ c = (n : Int)) (F : Fr h₀ env.locals s.heap m₀) (N : News h₀ env.locals s.heap news) (hj : J 0 m₀ news)
    (turn : ∀ i t m₁ news₁ h tk own, i < n → (∀ p ∈ own, ∀ v n, p.2.data ≠ .seq v n) → OwnOff own (news₁.map (·.1)) → J i m₁ news₁ → Fr h₀ env.locals h (fun y => if y = x then some (.int (a₀ + i * c) t) else m₁ y) → News h₀ env.locals h (news₁ ++ own) →
      wpAny (model prog w) A (execs body env) (InvPostG h₀ env.locals (J (i + 1)) own { s with heap := h, toks := tk } Q) E { s with heap := h, toks := tk })
    (done : ∀ m₁ news₁ h tk, J n m₁ news₁ → Fr h₀ env.locals h m₁ → News h₀ env.locals h news₁ → Q .next { s with heap := h, toks := tk }) :
    wpAny (model prog w) A (pyIter (.ref r)) (fun it s₂ => LoopAtV prog w A h₀ env x body Q E it s₂) E s := by
  refine wpAny_pyIter_range hr hsmall ?_
  have W : Walks prog w A s.heap.objs.size [s.heap.objs.size] [s.heap.objs.size] n (fun i v => i < n ∧ ∃ t, v = .int (a₀ + i * c) t)
      (fun i h => IsRangeIter h s.heap.objs.size (a₀ + (i : Nat) * c) ((n : Int) - (i : Nat)) c) := (Walks.range hh _ a₀ c n).bound
  refine ⟨_, _, _, n, _, _, m₀, news, J, rfl, W, fun hm => ?_, fun b hb => ?_, fun p hp hI => ?_, (by show IsRangeIter _ _ _ _ _; rw [hn]; simpa using Heap.get?_push_size _ rfl), F.push _, (fun p hp => ⟨Heap.get?_push_of_some _ (N p hp).1, (N p hp).2⟩), hj, ?_, ?_⟩
  · exact absurd F.ns.lt ((List.mem_singleton.mp hm) ▸ Nat.lt_irrefl _)
  · rw [List.mem_singleton.mp hb]
    exact next_is_new F
  · exact absurd (Heap.lt_size (N p hp).1) ((List.mem_singleton.mp hI) ▸ Nat.lt_irrefl _)
  · rintro i v m₁ news₁ s₁ own ⟨hh', tk', rfl⟩ hin ⟨hi, t, rfl⟩ hJ hoff hown _ hfp hst F₁ N₁
    have hI0 : h₀.get? s.heap.objs.size = none := next_is_new F
    have hoI : hh'.get? s.heap.objs.size = some _ := hst
    have hIown := hfp _ (List.mem_singleton.mpr rfl) hI0 _ hoI
    have hsep : OwnOff own (news₁.map (·.1)) := by
      intro p hp b hb e
      obtain ⟨q, hq, rfl⟩ := List.mem_map.mp hb
      have h1 := List.mem_singleton.mp (hown p hp)
      exact hoff q hq (List.mem_singleton.mpr (e ▸ h1))
    have N₂ : News h₀ env.locals hh' (news₁ ++ own) := fun p hp => N₁ p ((List.mem_append.mp hp).elim (fun h => List.mem_append.mpr (.inr h)) fun h => List.mem_append.mpr (.inl h))
    have hns : ∀ p ∈ own, ∀ v n, p.2.data ≠ .seq v n := by
      intro p hp v n e
      have e1 := (N₁ p (List.mem_append.mpr (.inl hp))).1
      rw [List.mem_singleton.mp (hown p hp), hoI] at e1
      rw [← Option.some.inj e1] at e
      cases e
    refine wpAny_mono (turn i t m₁ news₁ hh' tk' own hi hns hsep hJ F₁ N₂) (fun f s₂ p => ?_) fun _ _ e => e
    have fin : InvEndG h₀ env.locals (J (i + 1)) own { s with heap := hh', toks := tk' } s₂ → LoopStepU h₀ env.locals [s.heap.objs.size] own (J (i + 1)) { s with heap := hh', toks := tk' } .next s₂ := by
      rintro ⟨h', tk, m', news', nx, e, F', N', hn, ho, ha, hm⟩
      refine ⟨rfl, h', tk, m', nx, e, F', fun p hp => N' p ((List.mem_append.mp hp).elim (ho p) (hn p)), fun p hp hq => ?_, hm⟩
      exact ha _ hIown p.1 (List.mem_map.mpr ⟨p, hp, rfl⟩) (List.mem_singleton.mp hq).symm
    cases f with
    | ret v => exact .ret p
    | brk => exact .brk p
    | next => exact .next (fin p)
    | cont => exact .cont (fin p)
  · rintro h' tk m' news' F' N' _ hJ
    exact done m' news' h' tk hJ F' N'
end

def SeqE (e : Addr × Obj) : Prop := ∃ v n, e.2.data = .seq v n
theorem PVs.ledS {h₀ h : Heap} {L : Addr} {m : Str → Option Value} {vs : List Value} {ps : List (Int × Int)} (x : PVs h vs ps) (F : Fr h₀ L h m) : ∃ es, News h₀ L h es ∧ (∀ e ∈ es, e.2.cls = .type "tuple" ∧ SeqE e) ∧ ∀ h', Kp h₀ h' → News h₀ L h' es → PVs h' vs ps := by
  induction x with
  | nil => exact ⟨[], News.nil, fun e h => (by cases h), fun _ _ _ => .nil⟩
  | cons a _ ih =>
    obtain ⟨b, t, u, rfl, o, ho, hc, n, hd⟩ := a
    obtain ⟨e1, N1, c1, f1⟩ := one_led F ho ⟨_, _, hd⟩
    obtain ⟨e2, N2, c2, f2⟩ := ih
    exact ⟨e1 ++ e2, News.app N1 N2, fun e h => (List.mem_append.mp h).elim (fun h => by rw [c1 e h]; exact ⟨hc, _, _, hd⟩) (c2 e), fun h' k N => .cons ⟨b, t, u, rfl, o, f1 h' k (News.lft N), hc, n, hd⟩ (f2 h' k (News.rgt N))⟩
theorem PL.ledS {h₀ h : Heap} {L l : Addr} {m : Str → Option Value} {ps : List (Int × Int)} (x : PL h l ps) (F : Fr h₀ L h m) :
    ∃ es, News h₀ L h es ∧ (∀ e ∈ es, e.2.cls = .type "tuple" ∨ (e.1 = l ∧ e.2.cls = .type "list")) ∧ (∀ h', Kp h₀ h' → News h₀ L h' es → PL h' l ps) ∧ ∀ e ∈ es, SeqE e := by
  obtain ⟨vs, ⟨o, ho, hc, n, hd⟩, p⟩ := x
  obtain ⟨e1, N1, c1, f1⟩ := one_led F ho ⟨_, _, hd⟩
  obtain ⟨e2, N2, c2, f2⟩ := p.ledS F
  refine ⟨e1 ++ e2, News.app N1 N2, fun e h => ?_, fun h' k N => ⟨vs, ⟨o, f1 h' k (News.lft N), hc, n, hd⟩, f2 h' k (News.rgt N)⟩, fun e h => ?_⟩
  · rcases List.mem_append.mp h with h | h
    · rw [c1 e h]; exact .inr ⟨rfl, hc⟩
    · exact .inl (c2 e h).1
  · rcases List.mem_append.mp h with h | h
    · rw [c1 e h]; exact ⟨_, _, hd⟩
    · exact (c2 e h).2
theorem PL.ledV {h₀ h : Heap} {L l : Addr} {m : Str → Option Value} {ps : List (Int × Int)} (x : PL h l ps) (F : Fr h₀ L h m) :
    ∃ es vs, News h₀ L h es ∧ (∀ e ∈ es, e.2.cls = .type "tuple" ∨ (e.1 = l ∧ e.2.cls = .type "list")) ∧ (∀ h', Kp h₀ h' → News h₀ L h' es → h'.IsList l vs.toArray ∧ PVs h' vs ps) ∧ ∀ e ∈ es, SeqE e := by
  obtain ⟨vs, ⟨o, ho, hc, n, hd⟩, p⟩ := x
  obtain ⟨e1, N1, c1, f1⟩ := one_led F ho ⟨_, _, hd⟩
  obtain ⟨e2, N2, c2, f2⟩ := p.ledS F
  refine ⟨e1 ++ e2, vs, News.app N1 N2, fun e h => ?_, fun h' k N => ⟨⟨o, f1 h' k (News.lft N), hc, n, hd⟩, f2 h' k (News.rgt N)⟩, fun e h => ?_⟩
  · rcases List.mem_append.mp h with h | h
    · rw [c1 e h]; exact .inr ⟨rfl, hc⟩
    · exact .inl (c2 e h).1
  · rcases List.mem_append.mp h with h | h
    · rw [c1 e h]; exact ⟨_, _, hd⟩
    · exact (c2 e h).2
theorem off_data {h₀ h : Heap} {L d : Addr} {o : Obj} {es : List (Addr × Obj)} (N : News h₀ L h es) (he : ∀ e ∈ es, SeqE e) (hd : h.get? d = some o) (h1 : ∀ v n, o.data ≠ .seq v n) : ∀ e ∈ es, e.1 ≠ d := by
  rintro e hm rfl
  have := (N e hm).1
  rw [hd] at this
  cases this
  obtain ⟨v, n, x⟩ := he e hm
  exact h1 v n x
theorem ne_of {a b : Nat} (h : a < b ∨ b < a) : a ≠ b := by omega
def Ap (d x P C K cf : Addr) : Prop := (x ≠ d ∧ P ≠ d ∧ C ≠ d ∧ K ≠ d ∧ cf ≠ d) ∧ (P ≠ x ∧ C ≠ x ∧ K ≠ x ∧ cf ≠ x) ∧ (C ≠ P ∧ K ≠ P ∧ cf ≠ P) ∧ (K ≠ C ∧ cf ≠ C) ∧ cf ≠ K
/-- the end of a step of the turn -/
def SP (h₀ : Heap) (L : Addr) (own : List (Addr × Obj)) (s : Shared) (Z : (Str → Option Value) → List (Addr × Obj) → Prop) (fl : Flow) (s' : Shared) : Prop :=
  fl = .next ∧ ∃ h' tk' m' nx', s' = { s with heap := h', toks := tk' } ∧ Fr h₀ L h' m' ∧ News h₀ L h' (nx' ++ own) ∧ OwnOff own (nx'.map (·.1)) ∧ Z m' nx'
theorem SP.intro {h₀ : Heap} {L : Addr} {own nx : List (Addr × Obj)} {s : Shared} {Z : (Str → Option Value) → List (Addr × Obj) → Prop} {h' : Heap} {tk' : Nat} {m' : Str → Option Value} (F : Fr h₀ L h' m') (N : News h₀ L h' (nx ++ own)) (o : OwnOff own (nx.map (·.1))) (z : Z m' nx) :
    SP h₀ L own s Z .next { s with heap := h', toks := tk' } := ⟨rfl, h', tk', m', nx, rfl, F, N, o, z⟩
theorem sp_fold {P : Params} {t0 t1 t2 t3 t4 t5 t6 t7 t8 t9 t10 t11 t12 t13 t14 t15 t16 : Tok} {nm nn sn la ac le lo rc ls lt fl fu ua wn hn ec ig : Value} : dictOf [
  ⟨PyData.keyHash P (Str.ofString "name"), .str (Str.ofString "name") t0, nm⟩,
  ⟨PyData.keyHash P (Str.ofString "next_number"), .str (Str.ofString "next_number") t1, nn⟩,
  ⟨PyData.keyHash P (Str.ofString "sent"), .str (Str.ofString "sent") t2, sn⟩,
  ⟨PyData.keyHash P (Str.ofString "largest_acked"), .str (Str.ofString "largest_acked") t3, la⟩,
  ⟨PyData.keyHash P (Str.ofString "acked"), .str (Str.ofString "acked") t4, ac⟩,
  ⟨PyData.keyHash P (Str.ofString "last_eliciting_time"), .str (Str.ofString "last_eliciting_time") t5, le⟩,
  ⟨PyData.keyHash P (Str.ofString "loss_time"), .str (Str.ofString "loss_time") t6, lo⟩,
  ⟨PyData.keyHash P (Str.ofString "received"), .str (Str.ofString "received") t7, rc⟩,
  ⟨PyData.keyHash P (Str.ofString "largest_seen"), .str (Str.ofString "largest_seen") t8, ls⟩,
  ⟨PyData.keyHash P (Str.ofString "largest_time"), .str (Str.ofString "largest_time") t9, lt⟩,
  ⟨PyData.keyHash P (Str.ofString "floor"), .str (Str.ofString "floor") t10, fl⟩,
  ⟨PyData.keyHash P (Str.ofString "first_unacked"), .str (Str.ofString "first_unacked") t11, fu⟩,
  ⟨PyData.keyHash P (Str.ofString "unacked"), .str (Str.ofString "unacked") t12, ua⟩,
  ⟨PyData.keyHash P (Str.ofString "wants_now"), .str (Str.ofString "wants_now") t13, wn⟩,
  ⟨PyData.keyHash P (Str.ofString "has_new"), .str (Str.ofString "has_new") t14, hn⟩,
  ⟨PyData.keyHash P (Str.ofString "ecn"), .str (Str.ofString "ecn") t15, ec⟩,
  ⟨PyData.keyHash P (Str.ofString "is_gone"), .str (Str.ofString "is_gone") t16, ig⟩] 17 = spD P (fun i => [t0, t1, t2, t3, t4, t5, t6, t7, t8, t9, t10, t11, t12, t13, t14, t15, t16].getD i 0) nm nn sn la ac le lo rc ls lt fl fu ua wn hn ec ig := rfl

theorem News.dr6 {h₀ h : Heap} {L : Addr} {a b c d e f : Addr × Obj} {es : List (Addr × Obj)} (N : News h₀ L h (a :: b :: c :: d :: e :: f :: es)) : News h₀ L h es :=
  News.tl (News.tl (News.tl (News.tl (News.tl (News.tl N)))))
theorem own_new {own es2 : List (Addr × Obj)} {h : Heap} {h₀ : Heap} {L : Addr} (hoS : ∀ p ∈ own, ∀ v n, p.2.data ≠ .seq v n) (N : News h₀ L h own) (M : News h₀ L h es2) (se : ∀ e ∈ es2, SeqE e) : OwnOff own (es2.map (·.1)) := by
  intro p hp b hb e
  obtain ⟨q, hq, rfl⟩ := List.mem_map.mp hb
  have x1 := (N p hp).1
  have x2 := (M q hq).1
  rw [e, x2] at x1
  obtain ⟨v, n', x3⟩ := se q hq
  exact hoS p hp v n' (by rw [← Option.some.inj x1]; exact x3)
/-- one number more, the newest 64 ranges kept -/
def ackF (ps : List (Int × Int)) (k : Int) : List (Int × Int) := keptR (addRange ps k k)
theorem take_norm {W : List (Int × Int)} (h : Norm W) (n : Nat) : Norm (W.take n) := by
  have e := List.take_append_drop n W
  rw [← e] at h
  exact (norm_split h).1
theorem ackF_norm {ps : List (Int × Int)} (h : Norm ps) (k : Int) : Norm (ackF ps k) ∧ (ackF ps k).length ≤ 64 := by
  unfold ackF
  have a := (add_norm (n := k) h).1
  rw [kept_take a]
  exact ⟨take_norm a 64, by rw [List.length_take]; omega⟩
section
variable {prog : Program} {w : World} {A : Around} {E : Value → Shared → Prop} {s : Shared} {env : Env} {h₀ : Heap} {x : Str} {body : List Stmt} {Q : Flow → Shared → Prop}
/-- a loop over a list that stands in the ground heap -/
theorem iterBase2 {l : Addr} {vs : List Value} {m₀ : Str → Option Value} {news : List (Addr × Obj)} (J : Nat → (Str → Option Value) → List (Addr × Obj) → Prop)
    (hh : A.handled = none) (hl : h₀.IsList l vs.toArray) (F : Fr h₀ env.locals s.heap m₀) (N : News h₀ env.locals s.heap news) (hj : J 0 m₀ news)
    (turn : ∀ i v m₁ news₁ h tk own, vs[i]? = some v → (∀ p ∈ own, ∀ v n, p.2.data ≠ .seq v n) → OwnOff own (news₁.map (·.1)) → J i m₁ news₁ → Fr h₀ env.locals h (fun y => if y = x then some v else m₁ y) → News h₀ env.locals h (news₁ ++ own) →
      wpAny (model prog w) A (execs body env) (InvPostG h₀ env.locals (J (i + 1)) own { s with heap := h, toks := tk } Q) E { s with heap := h, toks := tk })
    (done : ∀ m₁ news₁ h tk, J vs.length m₁ news₁ → Fr h₀ env.locals h m₁ → News h₀ env.locals h news₁ → Q .next { s with heap := h, toks := tk }) :
    wpAny (model prog w) A (pyIter (.ref l)) (fun it s₂ => LoopAtV prog w A h₀ env x body Q E it s₂) E s := by
  have hls : s.heap.IsList l vs.toArray := hl.at fun o e => F.keep l o e
  obtain ⟨ol, hol, _⟩ := id hl
  have hlt : l < h₀.objs.size := Heap.lt_size hol
  have hne : l ≠ s.heap.objs.size := Nat.ne_of_lt (Nat.lt_trans (Nat.lt_of_lt_of_le hlt F.above) F.ns.lt)
  refine wpAny_pyIter_list hls ?_
  have W := Walks.list (prog := prog) (w := w) hh s.heap.objs.size l hne vs.toArray
  have hlen : vs.toArray.size = vs.length := by simp
  rw [hlen] at W
  refine ⟨_, _, _, vs.length, _, _, m₀, news, J, rfl, W, fun hm => ?_, fun b hb => ?_, fun p hp hI => ?_, ⟨⟨_, Heap.get?_push_size _ rfl, rfl, rfl⟩, hls.at fun o e => Heap.get?_push_of_some _ e⟩, F.push _, (fun p hp => ⟨Heap.get?_push_of_some _ (N p hp).1, (N p hp).2⟩), hj, ?_, ?_⟩
  · rcases List.mem_cons.mp hm with e | hm
    · exact absurd F.ns.lt (e ▸ Nat.lt_irrefl _)
    · exact absurd (Nat.lt_of_lt_of_le hlt F.above) ((List.mem_singleton.mp hm) ▸ Nat.lt_irrefl _)
  · rw [List.mem_singleton.mp hb]
    exact next_is_new F
  · exact absurd (Heap.lt_size (N p hp).1) ((List.mem_singleton.mp hI) ▸ Nat.lt_irrefl _)
  · rintro i v m₁ news₁ s₁ own ⟨hh', tk', rfl⟩ hin hP hJ hoff hown _ hfp hst F₁ N₁
    have hI0 : h₀.get? s.heap.objs.size = none := next_is_new F
    obtain ⟨⟨oI, hoI, hoD⟩, _⟩ := id hst
    have hIown : (s.heap.objs.size, oI) ∈ own := hfp _ (List.mem_cons.mpr (.inl rfl)) hI0 _ hoI
    have hsep : OwnOff own (news₁.map (·.1)) := by
      intro p hp b hb e
      obtain ⟨q, hq, rfl⟩ := List.mem_map.mp hb
      rcases List.mem_cons.mp (hown p hp) with h1 | h1
      · exact hoff q hq (List.mem_singleton.mpr (e ▸ h1))
      · have h3 := (N₁ q (List.mem_append.mpr (.inr hq))).2.2
        rw [← e, List.mem_singleton.mp h1, hol] at h3
        cases h3
    have N₂ : News h₀ env.locals hh' (news₁ ++ own) := fun p hp => N₁ p ((List.mem_append.mp hp).elim (fun h => List.mem_append.mpr (.inr h)) fun h => List.mem_append.mpr (.inl h))
    have hns : ∀ p ∈ own, ∀ v n, p.2.data ≠ .seq v n := by
      intro p hp v n e
      have e1 := N₁ p (List.mem_append.mpr (.inl hp))
      rcases List.mem_cons.mp (hown p hp) with h1 | h1
      · have e2 := e1.1
        rw [h1, hoI] at e2
        rw [← Option.some.inj e2] at e
        rw [hoD.2] at e; cases e
      · have h3 := e1.2.2
        rw [List.mem_singleton.mp h1, hol] at h3
        cases h3
    refine wpAny_mono (turn i v m₁ news₁ hh' tk' own (by simpa using hP) hns hsep hJ F₁ N₂) (fun f s₂ p => ?_) fun _ _ e => e
    have fin : InvEndG h₀ env.locals (J (i + 1)) own { s with heap := hh', toks := tk' } s₂ → LoopStepU h₀ env.locals [s.heap.objs.size] own (J (i + 1)) { s with heap := hh', toks := tk' } .next s₂ := by
      rintro ⟨h', tk, m', news', nx, e, F', N', hn, ho, ha, hm⟩
      refine ⟨rfl, h', tk, m', nx, e, F', fun p hp => N' p ((List.mem_append.mp hp).elim (ho p) (hn p)), fun p hp hq => ?_, hm⟩
      exact ha _ hIown p.1 (List.mem_map.mpr ⟨p, hp, rfl⟩) (List.mem_singleton.mp hq).symm
    cases f with
    | ret v => exact .ret p
    | brk => exact .brk p
    | next => exact .next (fin p)
    | cont => exact .cont (fin p)
  · rintro h' tk m' news' F' N' _ hJ
    exact done m' news' h' tk hJ F' N'
end

section
variable {w : World} {mean : ExcName → Option Value} {mg mb : Str → Option Value} {dp un : Nat} {fr : Option (List Env)} {gd : Option (List Code)} {s : Shared} {Q E : Value → Shared → Prop}
local macro_rules | `(tactic| walk_at "exec For Name Name cons nil") => `(tactic| (k_here; refine Halt.out ?_))
def ANJ (w : World) (h₀ : Heap) (L x d : Addr) (t : Nat → Tok) (nm nn sn la le lo rc ls lt fl fu ua wn hn ec ig : Value) (ps : List (Int × Int)) (ns : List Int) (i : Nat) (m : Str → Option Value) (nx : List (Addr × Obj)) : Prop :=
  ∃ (a : Addr) (es : List (Addr × Obj)), nx = (d, spD w.params t nm nn sn la (.ref a) le lo rc ls lt fl fu ua wn hn ec ig) :: (x, instObj 196 d) :: es ∧ m (Str.ofString "self") = some (.ref x) ∧ (∀ p ∈ es, p.1 ≠ d ∧ p.1 ≠ x) ∧
    (∀ h, Kp h₀ h → News h₀ L h es → PL h a ((ns.take i).foldl ackF ps)) ∧ Norm ((ns.take i).foldl ackF ps) ∧ ((ns.take i).foldl ackF ps).length ≤ 64
set_option maxHeartbeats 8000000 in
theorem spec_note_acked {h₀ : Heap} {x d a l : Addr} {ps : List (Int × Int)} {vs : List Value} {ns : List Int} {t : Nat → Tok} {nm nn sn la le lo rc ls lt fl fu ua wn hn ec ig : Value}
    (X : (heapK w.params).In h₀) (T : Top viewK (looseW viewK []) mean mg mb h₀) (k0 : Kp h₀ s.heap) (hx0 : h₀.get? x = none) (hd0 : h₀.get? d = none) (hxd : x ≠ d)
    (hx : s.heap.get? x = some (instObj 196 d)) (hD : s.heap.get? d = some (spD w.params t nm nn sn la (.ref a) le lo rc ls lt fl fu ua wn hn ec ig))
    (hr : PL s.heap a ps) (hl : s.heap.IsList l vs.toArray) (hi : IntsAre vs ns) (hN : Norm ps) (hlen : ps.length ≤ 64)
    (hdp : dp + 100 < recursionLimit) (hun : un + 1000 < cLine)
    (ret : ∀ h' tk' a', (∀ b o, b ≠ d → s.heap.get? b = some o → h'.get? b = some o) → PL h' a' (ns.foldl ackF ps) → h'.get? d = some (spD w.params t nm nn sn la (.ref a') le lo rc ls lt fl fu ua wn hn ec ig) → Q .none { s with heap := h', toks := tk' }) :
    wpAny (model PySem.Challenge.rw_pf0261_02.row.prog w) (Ar dp un fr gd) (call (.ref 137) [.ref x, .ref l]) Q E s := by
  obtain ⟨kg, kb, ks, kl, e1'⟩ := two_hid k0 hx0 hd0 hx hD hxd
  replace X := X.keeps kg
  replace T := T.keeps kg
  have hr2 := (hr.hid hx (by simp) (by simp)).hid e1' (by simp [spD]) (by simp [spD])
  have hl2 := IsList.hid (IsList.hid hl hx (isList_ne hl hx (by simp))) e1' (isList_ne hl hD (by simp [spD]))
  refine enterB (hid (hid s.heap x) d) _ [(Str.ofString "self", .ref x), (Str.ofString "numbers", .ref l)] X T kb ks kl (by k_is) (by k_is) (by omega) (BindsTo.of_eq rfl) (locs rfl) ?_ rfl rfl rfl (by decide)
  intro L h₁ m F hm N kh
  subst hm
  replace N := swap2 N
  generalize hg : hid (hid s.heap x) d = g at *
  (try dsimp only)
  (try k_fold)
  k_steps
  refine Halt.out ?_
  refine For_invVF F rfl rfl ?_
  k_steps
  refine Halt.out ?_
  rename Fr _ _ _ _ => F1
  rename News _ _ _ _ => N1
  refine iterBase2 (ANJ w g L x d t nm nn sn la le lo rc ls lt fl fu ua wn hn ec ig ps ns) rfl hl2 F1 N1 ⟨a, [], rfl, rfl, List.forall_mem_nil _, fun h k _ => hr2.keeps k, hN, hlen⟩ ?_ ?_
  · rintro i v m₁ nx h' tk' own hv hoS hoff ⟨a1, es, rfl, q1, off, clo, hN1, hl1⟩ F2 N2
    obtain ⟨k, tk, rfl, hk⟩ := ints_at hi hv
    have hst : (ns.take (i + 1)).foldl ackF ps = ackF ((ns.take i).foldl ackF ps) k := by
      rw [List.take_add_one, hk, Option.toList_some, List.foldl_append]; rfl
    generalize hacc : (ns.take i).foldl ackF ps = pa at *
    obtain ⟨an1, an2, an3, an4⟩ := add_norm (n := k) hN1
    have hown : ∀ p ∈ own, p.1 ≠ d ∧ p.1 ≠ x := fun p hp => ⟨hoff p hp _ (by simp), hoff p hp _ (by simp)⟩
    have oall : ∀ p ∈ es ++ own, p.1 ≠ d ∧ p.1 ≠ x := fun p hp => (List.mem_append.mp hp).elim (off p) (hown p)
    have offd : ∀ p ∈ (x, instObj 196 d) :: (es ++ own), p.1 ≠ d := List.forall_mem_cons.mpr ⟨hxd, fun p hp => (oall p hp).1⟩
    have clo2 : ∀ h, Kp g h → News g L h (es ++ own) → PL h a1 pa := fun h k N => clo h k (News.lft N)
    clear F1 N1
    rw [List.cons_append, List.cons_append] at N2
    unfold spD at N2
    k_steps
    refine spec_add (s := { s with heap := _, toks := _ }) (X.keeps F2.keep) (T.keeps F2.keep) (clo2 _ F2.keep (News.tl (News.tl N2))) (by omega) (by show dp + 1 + 20 < _; omega) (by show un + 3 + 300 < _; omega) fun D2 h3 tk3 k3 nf3 hD3 => ?_
    have F3 : Fr _ L h3 _ := F2.after k3
    have N3 := News.grown N2 k3
    dsimp only at k3 nf3 hD3
    obtain ⟨e3, Ne3, ce3, fe3, se3⟩ := hD3.ledS F3
    have off3 : ∀ e ∈ e3, e.1 ≠ d := off_cls Ne3 ce3 (N3 _ (.head _)).1 (by simp) (by simp)
    have off3x : ∀ e ∈ e3, e.1 ≠ x := off_cls Ne3 ce3 (N3 _ (.tail _ (.head _))).1 (by simp) (by simp)
    have ow3 := own_new hoS (News.rgt (News.tl (News.tl N3))) Ne3 se3
    replace N3 := News.app N3 Ne3
    clear F2 N2 Ne3 hD3
    dsimp only [List.cons_append, List.nil_append] at N3
    k_steps
    rename Fr _ _ _ _ => F4
    rename News _ _ _ _ => N4
    refine spec_kept (s := { s with heap := _, toks := _ }) (X.keeps F4.keep) (T.keeps F4.keep) (fe3 _ F4.keep (News.rgt (News.tl (News.tl N4)))) (by omega) (by show dp + 1 + 10 < _; omega) (by show un + 3 + 200 < _; omega) fun D5 h5 tk5 k5 nf5 hD5 => ?_
    have F5 : Fr _ L h5 _ := F4.after k5
    have N5 := News.grown N4 k5
    dsimp only at k5 nf5 hD5
    obtain ⟨e5, Ne5, ce5, fe5, se5⟩ := hD5.ledS F5
    have off5 : ∀ e ∈ e5, e.1 ≠ d := off_cls Ne5 ce5 (N5 _ (.head _)).1 (by simp) (by simp)
    have off5x : ∀ e ∈ e5, e.1 ≠ x := off_cls Ne5 ce5 (N5 _ (.tail _ (.head _))).1 (by simp) (by simp)
    have ow5 := own_new hoS (News.rgt (News.lft (News.tl (News.tl N5)))) Ne5 se5
    replace N5 := News.app N5 Ne5
    clear F4 N4 Ne5 hD5
    dsimp only [List.cons_append, List.nil_append] at N5
    have offs : ∀ p ∈ (x, instObj 196 d) :: (((es ++ own) ++ e3) ++ e5), p.1 ≠ d := List.forall_mem_cons.mpr ⟨hxd, fun p hp => (List.mem_append.mp hp).elim (fun hp => (List.mem_append.mp hp).elim (fun hp => (oall p hp).1) (off3 p)) (off5 p)⟩
    k_steps
    rename Fr _ _ _ _ => F6
    rename News _ _ _ _ => N6
    have hres : ackF pa k = keptR (addRange pa k k) := rfl
    obtain ⟨b1, b2⟩ := ackF_norm hN1 k
    rw [← hst] at hres b1 b2
    rw [← hres] at fe5
    have N7 : News g L _ ((d, _) :: (x, instObj 196 d) :: (((es ++ own) ++ e3) ++ e5)) := N6
    refine InvEndG.intro (nx := (d, spD w.params t nm nn sn la (.ref D5) le lo rc ls lt fl fu ua wn hn ec ig) :: (x, instObj 196 d) :: (es ++ (e3 ++ e5))) F6 N6 ⟨D5, es ++ (e3 ++ e5), rfl, q1, ?_, fun h k N => fe5 h k (News.rgt (News.rgt N)), b1, b2⟩ ?_ ?_ ?_
    · intro p hp
      rcases List.mem_append.mp hp with hp | hp
      · exact off p hp
      rcases List.mem_append.mp hp with hp | hp
      · exact ⟨off3 p hp, off3x p hp⟩
      · exact ⟨off5 p hp, off5x p hp⟩
    · intro p hp b hb
      simp only [List.map_cons, List.map_append, List.mem_cons, List.mem_append] at hb
      rcases hb with hb | hb | hb | hb | hb
      · exact hoff p hp b (by simp [hb])
      · exact hoff p hp b (by simp [hb])
      · exact hoff p hp b (List.mem_cons_of_mem _ (List.mem_cons_of_mem _ hb))
      · exact ow3 p hp b hb
      · exact ow5 p hp b hb
    · refine List.forall_mem_cons.mpr ⟨.head _, List.forall_mem_cons.mpr ⟨.tail _ (.head _), fun p hp => .tail _ (.tail _ ?_)⟩⟩
      rcases List.mem_append.mp hp with hp | hp
      · exact List.mem_append.mpr (.inl (List.mem_append.mpr (.inl (List.mem_append.mpr (.inl hp)))))
      rcases List.mem_append.mp hp with hp | hp
      · exact List.mem_append.mpr (.inl (List.mem_append.mpr (.inr hp)))
      · exact List.mem_append.mpr (.inr hp)
    · exact fun p hp => .tail _ (.tail _ (List.mem_append.mpr (.inl (List.mem_append.mpr (.inl (List.mem_append.mpr (.inr hp)))))))
  · rintro m₁ nx h' tk' ⟨a1, es, rfl, q1, off, clo, hN1, hl1⟩ F2 N2
    clear F1 N1
    k_steps
    rw [hi.length, List.take_length] at clo
    show Q .none _
    exact ret _ _ a1 (two_back1 (by rw [hg]; exact F2.keep) hx (N2 _ (.tail _ (.head _))).1) (clo _ F2.keep (News.tl (News.tl N2))) (N2 _ (.head _)).1
end

section
variable {w : World} {mean : ExcName → Option Value} {mg mb : Str → Option Value} {dp un : Nat} {fr : Option (List Env)} {gd : Option (List Code)} {s : Shared} {Q E : Value → Shared → Prop} {prog : Program} {p : Program} {loose : List Str} {A : Around} {R : Result → Shared → Prop}
theorem enterBc {K : Frag} {name qual : Str} {params : Arguments} {body : List Stmt} {scope : Scope} {dV kV doc pm cdv ct oc : Value} {an od : Option Addr} {osl : Array (Option Value)} {f : Addr} {args : List Value} (g : Heap) (led : List (Addr × Obj)) (binds : List (Str × Value))
    (X : K.In g) (T : Top p loose mean mg mb g) (kg : Kp g s.heap) (hsz : g.objs.size ≤ s.heap.objs.size) (hled : ∀ p ∈ led, s.heap.get? p.1 = some p.2 ∧ g.get? p.1 = none)
    (ho : K.lookup f = some ⟨oc, od, .func (fnOf name qual params body scope dV kV doc pm an cdv ct), osl⟩) (hcd : codeIn K cdv qual = true) (hroom : A.depth < recursionLimit)
    (hbind : BindsTo s (fnOf name qual params body scope dV kV doc pm an cdv ct) ⟨args, []⟩ binds) (hloc : ∀ y ∈ binds, scope.names.lookup y.1 = some .local)
    (h : ∀ L h₁ m, Fr g L h₁ m → m = (fun y => binds.reverse.lookup y) → News g L h₁ led → Kp s.heap h₁ →
      wpAny (model prog w) (A.deeper (envOf qual scope L f cdv)) (execs body (envOf qual scope L f cdv))
        (fun fl s' => R (.ok (.ret (match fl with | .ret v => v | _ => .none))) s') (fun _ _ => False) { s with heap := h₁, toks := s.toks + binds.length })
    (hco : scope.isCoroutine = false) (hgen : scope.isGenerator = false) (hk : scope.kind = .function) (hcell : ∀ x ∈ scope.names, x.2 ≠ .cell) :
    codeAny (model prog w) A (.call (.ref f) ⟨args, []⟩) R s := by
  have X' := X.keeps kg
  have T' := T.keeps kg
  refine (codeAny_call_def (fd := fnOf name qual params body scope dV kV doc pm an cdv ct) (body := body) (binds := binds) hroom (X' _ _ ho) rfl (Top.nolimit T') (codeRec_of X' hcd) rfl hbind hcell hloc (fun h₁ hns hk₁ => ?_) hco hgen hk)
  have fr : ∀ q ∈ led, q.1 ≠ s.heap.objs.size := fun q hq e => absurd (Heap.lt_size (hled q hq).1) (e ▸ Nat.lt_irrefl _)
  refine wpAny_mono (h _ h₁ _ ⟨hns, fun b o e => hk₁ b o (kg b o e), hsz⟩ rfl (fun q hq => ⟨hk₁ _ _ (hled q hq).1, fr q hq, (hled q hq).2⟩) hk₁) (fun _ _ z => z) fun _ _ z => z.elim
theorem init_done {h₀ h1 h' : Heap} {L L2 x dx : Addr} {m m2 : Str → Option Value} {ox od : Obj} {news led : List (Addr × Obj)} (F1 : Fr h₀ L h1 m) (N1 : News h₀ L h1 ((x, ox) :: (dx, od) :: news)) (l1 : ∀ p ∈ news, p.1 < dx) (l2 : dx < x)
    (kg : Kp h₀ (hid (hid h1 x) dx)) (F2 : Fr (hid (hid h1 x) dx) L2 h' m2) (N2 : News (hid (hid h1 x) dx) L2 h' led) : Fr h₀ L h' m ∧ News h₀ L h' (led ++ news) := by
  have up : ∀ b o, b ≠ x → b ≠ dx → h1.get? b = some o → (hid (hid h1 x) dx).get? b = some o := fun b o b1 b2 e => by rw [hid_ne b2, hid_ne b1]; exact e
  have Lx : L ≠ x := ((N1 _ (.head _)).2.1).symm
  have Ld : L ≠ dx := ((N1 _ (.tail _ (.head _))).2.1).symm
  obtain ⟨oL, a1, a2, hoL, a3⟩ := F1.ns
  have hLg := up _ _ Lx Ld hoL
  refine ⟨⟨⟨oL, a1, a2, F2.keep _ _ hLg, a3⟩, fun b o e => F2.keep _ _ (kg b o e), F1.above⟩, ?_⟩
  intro p hp
  rcases List.mem_append.mp hp with hp | hp
  · obtain ⟨b1, b2, b3⟩ := N2 p hp
    refine ⟨b1, ?_, ?_⟩
    · intro e
      rw [e, hLg] at b3; cases b3
    · cases e : h₀.get? p.1 with
      | none => rfl
      | some o => rw [kg _ _ e] at b3; cases b3
  · have c := N1 p (.tail _ (.tail _ hp))
    have l := l1 p hp
    exact ⟨F2.keep _ _ (up _ _ (Nat.ne_of_lt (Nat.lt_trans l l2)) (Nat.ne_of_lt l) c.1), c.2⟩
set_option maxHeartbeats 8000000 in
theorem spec_new_space {h₀ : Heap} {L : Addr} {m : Str → Option Value} {news : List (Addr × Obj)} {nmS : Str} {tm : Tok}
    (X : (heapK w.params).In h₀) (T : Top viewK (looseW viewK []) mean mg mb h₀) (F : Fr h₀ L s.heap m) (N : News h₀ L s.heap news)
    (hdp : dp + 50 < recursionLimit) (hun : un + 600 < cLine)
    (ret : ∀ x d r a e sn so h' tk' t tn e1 e2 e3 tf tu, Fr h₀ L h' m → News h₀ L h' ((e, PySem.W.listOf #[.int 0 e1, .int 0 e2, .int 0 e3] 0) :: (r, PySem.W.listOf #[] 0) :: (a, PySem.W.listOf #[] 0) :: (sn, so) :: (x, instObj 196 d) ::
      (d, spD w.params t (.str nmS tm) (.int 0 tn) (.ref sn) .none (.ref a) .none .none (.ref r) .none .none (.int 0 tf) .none (.int 0 tu) (.bool false) (.bool false) (.ref e) (.bool false)) :: news) →
      (r < e ∧ a < r ∧ sn < a ∧ x < sn ∧ d < x ∧ ∀ p ∈ news, p.1 < d) → Q (.ref x) { s with heap := h', toks := tk' }) :
    wpAny (model PySem.Challenge.rw_pf0261_02.row.prog w) (Ar dp un fr gd) (call (.ref 196) [.str nmS tm]) Q E s := by
  (try k_fold)
  refine call_cls F X N (by k_is) (by k_is) (by k_is) fun x dx h1 F1 N1 l1 l2 => ?_
  have hxd : x ≠ dx := Nat.ne_of_gt l2
  obtain ⟨kg, kb, ks, kl, e1'⟩ := two_hid F1.keep (N1 _ (.head _)).2.2 (N1 _ (.tail _ (.head _))).2.2 (N1 _ (.head _)).1 (N1 _ (.tail _ (.head _))).1 hxd
  refine enterBc (hid (hid h1 x) dx) _ [(Str.ofString "self", .ref x), (Str.ofString "name", .str nmS tm)] (X.keeps kg) (T.keeps kg) kb ks kl (by k_is) (by k_is) (by first | (show dp + 0 < _; omega) | (show dp + 1 < _; omega)) (BindsTo.of_eq rfl) (locs rfl) ?_ rfl rfl rfl (by decide)
  intro L2 h₁ m2 F2 hm N2 kh
  subst hm
  have X2 := X.keeps kg
  have T2 := T.keeps kg
  generalize hg : hid (hid h1 x) dx = g at *
  (try dsimp only)
  (try k_fold)
  k_steps
  rename Fr _ _ _ _ => F5
  rename News _ _ _ _ => N5
  rename (_ < _ ∧ _ < _ ∧ _ < _ ∧ _ < _ ∧ _ < _) => l5
  rename (_ < _ ∧ _ < _ ∧ _ < _ ∧ _ < _) => l4
  rename (_ < _ ∧ _ < _ ∧ _ < _) => l3
  rename (_ < _ ∧ _ < _) => l2'
  subst hg
  obtain ⟨F6, N6⟩ := init_done F1 N1 l1 l2 kg F5 N5
  rw [show ((x, instObj 196 dx).fst, (x, instObj 196 dx).snd) = (x, instObj 196 dx) from rfl, sp_fold] at N6
  refine ⟨rfl, ret _ _ _ _ _ _ _ _ _ _ _ _ _ _ _ _ F6 N6 ⟨l5.1, l4.1, l3.1, l2'.1, l2, l1⟩⟩
end

theorem mem_rng {p : Int × Int} {k : Int} : k ∈ rng p ↔ p.1 ≤ k ∧ k ≤ p.2 := by
  unfold rng
  rw [List.mem_map]
  constructor
  · rintro ⟨i, hi, rfl⟩
    have := List.mem_range.mp hi
    omega
  · intro h
    exact ⟨(k - p.1).toNat, List.mem_range.mpr (by omega), by omega⟩
theorem mem_nums {ps : List (Int × Int)} {k : Int} : k ∈ ps.flatMap rng ↔ hasN ps k = true := by
  rw [List.mem_flatMap, hasN_iff]
  exact ⟨fun ⟨p, hp, h⟩ => ⟨p, hp, mem_rng.mp h⟩, fun ⟨p, hp, h⟩ => ⟨p, hp, mem_rng.mpr h⟩⟩
theorem nodup_rng (p : Int × Int) : (rng p).Nodup := by
  unfold rng
  refine List.Pairwise.map _ (fun a b h => ?_) List.nodup_range
  intro e; exact h (by omega)
theorem nodup_nums : ∀ {ps : List (Int × Int)}, Norm ps → (ps.flatMap rng).Nodup
  | [], _ => List.nodup_nil
  | p :: r, h => by
    rw [List.flatMap_cons, List.nodup_append]
    refine ⟨nodup_rng p, nodup_nums h.2.2, fun a ha b hb e => ?_⟩
    have h1 := mem_rng.mp ha
    have h2 := h.below (mem_nums.mp hb)
    omega
theorem last_le {ps : List (Int × Int)} (h : Norm ps) {q : Int} (hq : hasN ps q = true) : (ps.getLastD (0, 0)).1 ≤ q := by
  obtain ⟨p, hp, h1, h2⟩ := hasN_iff.mp hq
  rcases List.eq_nil_or_concat ps with rfl | ⟨g, l, rfl⟩
  · cases hp
  · rw [List.concat_eq_append] at *
    obtain ⟨a, b, c⟩ := norm_append.mp h
    rw [List.getLastD_concat]
    rcases List.mem_append.mp hp with hp | hp
    · have := c p hp; omega
    · rw [List.mem_singleton.mp hp] at h1; exact h1
theorem last_mem {ps : List (Int × Int)} (h : Norm ps) (hl : 0 < ps.length) : hasN ps (ps.getLastD (0, 0)).1 = true := by
  rcases List.eq_nil_or_concat ps with rfl | ⟨g, l, rfl⟩
  · simp at hl
  · rw [List.concat_eq_append] at *
    obtain ⟨a, b, c⟩ := norm_append.mp h
    rw [List.getLastD_concat]
    exact hasN_iff.mpr ⟨l, by simp, Int.le_refl _, b⟩
/-- in a normal row each range lies two below the one before -/
theorem norm_low : ∀ {A : List (Int × Int)} {q : Int × Int}, Norm (A ++ [q]) → ∀ M, (∀ k, hasN (A ++ [q]) k = true → k ≤ M) → q.1 + 2 * (A.length : Int) ≤ M
  | [], q, h, M, hM => by
    have := hM q.1 (hasN_iff.mpr ⟨q, by simp, Int.le_refl _, h.1⟩)
    simpa using this
  | p :: A, q, h, M, hM => by
    have hp := hM p.1 (hasN_iff.mpr ⟨p, by simp, Int.le_refl _, h.1⟩)
    have ih := norm_low (A := A) (q := q) h.2.2 (p.1 - 2) fun k hk => by
      have := h.below hk
      omega
    simp only [List.length_cons, Int.natCast_add, Int.natCast_one] at ih ⊢
    omega
structure Inv2 (H : Int) (i : Nat) (f : Int) (ps : List (Int × Int)) : Prop where
  norm : Norm ps
  len : ps.length ≤ 64
  ne : 62 ≤ ps.length + i
  lowb : (ps.getLastD (0, 0)).1 + 100 ≤ H
  fl : f ≤ (ps.getLastD (0, 0)).1
  cnt : (ps.flatMap rng).length ≤ 64 + i
  mem : ∀ k, hasN ps k = true → 0 ≤ k ∧ k ≤ H + 5
  hH : H ≤ 1000
theorem Inv2.succ {H : Int} {i : Nat} {f : Int} {ps : List (Int × Int)} (h : Inv2 H i f ps) : Inv2 H (i + 1) f ps :=
  ⟨h.norm, h.len, by have := h.ne; omega, h.lowb, h.fl, by have := h.cnt; omega, h.mem, h.hH⟩
theorem Inv2.known {H : Int} {i : Nat} {f n : Int} {ps : List (Int × Int)} (h : Inv2 H i f ps) (hn : (ps.getLastD (0, 0)).1 < n) : knownR f ps n = hasN ps n := by
  have := h.fl
  unfold knownR
  rw [decide_eq_false (by omega), decide_eq_false (show ¬ n < (ps.getLastD (0, 0)).1 by omega)]
  simp
theorem Inv2.bd {H : Int} {i : Nat} {f : Int} {ps : List (Int × Int)} (h : Inv2 H i f ps) : ∀ p ∈ ps, -(2 ^ 61) ≤ p.1 ∧ p.1 ≤ p.2 ∧ p.2 < 2 ^ 61 := by
  intro p hp
  have w := h.norm.wf p hp
  have a := h.mem p.1 (hasN_iff.mpr ⟨p, hp, Int.le_refl _, w⟩)
  have b := h.mem p.2 (hasN_iff.mpr ⟨p, hp, w, Int.le_refl _⟩)
  have := h.hH
  omega
def newF (f : Int) (W : List (Int × Int)) : Int := if 64 < W.length then (W.getD 63 (0, 0)).1 else f
/-- joined by the law, or added by the ranges: the same -/
theorem joined_eq {ps : List (Int × Int)} {n : Int} (h : Norm ps) (hn : hasN ps n = false) : (ps.flatMap rng ++ [n]).Nodup ∧ (∀ ms : List Int, ms.Perm (ps.flatMap rng ++ [n]) → ms.Pairwise (fun a b => b ≤ a) → ms.foldl lrF [] = addRange ps n n) := by
  have hnd : (ps.flatMap rng ++ [n]).Nodup := by
    rw [List.nodup_append]
    refine ⟨nodup_nums h, by simp, fun a ha b hb e => ?_⟩
    rw [List.mem_singleton.mp hb] at e
    rw [e] at ha
    rw [mem_nums.mp ha] at hn
    cases hn
  obtain ⟨a, b, _, _⟩ := add_norm (n := n) h
  refine ⟨hnd, fun ms hp hs => lr_eq hnd hp hs a fun k => ?_⟩
  rw [Bool.eq_iff_iff, b, decide_eq_true_iff, List.mem_append, mem_nums, List.mem_singleton]
theorem Inv2.new {H : Int} {i : Nat} {f n : Int} {ps : List (Int × Int)} (h : Inv2 H i f ps) (hi : i ≤ 10) (hn : hasN ps n = false) (h1 : (ps.getLastD (0, 0)).1 < n) (h2 : n ≤ H + 5) :
    (addRange ps n n).length ≤ 65 ∧ 0 < (addRange ps n n).length ∧ keptR (addRange ps n n) = (addRange ps n n).take 64 ∧ floorR f (addRange ps n n) = newF f (addRange ps n n) ∧ Inv2 H (i + 1) (newF f (addRange ps n n)) ((addRange ps n n).take 64) := by
  obtain ⟨a, b, c, d⟩ := add_norm (n := n) h.norm
  obtain ⟨hnd, _⟩ := joined_eq h.norm hn
  have hlen := h.len
  have hne := h.ne
  have hlow := h.lowb
  have hfl := h.fl
  have hcnt := h.cnt
  have hps : 0 < ps.length := by omega
  generalize hW : addRange ps n n = W at *
  have hW0 : 0 < W.length := by omega
  have hm : ∀ k, hasN W k = true → 0 ≤ k ∧ k ≤ H + 5 := fun k hk => by
    rcases (b k).mp hk with x | rfl
    · exact h.mem k x
    · have := h.mem _ (last_mem h.norm hps); omega
  have hlo : ∀ k, hasN W k = true → (ps.getLastD (0, 0)).1 ≤ k := fun k hk => by
    rcases (b k).mp hk with x | rfl
    · exact last_le h.norm x
    · omega
  have hT : Norm (W.take 64) := take_norm a 64
  have hTm : ∀ k, hasN (W.take 64) k = true → hasN W k = true := fun k hk => by
    obtain ⟨p, hp, x⟩ := hasN_iff.mp hk
    exact hasN_iff.mpr ⟨p, List.mem_of_mem_take hp, x⟩
  have hTc : ((W.take 64).flatMap rng).length ≤ 64 + (i + 1) := by
    have := nodup_le (nodup_nums hT) (ks := ps.flatMap rng ++ [n]) fun k hk => by
      rw [List.mem_append, mem_nums, List.mem_singleton]
      exact (b k).mp (hTm k (mem_nums.mp hk))
    rw [List.length_append, List.length_singleton] at this
    omega
  have hT0 : 0 < (W.take 64).length := by rw [List.length_take]; omega
  have hll := last_mem hT hT0
  refine ⟨by omega, hW0, kept_take a, ?_, hT, by rw [List.length_take]; omega, by rw [List.length_take]; omega, ?_, ?_, hTc, fun k hk => hm k (hTm k hk), h.hH⟩
  · unfold floorR newF
    by_cases g : 64 < W.length
    · rw [if_pos g, if_pos g, kept_take a]
      obtain ⟨A, q, B, e, hA, ht, hg⟩ := split63 g
      rw [ht, List.getLastD_concat, List.getD_eq_getElem?_getD, hg]
      have := hlo q.1 (hasN_iff.mpr ⟨q, by rw [e]; simp, Int.le_refl _, by rw [e] at a; exact (norm_split a).2.1.1⟩)
      show max f q.1 = q.1
      omega
    · rw [if_neg g, if_neg g]
  · by_cases g : 64 < W.length
    · obtain ⟨A, q, B, e, hA, ht, hg⟩ := split63 g
      rw [ht] at hT ⊢
      rw [List.getLastD_concat]
      have := norm_low hT (H + 5) fun k hk => (hm k (hTm k (by rw [ht]; exact hk))).2
      omega
    · rw [List.take_of_length_le (by omega)] at *
      have := last_le a ((b _).mpr (.inl (last_mem h.norm hps)))
      omega
  · by_cases g : 64 < W.length
    · obtain ⟨A, q, B, e, hA, ht, hg⟩ := split63 g
      rw [ht, List.getLastD_concat]
      unfold newF
      rw [if_pos g, List.getD_eq_getElem?_getD, hg]
      exact Int.le_refl _
    · unfold newF
      rw [if_neg g]
      exact Int.le_trans hfl (hlo _ (hTm _ hll))
theorem norm_fst : ∀ {W : List (Int × Int)}, Norm W → (W.map (·.1)).Nodup
  | [], _ => List.nodup_nil
  | p :: r, h => by
    rw [List.map_cons, List.nodup_cons]
    refine ⟨fun hp => ?_, norm_fst h.2.2⟩
    obtain ⟨q, hq, e⟩ := List.mem_map.mp hp
    have := h.2.1 q hq
    have := h.2.2.wf q hq
    omega
theorem norm_cnt {W : List (Int × Int)} (hT : Norm W) : W.length ≤ (W.flatMap rng).length := by
  have := nodup_le (l := W.map (·.1)) (ks := W.flatMap rng) (norm_fst hT) fun k hk => by
    obtain ⟨p, hp, rfl⟩ := List.mem_map.mp hk
    exact mem_nums.mpr (hasN_iff.mpr ⟨p, hp, Int.le_refl _, hT.wf p hp⟩)
  rwa [List.length_map] at this
theorem singles_norm : ∀ (n : Nat) (f : Int), Norm (singles n f) ∧ ∀ k, hasN (singles n f) k = true ↔ ∃ a : Nat, a < n ∧ k = f + 3 * (a : Int)
  | 0, f => ⟨trivial, fun k => by simp [singles, hasN]⟩
  | n + 1, f => by
    obtain ⟨a, b⟩ := singles_norm n f
    have e : singles (n + 1) f = (f + 3 * (n : Int), f + 3 * (n : Int)) :: singles n f := by
      unfold singles
      rw [List.range_succ, List.reverse_append]
      rfl
    rw [e]
    refine ⟨⟨Int.le_refl _, fun q hq => ?_, a⟩, fun k => ?_⟩
    · obtain ⟨c, hc, e2⟩ := (b q.2).mp (hasN_iff.mpr ⟨q, hq, a.wf q hq, Int.le_refl _⟩)
      dsimp only
      omega
    · rw [hasN_cons, b]
      dsimp only
      constructor
      · rintro (⟨x, y⟩ | ⟨c, hc, rfl⟩)
        · exact ⟨n, by omega, by omega⟩
        · exact ⟨c, by omega, rfl⟩
      · rintro ⟨c, hc, rfl⟩
        by_cases g : c = n
        · subst g; exact .inl ⟨Int.le_refl _, Int.le_refl _⟩
        · exact .inr ⟨c, by omega, rfl⟩
theorem singles_len (n : Nat) (f : Int) : (singles n f).length = n := by simp [singles]
theorem singles_get {n : Nat} {f : Int} {i : Nat} (h : i < n) : (singles n f)[i]? = some (f + 3 * ((n : Int) - 1 - i), f + 3 * ((n : Int) - 1 - i)) := by
  rw [List.getElem?_eq_getElem (by rw [singles_len]; exact h)]
  simp only [singles, List.getElem_map, List.getElem_reverse, List.getElem_range, List.length_range]
  have : ((n - 1 - i : Nat) : Int) = (n : Int) - 1 - i := by omega
  rw [this]
theorem singles_cnt (n : Nat) (f : Int) : ((singles n f).flatMap rng).length = n := by
  have : ∀ l : List Nat, ((l.map fun (a : Nat) => (f + 3 * (a : Int), f + 3 * (a : Int))).flatMap rng).length = l.length := fun l => by
    induction l with
    | nil => rfl
    | cons a r ih =>
      rw [List.map_cons, List.flatMap_cons, List.length_append, ih, rng_len, List.length_cons]
      dsimp only
      omega
  unfold singles
  rw [this, List.length_reverse, List.length_range]
theorem first_inv2 {n : Nat} {f : Int} (hn : 62 ≤ n) (hn2 : n ≤ 66) (hf : 10 ≤ f) (hf2 : f ≤ 60) : keptR (singles n f) = (singles n f).take 64 ∧ Inv2 (f + 3 * ((n : Int) - 1)) 0 0 ((singles n f).take 64) := by
  obtain ⟨a, b⟩ := singles_norm n f
  have hl := singles_len n f
  have hT : Norm ((singles n f).take 64) := take_norm a 64
  have hTl : ((singles n f).take 64).length = min 64 n := by rw [List.length_take, hl]
  have hlast : ((singles n f).take 64).getLastD (0, 0) = (f + 3 * ((n : Int) - 1 - ((min 64 n - 1 : Nat) : Int)), f + 3 * ((n : Int) - 1 - ((min 64 n - 1 : Nat) : Int))) := by
    rw [List.getLastD_eq_getLast?, List.getLast?_eq_getElem?, hTl, List.getElem?_take_of_lt (by omega), singles_get (by omega)]
    rfl
  have hTm : ∀ k, hasN ((singles n f).take 64) k = true → hasN (singles n f) k = true := fun k hk => by
    obtain ⟨p, hp, x⟩ := hasN_iff.mp hk
    exact hasN_iff.mpr ⟨p, List.mem_of_mem_take hp, x⟩
  refine ⟨kept_take a, hT, by omega, by omega, ?_, ?_, ?_, ?_, by omega⟩
  · rw [hlast]; dsimp only; omega
  · rw [hlast]; dsimp only; omega
  · have e : singles n f = (singles n f).take 64 ++ (singles n f).drop 64 := (List.take_append_drop _ _).symm
    have h2 := singles_cnt n f
    rw [e, List.flatMap_append, List.length_append] at h2
    have hD : Norm ((singles n f).drop 64) := by
      rw [e] at a
      exact (norm_split a).2.1
    have h4 := norm_cnt hD
    rw [List.length_drop, hl] at h4
    omega
  · intro k hk
    obtain ⟨c, hc, rfl⟩ := (b k).mp (hTm k hk)
    omega

set_option genInjectivity false in
structure LD where
  (r R : Addr)
  np : Nat
  (z u : Int)
  (t1 t2 tf tm tu tw th e1 e2 e3 : Tok)
  t : Nat → Tok
  nmS : Str
  (nn sn la ac le lo ls lt fu wn hn ig : Value)
  es : List (Addr × Obj)
/-- the state of the law's loop: what stands where -/
def LB (w : World) (h₀ : Heap) (L P x d l e : Addr) (vs : List Value) (H pi f : Int) (ps : List (Int × Int)) (m : Str → Option Value) (nx : List (Addr × Obj)) : Prop :=
  ∃ D : LD, match D with
  | ⟨r, R, np, z, u, t1, t2, tf, tm, tu, tw, th, e1, e2, e3, t, nmS, nn, sn, la, ac, le, lo, ls, lt, fu, wn, hn, ig, es⟩ =>
    nx = (d, spD w.params t (.str nmS tm) nn sn la ac le lo (.ref r) ls lt (.int f tf) fu (.int u tu) wn hn (.ref e) ig) :: (x, instObj 196 d) :: (P, PySem.W.listOf #[.int z t1, .ref l, .int pi t2] np) :: es ∧
    (m (Str.ofString "pool") = some (.ref P) ∧ m (Str.ofString "space") = some (.ref x) ∧ m (Str.ofString "ranges") = some (.ref R) ∧ m (Str.ofString "floor") = some (.int f tw) ∧ m (Str.ofString "high") = some (.int H th)) ∧ Seen ls lt fu ∧
    (∀ h, Kp h₀ h → News h₀ L h es → PL h r ps ∧ PL h R ps ∧ h.IsList e #[.int 0 e1, .int 0 e2, .int 0 e3] ∧ h.IsList l vs.toArray) ∧
    (∀ p ∈ es, p.1 ≠ d ∧ p.1 ≠ x ∧ p.1 ≠ P) ∧ (x ≠ d ∧ P ≠ d ∧ P ≠ x)
theorem news_ne {h₀ h : Heap} {L a b : Addr} {oa ob : Obj} {es : List (Addr × Obj)} (N : News h₀ L h es) (ha : (a, oa) ∈ es) (hb : (b, ob) ∈ es) (hne : oa ≠ ob) : a ≠ b := fun e => by
  have h1 := (N _ ha).1
  have h2 := (N _ hb).1
  dsimp only at h1 h2
  rw [e, h2] at h1
  exact hne (Option.some.inj h1).symm
theorem draw_led {h₀ h h' : Heap} {L d x P : Addr} {od ox oP oP' : Obj} {es : List (Addr × Obj)} (N : News h₀ L h ((d, od) :: (x, ox) :: (P, oP) :: es)) (ap : x ≠ d ∧ P ≠ d ∧ P ≠ x) (off : ∀ p ∈ es, p.1 ≠ P)
    (k : ∀ b o, b ≠ P → h.get? b = some o → h'.get? b = some o) (e : h'.get? P = some oP') : News h₀ L h' ((d, od) :: (x, ox) :: (P, oP') :: es) :=
  news_set1 (pre := [(d, od), (x, ox)]) (post := es) N (List.forall_mem_cons.mpr ⟨ap.2.1.symm, List.forall_mem_cons.mpr ⟨ap.2.2.symm, List.forall_mem_nil _⟩⟩) off k e
theorem own3 {d x P : Addr} {od ox oP : Obj} {es own : List (Addr × Obj)} (ho : OwnOff own (((d, od) :: (x, ox) :: (P, oP) :: es).map (·.1))) (off : ∀ p ∈ es, p.1 ≠ d ∧ p.1 ≠ x ∧ p.1 ≠ P) : ∀ p ∈ es ++ own, p.1 ≠ d ∧ p.1 ≠ x ∧ p.1 ≠ P := fun p hp => by
  rcases List.mem_append.mp hp with hp | hp
  · exact off p hp
  · exact ⟨ho p hp _ (by simp), ho p hp _ (by simp), ho p hp _ (by simp)⟩
theorem News.dr3 {h₀ h : Heap} {L : Addr} {a b c : Addr × Obj} {es : List (Addr × Obj)} (N : News h₀ L h (a :: b :: c :: es)) : News h₀ L h es := News.tl (News.tl (News.tl N))
noncomputable abbrev lawEnv2 (P : Params) (L fa : Addr) (cd : Value) : Env := envOf (Str.ofString "law") (lawScope P) L fa cd
section
variable {w : World} {mean : ExcName → Option Value} {mg mb : Str → Option Value} {dp un : Nat} {fr : Option (List Env)} {gd : Option (List Code)} {s : Shared} {E : Value → Shared → Prop}
variable {h₀ : Heap} {L fa P x d l e : Addr} {cd : Value} {vs : List Value} {ns : List Int} {H pi f n ti : Int} {ps : List (Int × Int)} {m : Str → Option Value} {nx own : List (Addr × Obj)} {h : Heap} {tk i : Nat} {tt tn : Tok}
local macro_rules | `(tactic| walk_at "subscriptTail") => `(tactic| (k_here; refine Halt.out ?_))
set_option maxHeartbeats 8000000 in
theorem stepA (X : (heapK w.params).In h₀) (T : Top viewK (looseW viewK []) mean mg mb h₀) (hdp : dp + 200 < recursionLimit) (hun : un + 2000 < cLine) (hns : IntsAre vs ns) (hlen : ns.length ≤ 63) (hlP : l ≠ P)
    (F : Fr h₀ L h m) (N : News h₀ L h (nx ++ own)) (ho : OwnOff own (nx.map (·.1)))
    (hB : LB w h₀ L P x d l e vs H pi f ps m nx) (hI : Inv2 H i f ps) (hi : i ≤ 5) (p0 : 0 ≤ pi) (p1 : pi ≤ 100) (ht : m (Str.ofString "step") = some (.int ti tt)) :
    wpAny (model PySem.Challenge.rw_pf0261_02.row.prog w) (Ar dp un fr gd) (exec (nthS 0 (turnBody w.params)) (lawEnv2 w.params L fa cd))
      (SP h₀ L own s fun m' nx' => ∃ n tn, LB w h₀ L P x d l e vs H (pi + 1) f ps m' nx' ∧ m' (Str.ofString "number") = some (.int n tn) ∧ m' (Str.ofString "step") = some (.int ti tt) ∧ (ps.getLastD (0, 0)).1 < n ∧ n ≤ H + 5) E { s with heap := h, toks := tk } := by
  obtain ⟨⟨r, R, np, z, u, t1, t2, tf, tm, tu, tw, th, e1, e2, e3, t, nmS, nn, sn, la, ac, le, lo, ls, lt, fu, wn, hn, ig, es⟩, rfl, ⟨q1, q2, q3, q4, q5⟩, hs, clo, off, ap⟩ := hB
  have oall := own3 ho off
  have N0 : News h₀ L h (_ :: _ :: _ :: (es ++ own)) := N
  clear N
  generalize hes : es ++ own = eo at N0 oall
  have cl : ∀ h', Kp h₀ h' → News h₀ L h' eo → PL h' r ps ∧ PL h' R ps ∧ h'.IsList e #[.int 0 e1, .int 0 e2, .int 0 e3] ∧ h'.IsList l vs.toArray := fun h' k N => clo h' k (News.lft (by rw [hes]; exact N))
  have offP := fun p hp => (oall p hp).2.2
  have hne := hI.ne
  have hps2 := hI.len
  have hlow := hI.lowb
  obtain ⟨pl, hpl⟩ : ∃ p, ps[ps.length - 1]? = some p := ⟨_, List.getElem?_eq_getElem (by omega)⟩
  have hlast : ps.getLastD (0, 0) = pl := by rw [List.getLastD_eq_getLast?, List.getLast?_eq_getElem?, hpl]; rfl
  rw [hlast] at hlow ⊢
  dsimp only [turnBody, lawBody, bodyOf, getFor, nthS, lawEnv2, lawScope, scopeOf]
  (try k_fold)
  k_steps
  refine item_PL_last (cl _ F.keep (News.dr3 N0)).2.1 rfl hpl fun a5 x5 y5 ht5 => ?_
  k_steps
  refine tup_fst ht5 ?_
  k_steps
  rename Fr _ _ _ _ => F1
  rename News _ _ _ _ => N1
  have N2 := News.tl N1
  have hD := Nat.ne_of_gt (Heap.lt_size (N1 _ (.head _)).1)
  refine spec_draw X T F1.keep (Nat.le_of_lt (Nat.lt_of_le_of_lt F1.above F1.ns.lt)) (N2 _ (.tail _ (.tail _ (.head _)))).2.2 (N2 _ (.tail _ (.tail _ (.head _)))).1 (cl _ F1.keep (News.dr3 N2)).2.2.2 hns hlen hlP p0 (by omega) (by decide) (by omega) (by omega) fun v z3 h3 tk3 t3 u3 t4 n3 v0 v1 k3 e3' => ?_
  have hlP6 : _ ≠ P := news_ne N1 (.head _) (.tail _ (.tail _ (.tail _ (.head _)))) (by intro e; cases e)
  have F3 := fr_mut F1 (N2 _ (.tail _ (.tail _ (.head _)))).2.1.symm (N2 _ (.tail _ (.tail _ (.head _)))).2.2 k3
  have N3 := news_set1 (pre := [_, _, _]) (post := eo) N1 (List.forall_mem_cons.mpr ⟨hlP6, List.forall_mem_cons.mpr ⟨ap.2.1.symm, List.forall_mem_cons.mpr ⟨ap.2.2.symm, List.forall_mem_nil _⟩⟩⟩) offP k3 e3'
  clear F1 N1 N2
  dsimp only [List.cons_append, List.nil_append] at N3
  have hv9 : v = 0 ∨ v = 1 ∨ v = 2 ∨ v = 3 ∨ v = 4 ∨ v = 5 := by omega
  obtain ⟨ga, hga, gap2, gap3⟩ : ∃ ga, ([H + 5, H + 2, H - 1, H - 2, pl.1 + 1, H - 5] : List Int)[v.toNat]? = some ga ∧ pl.1 < ga ∧ ga ≤ H + 5 := by
    rcases hv9 with rfl | rfl | rfl | rfl | rfl | rfl
    · exact ⟨_, rfl, by omega, by omega⟩
    · exact ⟨_, rfl, by omega, by omega⟩
    · exact ⟨_, rfl, by omega, by omega⟩
    · exact ⟨_, rfl, by omega, by omega⟩
    · exact ⟨_, rfl, by omega, by omega⟩
    · exact ⟨_, rfl, by omega, by omega⟩
  k_steps
  refine item_IL (News.isList N3 (.head _)) (.cons _ _ (.cons _ _ (.cons _ _ (.cons _ _ (.cons _ _ (.cons _ _ .nil)))))) v0 (by omega) hga fun t4b => ?_
  clear hga hv9
  k_steps
  rename Fr _ _ _ _ => F6
  rename News _ _ _ _ => N6
  subst hes
  exact SP.intro (nx := _ :: _ :: _ :: es) F6 (News.tl N6) ho ⟨_, _, ⟨⟨r, R, _, _, u, _, _, tf, tm, tu, tw, th, e1, e2, e3, t, nmS, nn, sn, la, ac, le, lo, ls, lt, fu, wn, hn, ig, es⟩, rfl, ⟨q1, q2, q3, q4, q5⟩, hs, clo, off, ap⟩, rfl, ht, gap2, gap3⟩
end

/-- the entries of a new list of pairs stand apart from the mutable objects -/
theorem off3 {h₀ h : Heap} {L d x P r : Addr} {od ox oP : Obj} {es : List (Addr × Obj)} (N : News h₀ L h es) (ce : ∀ e ∈ es, e.2.cls = .type "tuple" ∨ (e.1 = r ∧ e.2.cls = .type "list")) (se : ∀ e ∈ es, SeqE e)
    (hd : h.get? d = some od) (hx : h.get? x = some ox) (hP : h.get? P = some oP) (d1 : ∀ v n, od.data ≠ .seq v n) (x1 : ∀ v n, ox.data ≠ .seq v n) (P1 : oP.cls ≠ .type "tuple") (rP : r ≠ P) : ∀ p ∈ es, p.1 ≠ d ∧ p.1 ≠ x ∧ p.1 ≠ P := fun p hp =>
  ⟨off_data N se hd d1 p hp, off_data N se hx x1 p hp, off_list N ce hP P1 rP p hp⟩
theorem own_app {own es es2 : List (Addr × Obj)} {a b c : Addr × Obj} (ho : OwnOff own ((a :: b :: c :: es).map (·.1))) (oe : OwnOff own (es2.map (·.1))) : OwnOff own ((a :: b :: c :: (es2 ++ es)).map (·.1)) := by
  intro p hp b hb
  simp only [List.map_cons, List.map_append, List.mem_cons, List.mem_append] at hb
  rcases hb with hb | hb | hb | hb | hb
  · exact ho p hp b (by simp [hb])
  · exact ho p hp b (by simp [hb])
  · exact ho p hp b (by simp [hb])
  · exact oe p hp b hb
  · exact ho p hp b (List.mem_cons_of_mem _ (List.mem_cons_of_mem _ (List.mem_cons_of_mem _ hb)))
theorem News.put3 {h₀ h : Heap} {L : Addr} {a b c : Addr × Obj} {es e2 : List (Addr × Obj)} (N : News h₀ L h (a :: b :: c :: es)) (M : News h₀ L h e2) : News h₀ L h (a :: b :: c :: (e2 ++ es)) := fun p hp => by
  simp only [List.mem_cons, List.mem_append] at hp
  rcases hp with hp | hp | hp | hp | hp
  all_goals first
    | exact M p hp
    | exact N p (by simp only [List.mem_cons]; simp [hp])
section
variable {w : World} {mean : ExcName → Option Value} {mg mb : Str → Option Value} {dp un : Nat} {fr : Option (List Env)} {gd : Option (List Code)} {s : Shared} {E : Value → Shared → Prop}
variable {h₀ : Heap} {L fa P x d l e : Addr} {cd : Value} {vs : List Value} {ns : List Int} {H pi f n ti : Int} {ps : List (Int × Int)} {m : Str → Option Value} {nx own : List (Addr × Obj)} {h : Heap} {tk i : Nat} {tt tn : Tok}
local macro_rules | `(tactic| walk_at "call builtin:len") => `(tactic| (k_here; refine Halt.out ?_))
local macro_rules | `(tactic| walk_at "subscriptTail") => `(tactic| (k_here; refine Halt.out ?_))
set_option maxHeartbeats 8000000 in
theorem stepB (X : (heapK w.params).In h₀) (T : Top viewK (looseW viewK []) mean mg mb h₀) (hdp : dp + 200 < recursionLimit) (hun : un + 2000 < cLine) (hoS : ∀ p ∈ own, ∀ v n, p.2.data ≠ .seq v n)
    (F : Fr h₀ L h m) (N : News h₀ L h (nx ++ own)) (ho : OwnOff own (nx.map (·.1)))
    (hB : LB w h₀ L P x d l e vs H pi f ps m nx) (hI : Inv2 H i f ps) (hi : i ≤ 10) (ht : m (Str.ofString "step") = some (.int ti tt)) (hnum : m (Str.ofString "number") = some (.int n tn)) (hn1 : (ps.getLastD (0, 0)).1 < n) (hn2 : n ≤ H + 5) :
    wpAny (model PySem.Challenge.rw_pf0261_02.row.prog w) (Ar dp un fr gd) (exec (nthS 1 (turnBody w.params)) (lawEnv2 w.params L fa cd))
      (SP h₀ L own s fun m' nx' => ∃ f' ps', LB w h₀ L P x d l e vs H pi f' ps' m' nx' ∧ Inv2 H (i + 1) f' ps') E { s with heap := h, toks := tk } := by
  obtain ⟨⟨r, R, np, z, u, t1, t2, tf, tm, tu, tw, th, e1, e2, e3, t, nmS, nn, sn, la, ac, le, lo, ls, lt, fu, wn, hn, ig, es⟩, rfl, ⟨q1, q2, q3, q4, q5⟩, hs, clo, off, ap⟩ := hB
  have oall := own3 ho off
  have N0 : News h₀ L h (_ :: _ :: _ :: (es ++ own)) := N
  clear N
  generalize hes : es ++ own = eo at N0 oall
  have cl : ∀ h', Kp h₀ h' → News h₀ L h' eo → PL h' r ps ∧ PL h' R ps ∧ h'.IsList e #[.int 0 e1, .int 0 e2, .int 0 e3] ∧ h'.IsList l vs.toArray := fun h' k N => clo h' k (News.lft (by rw [hes]; exact N))
  have hps2 := hI.len
  have hkn := hI.known hn1
  dsimp only [turnBody, lawBody, bodyOf, getFor, nthS, lawEnv2, lawScope, scopeOf]
  (try k_fold)
  k_steps
  refine spec_is_known (h₀ := h₀) (s := { s with heap := _, toks := _ }) X T F.keep (N0 _ (.tail _ (.head _))).2.2 (N0 _ (.head _)).2.2 ap.1 (N0 _ (.tail _ (.head _))).1 (N0 _ (.head _)).1 (cl _ F.keep (News.dr3 N0)).1 (by omega) (by omega) (by omega) fun h4 tk4 k4 => ?_
  have F4 : Fr _ L h4 _ := F.after k4
  have N4 := News.grown N0 k4
  clear F N0
  rw [hkn]
  by_cases g : hasN ps n = true
  · rw [g]
    k_steps
    subst hes
    exact SP.intro (nx := _ :: _ :: _ :: es) F4 N4 ho ⟨_, _, ⟨⟨r, R, _, _, u, _, _, tf, tm, tu, tw, th, e1, e2, e3, t, nmS, nn, sn, la, ac, le, lo, ls, lt, fu, wn, hn, ig, es⟩, rfl, ⟨q1, q2, q3, q4, q5⟩, hs, clo, off, ap⟩, hI.succ⟩
  · rw [Bool.not_eq_true] at g
    rw [g]
    obtain ⟨i1, i2, i3, i4, i5⟩ := hI.new hi g hn1 hn2
    obtain ⟨j1, j2⟩ := joined_eq hI.norm g
    have hne : 64 < (addRange ps n n).length → keptR (addRange ps n n) ≠ [] := fun _ e => by
      have := congrArg List.length (i3.symm.trans e)
      rw [List.length_take, List.length_nil] at this
      omega
    have hcnt := hI.cnt
    have hbd := hI.bd
    clear hI hkn
    k_steps
    refine spec_on_received (h₀ := h₀) (s := { s with heap := _, toks := _ }) X T F4.keep (N4 _ (.tail _ (.head _))).2.2 (N4 _ (.head _)).2.2 ap.1 (N4 _ (.tail _ (.head _))).1 (N4 _ (.head _)).1 hs (cl _ F4.keep (News.dr3 N4)).1 (by omega) (by omega) hne (by omega) (by omega) fun h5 tk5 r5 ls5 lt5 fu5 wn5 hn5 u5 tf5 tu5 k5 nf5 pl5 hs5 e5 => ?_
    have F5 := fr_mut F4 (N4 _ (.head _)).2.1.symm (N4 _ (.head _)).2.2 k5
    have N5 := news_mut N4 (List.forall_mem_cons.mpr ⟨ap.1, List.forall_mem_cons.mpr ⟨ap.2.1, fun p hp => (oall p hp).1⟩⟩) k5 e5
    have rP : r5 ≠ P := fun e => by rw [e, (N4 _ (.tail _ (.tail _ (.head _)))).1] at nf5; cases nf5
    clear F4 N4
    rw [i3] at pl5
    rw [i4] at N5
    generalize hW : addRange ps n n = W at *
    obtain ⟨es2, Ne2, ce2, fe2, se2⟩ := pl5.ledS F5
    have off2 := off3 Ne2 ce2 se2 (N5 _ (.head _)).1 (N5 _ (.tail _ (.head _))).1 (N5 _ (.tail _ (.tail _ (.head _)))).1 (by intro _ _; simp [spD]) (by intro _ _; simp) (by simp) rP
    have N5' := News.put3 N5 Ne2
    have F5' := F5
    k_steps
    refine Halt.out ?_
    refine spec_joined (s := { s with heap := _, toks := _ }) (X.keeps F5.keep) (T.keeps F5.keep) (cl _ F5.keep (News.dr3 N5)).2.1 (by omega) hbd (by omega) j1 (by show dp + 8 < _; omega) (by show un + 200 < _; omega) fun D h6 tk6 ms k6 nf6 hp6 hs6 pl6 => ?_
    dsimp only at k6 nf6 pl6
    rw [j2 ms hp6 hs6] at pl6
    have DP : D ≠ P := fun e => by rw [e, (N5 _ (.tail _ (.tail _ (.head _)))).1] at nf6; cases nf6
    have F6 := F5'.after k6
    have N6 := News.grown N5' k6
    clear F5 N5 N5' F5' j1 j2
    obtain ⟨es3, vs3, Ne3, ce3, fe3, se3⟩ := pl6.ledV F6
    have off3 := off3 Ne3 ce3 se3 (N6 _ (.head _)).1 (N6 _ (.tail _ (.head _))).1 (N6 _ (.tail _ (.tail _ (.head _)))).1 (by intro _ _; simp [spD]) (by intro _ _; simp) (by simp) DP
    have N7 := News.put3 N6 Ne3
    have hl3 : vs3.length = W.length := (fe3 _ F6.keep Ne3).2.length
    clear N6
    k_steps
    rename Fr _ _ _ _ => F7
    rename News _ _ _ _ => N8
    refine Halt.out ?_
    refine slice_L (s := { s with heap := _, toks := _ }) F7 N8 (fe3 _ F7.keep (News.lft (News.dr3 N8))).1 (by omega) (by decide) (fun D3 h8 F8 N9 l9 => ?_) (by with_unfolding_all rfl) (by intro _; with_unfolding_all rfl)
    clear F7 N8
    have pl8 : PL h8 D W := ⟨vs3, fe3 _ F8.keep (News.lft (News.dr3 (News.tl N9)))⟩
    have hown : News h₀ L h8 own := News.rgt (show News h₀ L h8 (es ++ own) by rw [hes]; exact News.rgt (News.rgt (News.dr3 (News.tl N9))))
    have Ne2' : News h₀ L h8 es2 := News.lft (News.rgt (News.dr3 (News.tl N9)))
    have Ne3' : News h₀ L h8 es3 := News.lft (News.dr3 (News.tl N9))
    have oo : OwnOff own (((d, spD w.params t (.str nmS tm) nn sn la ac le lo (.ref r5) ls5 lt5 (.int (newF f W) tf5) fu5 (.int u5 tu5) wn5 hn5 (.ref e) ig) :: (x, instObj 196 d) :: (P, PySem.W.listOf #[.int z t1, .ref l, .int pi t2] np) :: ([(D3, PySem.W.listOf (List.take (Int.toNat 64) vs3).toArray 0)] ++ (es3 ++ (es2 ++ es)))).map (·.1)) := by
      refine own_app (own_app (own_app ho (own_new hoS hown Ne2' se2)) (own_new hoS hown Ne3' se3)) ?_
      intro p hp b hb
      rw [List.mem_singleton.mp hb]
      exact Nat.ne_of_lt (l9 p (by simp [← hes, hp]))
    have off9 : ∀ p ∈ [(D3, PySem.W.listOf (List.take (Int.toNat 64) vs3).toArray 0)] ++ (es3 ++ (es2 ++ es)), p.1 ≠ d ∧ p.1 ≠ x ∧ p.1 ≠ P := by
      intro p hp
      rcases List.mem_append.mp hp with hp | hp
      · rw [List.mem_singleton.mp hp]
        exact ⟨Nat.ne_of_gt (l9 _ (.head _)), Nat.ne_of_gt (l9 _ (.tail _ (.head _))), Nat.ne_of_gt (l9 _ (.tail _ (.tail _ (.head _))))⟩
      · rcases List.mem_append.mp hp with hp | hp
        · exact off3 p hp
        · exact (List.mem_append.mp hp).elim (off2 p) (off p)
    clear hown Ne2' Ne3'
    have fin : ∀ h' tk' m' tw', Fr h₀ L h' m' → News h₀ L h' ((D3, PySem.W.listOf (List.take (Int.toNat 64) vs3).toArray 0) :: (d, spD w.params t (.str nmS tm) nn sn la ac le lo (.ref r5) ls5 lt5 (.int (newF f W) tf5) fu5 (.int u5 tu5) wn5 hn5 (.ref e) ig) :: (x, instObj 196 d) :: (P, PySem.W.listOf #[.int z t1, .ref l, .int pi t2] np) :: (es3 ++ (es2 ++ eo))) →
        (m' (Str.ofString "pool") = some (.ref P) ∧ m' (Str.ofString "space") = some (.ref x) ∧ m' (Str.ofString "ranges") = some (.ref D3) ∧ m' (Str.ofString "floor") = some (.int (newF f W) tw') ∧ m' (Str.ofString "high") = some (.int H th)) →
        SP h₀ L own s (fun m' nx' => ∃ f' ps', LB w h₀ L P x d l e vs H pi f' ps' m' nx' ∧ Inv2 H (i + 1) f' ps') .next { s with heap := h', toks := tk' } := by
      intro h' tk' m' tw' F' N' q'
      refine SP.intro (nx := _ :: _ :: _ :: ([_] ++ (es3 ++ (es2 ++ es)))) F' ?_ oo ⟨_, _, ⟨⟨r5, D3, _, _, u5, _, _, tf5, tm, tu5, tw', th, e1, e2, e3, t, nmS, nn, sn, la, ac, le, lo, ls5, lt5, fu5, wn5, hn5, ig, _⟩, rfl, q', hs5, ?_, off9, ap⟩, i5⟩
      · have := News.put3 (News.tl N') (e2 := [_]) (fun p hp => by rw [List.mem_singleton.mp hp]; exact N' _ (.head _))
        rw [← hes] at this
        simpa only [List.cons_append, List.append_assoc, List.nil_append] using this
      · intro h'' k N''
        have n1 := News.rgt N''
        have n2 := News.rgt n1
        exact ⟨fe2 h'' k (News.lft n2), ⟨_, News.isList (News.lft N'') (.head _), (fe3 h'' k (News.lft n1)).2.take 64⟩, (clo h'' k (News.rgt n2)).2.2⟩
    k_steps
    refine Halt.out ?_
    refine len_PL (s := { s with heap := _, toks := _ }) pl8 (by omega) fun t9 tk9 => ?_
    k_steps
    · refine Halt.out ?_
      rename Fr _ _ _ _ => F10
      rename News _ _ _ _ => N10
      rename (_ > _) => g64
      have g65 : 63 < W.length := by omega
      refine item_PL (s := { s with heap := _, toks := _ }) pl8 (by decide) (by decide) (List.getElem?_eq_getElem g65) fun a9 x9 y9 ht9 => ?_
      k_steps
      refine Halt.out ?_
      refine tup_fst (s := { s with heap := _, toks := _ }) ht9 ?_
      k_steps
      rename Fr _ _ _ _ => F10
      rename News _ _ _ _ => N10
      have e64 : newF f W = W[63].1 := by
        unfold newF
        rw [if_pos (by omega), List.getD_eq_getElem?_getD, List.getElem?_eq_getElem g65]
        rfl
      exact fin _ _ _ x9 F10 (News.tl N10) ⟨q1, q2, rfl, by rw [e64]; rfl, q5⟩
    · rename Fr _ _ _ _ => F10
      rename News _ _ _ _ => N10
      rename (¬ _ < _) => g64
      have e64 : newF f W = f := if_neg (by omega)
      exact fin _ _ _ tw F10 (News.tl N10) ⟨q1, q2, rfl, by rw [e64]; rfl, q5⟩
end

section
variable {w : World} {mean : ExcName → Option Value} {mg mb : Str → Option Value} {dp un : Nat} {fr : Option (List Env)} {gd : Option (List Code)} {s : Shared} {E : Value → Shared → Prop}
variable {h₀ : Heap} {L fa P x d l e : Addr} {cd : Value} {vs : List Value} {ns : List Int} {H pi f n ti : Int} {ps : List (Int × Int)} {m : Str → Option Value} {nx own : List (Addr × Obj)} {h : Heap} {tk i : Nat} {tt tn : Tok}
local macro_rules | `(tactic| walk_at "compareOp NotEq ref ref") => `(tactic| (k_here; refine Halt.out ?_))
set_option maxHeartbeats 8000000 in
theorem stepC (X : (heapK w.params).In h₀) (T : Top viewK (looseW viewK []) mean mg mb h₀) (hdp : dp + 200 < recursionLimit) (hun : un + 2000 < cLine)
    (F : Fr h₀ L h m) (N : News h₀ L h (nx ++ own)) (ho : OwnOff own (nx.map (·.1)))
    (hB : LB w h₀ L P x d l e vs H pi f ps m nx) (hI : Inv2 H i f ps) (hi : i ≤ 10) :
    wpAny (model PySem.Challenge.rw_pf0261_02.row.prog w) (Ar dp un fr gd) (exec (nthS 2 (turnBody w.params)) (lawEnv2 w.params L fa cd))
      (SP h₀ L own s fun m' nx' => LB w h₀ L P x d l e vs H pi f ps m' nx') E { s with heap := h, toks := tk } := by
  obtain ⟨⟨r, R, np, z, u, t1, t2, tf, tm, tu, tw, th, e1, e2, e3, t, nmS, nn, sn, la, ac, le, lo, ls, lt, fu, wn, hn, ig, es⟩, rfl, ⟨q1, q2, q3, q4, q5⟩, hs, clo, off, ap⟩ := hB
  have oall := own3 ho off
  have N0 : News h₀ L h (_ :: _ :: _ :: (es ++ own)) := N
  clear N
  generalize hes : es ++ own = eo at N0 oall
  have cl : ∀ h', Kp h₀ h' → News h₀ L h' eo → PL h' r ps ∧ PL h' R ps ∧ h'.IsList e #[.int 0 e1, .int 0 e2, .int 0 e3] ∧ h'.IsList l vs.toArray := fun h' k N => clo h' k (News.lft (by rw [hes]; exact N))
  have hps2 := hI.len
  have hps := hI.ne
  dsimp only [turnBody, lawBody, bodyOf, getFor, nthS, lawEnv2, lawScope, scopeOf]
  (try k_fold)
  have N0f := N0
  unfold spD at N0
  k_steps
  refine Halt.out ?_
  refine ne_PL (s := { s with heap := _, toks := _ }) (cl _ F.keep (News.dr3 N0)).1 (cl _ F.keep (News.dr3 N0)).2.1 (by show un + 64 < _; omega) ?_
  rw [decide_eq_true rfl]
  k_steps
  refine Halt.out ?_
  refine spec_known_right (h₀ := h₀) (s := { s with heap := _, toks := _ }) X T F.keep (N0f _ (.tail _ (.head _))).2.2 (N0f _ (.head _)).2.2 ap.1 (N0f _ (.tail _ (.head _))).1 (N0f _ (.head _)).1 hs (cl _ F.keep (News.dr3 N0)).1 (cl _ F.keep (News.dr3 N0)).2.1 (cl _ F.keep (News.dr3 N0)).2.2.1 (by omega) hps2 (by show dp + 100 < _; omega) (by show un + 1000 < _; omega) fun h4 tk4 k4 => ?_
  have F4 : Fr _ L h4 _ := F.after k4
  have N4 := News.grown N0f k4
  clear F N0 N0f
  k_steps
  subst hes
  exact SP.intro (nx := _ :: _ :: _ :: es) F4 N4 ho ⟨⟨r, R, _, _, u, _, _, tf, tm, tu, tw, th, e1, e2, e3, t, nmS, nn, sn, la, ac, le, lo, ls, lt, fu, wn, hn, ig, es⟩, rfl, ⟨q1, q2, q3, q4, q5⟩, hs, clo, off, ap⟩
end

theorem turn_eq (P : Params) : turnBody P = [nthS 0 (turnBody P), nthS 1 (turnBody P), nthS 2 (turnBody P)] := rfl
/-- what stands before turn i of the law's loop -/
def LJ (w : World) (h₀ : Heap) (L P x d l e : Addr) (vs : List Value) (H : Int) (i : Nat) (m : Str → Option Value) (nx : List (Addr × Obj)) : Prop :=
  ∃ pi f ps, LB w h₀ L P x d l e vs H pi f ps m nx ∧ Inv2 H i f ps ∧ 0 ≤ pi ∧ pi ≤ 10 + i
section
variable {w : World} {mean : ExcName → Option Value} {mg mb : Str → Option Value} {dp un : Nat} {fr : Option (List Env)} {gd : Option (List Code)} {s : Shared} {E : Value → Shared → Prop} {Q : Flow → Shared → Prop}
variable {h₀ : Heap} {L fa P x d l e : Addr} {cd : Value} {vs : List Value} {ns : List Int} {H ti : Int} {m : Str → Option Value} {nx own : List (Addr × Obj)} {h : Heap} {tk i : Nat} {tt : Tok}
/-- one turn of the law's loop -/
theorem law_turn (X : (heapK w.params).In h₀) (T : Top viewK (looseW viewK []) mean mg mb h₀) (hdp : dp + 200 < recursionLimit) (hun : un + 2000 < cLine) (hns : IntsAre vs ns) (hlen : ns.length ≤ 63) (hlP : l ≠ P) (hoS : ∀ p ∈ own, ∀ v n, p.2.data ≠ .seq v n)
    (ho : OwnOff own (nx.map (·.1))) (hi : i ≤ 5) (hJ : LJ w h₀ L P x d l e vs H i m nx) (F : Fr h₀ L h (fun y => if y = Str.ofString "step" then some (.int ti tt) else m y)) (N : News h₀ L h (nx ++ own)) :
    wpAny (model PySem.Challenge.rw_pf0261_02.row.prog w) (Ar dp un fr gd) (execs (turnBody w.params) (lawEnv2 w.params L fa cd)) (InvPostG h₀ L (LJ w h₀ L P x d l e vs H (i + 1)) own { s with heap := h, toks := tk } Q) E { s with heap := h, toks := tk } := by
  obtain ⟨pi, f, ps, hB, hI, p0, p1⟩ := hJ
  rw [turn_eq]
  have hB' : LB w h₀ L P x d l e vs H pi f ps (fun y => if y = Str.ofString "step" then some (.int ti tt) else m y) nx := hB
  refine wpAny_execs_cons (wpAny_mono (stepA X T hdp hun hns hlen hlP F N ho hB' hI hi p0 (by omega) rfl) (fun fl s1 z => ?_) fun _ _ e => e)
  obtain ⟨rfl, h1, tk1, m1, nx1, rfl, F1, N1, ho1, n, tn, hB1, hn1, ht1, g1, g2⟩ := z
  refine wpAny_execs_cons (wpAny_mono (stepB X T hdp hun hoS F1 N1 ho1 hB1 hI (by omega) ht1 hn1 g1 g2) (fun fl s2 z => ?_) fun _ _ e => e)
  obtain ⟨rfl, h2, tk2, m2, nx2, rfl, F2, N2, ho2, f', ps', hB2, hI2⟩ := z
  refine wpAny_execs_cons (wpAny_mono (stepC X T hdp hun F2 N2 ho2 hB2 hI2 (by omega)) (fun fl s3 z => ?_) fun _ _ e => e)
  obtain ⟨rfl, h3, tk3, m3, nx3, rfl, F3, N3, ho3, hB3⟩ := z
  refine wpAny_execs_nil ?_
  exact InvEndG.intro F3 N3 ⟨pi + 1, f', ps', hB3, hI2, by omega, by omega⟩ ho3 (fun p hp => List.mem_append.mpr (.inl hp)) (fun p hp => List.mem_append.mpr (.inr hp))
end

section
variable {w : World} {mean : ExcName → Option Value} {mg mb : Str → Option Value} {dp un : Nat} {fr : Option (List Env)} {gd : Option (List Code)} {s : Shared} {E : Value → Shared → Prop} {Q : Flow → Shared → Prop}
variable {h₀ : Heap} {L fa : Addr} {cd : Value} {m : Str → Option Value} {nx : List (Addr × Obj)} {h : Heap} {tk : Nat}
local macro_rules | `(tactic| walk_at "subscriptTail") => `(tactic| (k_here; refine Halt.out ?_))
local macro_rules | `(tactic| walk_at "call builtin:len") => `(tactic| (k_here; refine Halt.out ?_))
set_option maxHeartbeats 8000000 in
/-- the law's last part: a fresh space with few ranges -/
theorem law_few (X : (heapK w.params).In h₀) (T : Top viewK (looseW viewK []) mean mg mb h₀) (hdp : dp + 250 < recursionLimit) (hun : un + 2500 < cLine) (F : Fr h₀ L h m) (N : News h₀ L h nx)
    (ret : ∀ h' tk' m', Fr h₀ L h' m' → Q (.ret (.bool true)) { s with heap := h', toks := tk' }) :
    wpAny (model PySem.Challenge.rw_pf0261_02.row.prog w) (Ar dp un fr gd) (execs ((lawBody w.params).drop 14) (lawEnv2 w.params L fa cd)) Q E { s with heap := h, toks := tk } := by
  dsimp only [lawBody, bodyOf, lawEnv2, lawScope, scopeOf, List.drop]
  (try k_fold)
  k_steps
  refine Halt.out ?_
  refine spec_new_space (s := { s with heap := _, toks := _ }) X T F N (by show dp + 50 < _; omega) (by show un + 600 < _; omega) fun x d r0 a0 e sn so h2 tk2 t tn e1 e2 e3 tf tu F2 N2 hord => ?_
  clear F N
  obtain ⟨or1, or2, or3, or4, or5, or6⟩ := hord
  have xd : x ≠ d := Nat.ne_of_gt or5
  have N3 : News h₀ L h2 [_, _, _] := fun p hp => N2 p (by simp only [List.mem_cons, List.not_mem_nil, or_false] at hp ⊢; rcases hp with hp | hp | hp; exact .inr (.inr (.inr (.inr (.inr (.inl hp))))); exact .inr (.inr (.inr (.inr (.inl hp)))); exact .inl hp)
  clear N2
  have ed : e ≠ d := Nat.ne_of_gt (Nat.lt_trans or5 (Nat.lt_trans or4 (Nat.lt_trans or3 (Nat.lt_trans or2 or1))))
  clear or1 or2 or3 or4 or5 or6
  k_steps
  refine Halt.out ?_
  rename Fr _ _ _ _ => F3
  rename News _ _ _ _ => N3
  refine spec_singles (s := { s with heap := _, toks := _ }) (n := 64) (f := 9) (X.keeps F3.keep) (T.keeps F3.keep) (by decide) (by decide) (by show dp + 8 < _; omega) (by show un + 200 < _; omega) fun D h4 tk4 k4 nf4 pl4 => ?_
  dsimp only at k4 nf4 pl4
  have F4 := F3.after k4
  have N4 := News.grown N3 k4
  clear F3 N3
  obtain ⟨es, Ne, ce, fe, se⟩ := pl4.ledS F4
  have N5 := News.app N4 Ne
  have offd : ∀ p ∈ [(x, instObj 196 d), (e, PySem.W.listOf #[.int 0 e1, .int 0 e2, .int 0 e3] 0)] ++ es, p.1 ≠ d := by
    intro p hp
    simp only [List.cons_append, List.nil_append, List.mem_cons] at hp
    rcases hp with rfl | rfl | hp
    · exact xd
    · exact ed
    · exact off_data Ne se (N4 _ (.head _)).1 (by intro _ _; simp [spD]) p hp
  clear N4 Ne
  dsimp only [List.cons_append, List.nil_append] at N5 offd
  unfold spD at N5
  k_steps
  rename Fr _ _ _ _ => F6
  rename News _ _ _ _ => N6
  rw [sp_fold] at N6
  generalize (fun (i : Nat) => ([t 0, t 1, t 2, t 3, t 4, t 5, t 6, t 7, t 8, t 9, t 10, t 11, t 12, t 13, t 14, t 15, t 16] : List Tok).getD i 0) = t6 at N6
  refine Halt.out ?_
  refine spec_is_known (h₀ := h₀) (s := { s with heap := _, toks := _ }) X T F6.keep (N6 _ (.tail _ (.head _))).2.2 (N6 _ (.head _)).2.2 xd (N6 _ (.tail _ (.head _))).1 (N6 _ (.head _)).1 (fe _ F6.keep (News.dr3 N6)) (by rw [singles_len]; decide) (by show dp + 20 < _; omega) (by show un + 300 < _; omega) fun h7 tk7 k7 => ?_
  have F7 : Fr _ L h7 _ := F6.after k7
  have N7 := News.grown N6 k7
  clear F6 N6 k7
  rw [show knownR 0 (singles 64 9) 8 = true by decide +kernel]
  k_steps
  refine Halt.out ?_
  refine spec_is_known (h₀ := h₀) (s := { s with heap := _, toks := _ }) X T F7.keep (N7 _ (.tail _ (.head _))).2.2 (N7 _ (.head _)).2.2 xd (N7 _ (.tail _ (.head _))).1 (N7 _ (.head _)).1 (fe _ F7.keep (News.dr3 N7)) (by rw [singles_len]; decide) (by show dp + 20 < _; omega) (by show un + 300 < _; omega) fun h8 tk8 k8 => ?_
  have F8 : Fr _ L h8 _ := F7.after k8
  have N8 := News.grown N7 k8
  clear F7 N7 k8
  rw [show knownR 0 (singles 64 9) 10 = false by decide +kernel]
  k_steps
  refine Halt.out ?_
  refine spec_is_known (h₀ := h₀) (s := { s with heap := _, toks := _ }) X T F8.keep (N8 _ (.tail _ (.head _))).2.2 (N8 _ (.head _)).2.2 xd (N8 _ (.tail _ (.head _))).1 (N8 _ (.head _)).1 (fe _ F8.keep (News.dr3 N8)) (by rw [singles_len]; decide) (by show dp + 20 < _; omega) (by show un + 300 < _; omega) fun h9 tk9 k9 => ?_
  have F9 : Fr _ L h9 _ := F8.after k9
  have N9 := News.grown N8 k9
  clear F8 N8 k9
  rw [show knownR 0 (singles 64 9) 9 = true by decide +kernel]
  k_steps
  refine Halt.out ?_
  refine spec_is_known (h₀ := h₀) (s := { s with heap := _, toks := _ }) X T F9.keep (N9 _ (.tail _ (.head _))).2.2 (N9 _ (.head _)).2.2 xd (N9 _ (.tail _ (.head _))).1 (N9 _ (.head _)).1 (fe _ F9.keep (News.dr3 N9)) (by rw [singles_len]; decide) (by show dp + 20 < _; omega) (by show un + 300 < _; omega) fun h10 tk10 k10 => ?_
  have F10 : Fr _ L h10 _ := F9.after k10
  have N10 := News.grown N9 k10
  clear F9 N9 k10
  rw [show knownR 0 (singles 64 9) (9 + 3 * 64) = false by decide +kernel]
  k_steps
  refine Halt.out ?_
  have N11 : News h₀ L _ [_, _, _] := fun p hp => N10 p (by simp only [List.mem_cons, List.not_mem_nil, or_false] at hp ⊢; rcases hp with hp | hp | hp; exact .inl hp; exact .inr (.inl hp); exact .inr (.inr (.inl hp)))
  clear N10 fe se offd ce
  refine spec_singles (s := { s with heap := _, toks := _ }) (n := 63) (f := 9) (X.keeps F10.keep) (T.keeps F10.keep) (by decide) (by decide) (by show dp + 8 < _; omega) (by show un + 200 < _; omega) fun D2 h12 tk12 k12 nf12 pl12 => ?_
  dsimp only at k12 nf12 pl12
  have F12 := F10.after k12
  have N12 := News.grown N11 k12
  clear F10 N11
  obtain ⟨es2, Ne, ce, fe, se⟩ := pl12.ledS F12
  have N13 := News.app N12 Ne
  have offd : ∀ p ∈ [(x, instObj 196 d), (e, PySem.W.listOf #[.int 0 e1, .int 0 e2, .int 0 e3] 0)] ++ es2, p.1 ≠ d := by
    intro p hp
    simp only [List.cons_append, List.nil_append, List.mem_cons] at hp
    rcases hp with rfl | rfl | hp
    · exact xd
    · exact ed
    · exact off_data Ne se (N12 _ (.head _)).1 (by intro _ _; simp [spD]) p hp
  clear N12 Ne
  dsimp only [List.cons_append, List.nil_append] at N13 offd
  unfold spD at N13
  k_steps
  rename Fr _ _ _ _ => F14
  rename News _ _ _ _ => N14
  rw [sp_fold] at N14
  generalize (fun (i : Nat) => ([t6 0, t6 1, t6 2, t6 3, t6 4, t6 5, t6 6, t6 7, t6 8, t6 9, t6 10, t6 11, t6 12, t6 13, t6 14, t6 15, t6 16] : List Tok).getD i 0) = t14 at N14
  refine Halt.out ?_
  refine spec_is_known (h₀ := h₀) (s := { s with heap := _, toks := _ }) X T F14.keep (N14 _ (.tail _ (.head _))).2.2 (N14 _ (.head _)).2.2 xd (N14 _ (.tail _ (.head _))).1 (N14 _ (.head _)).1 (fe _ F14.keep (News.dr3 N14)) (by rw [singles_len]; decide) (by show dp + 20 < _; omega) (by show un + 300 < _; omega) fun h15 tk15 k15 => ?_
  have F15 : Fr _ L h15 _ := F14.after k15
  have N15 := News.grown N14 k15
  clear F14 N14 k15
  rw [show knownR 0 (singles 63 9) 8 = false by decide +kernel]
  k_steps
  refine Halt.out ?_
  refine spec_ack_frame0 (h₀ := h₀) (s := { s with heap := _, toks := _ }) X T F15.keep (N15 _ (.tail _ (.head _))).2.2 (N15 _ (.head _)).2.2 xd (N15 _ (.tail _ (.head _))).1 (N15 _ (.head _)).1 (.inl ⟨rfl, rfl, rfl⟩) (fe _ F15.keep (News.dr3 N15)) (by rw [singles_len]; decide) (by intro e; have := congrArg List.length e; rw [singles_len] at this; cases this) (News.isList N15 (.tail _ (.tail _ (.head _)))) (by show dp + 50 < _; omega) (by show un + 600 < _; omega) fun D3 a v0 v1 v3 h16 tk16 k16 ht16 pl16 => ?_
  have F16 : Fr _ L h16 _ := F15.after k16
  clear F15 N15 k16
  k_steps
  refine Halt.out ?_
  have hl32 : ((singles 63 9).take 32).length = 32 := by rw [List.length_take, singles_len]; rfl
  refine len_PL (s := { s with heap := _, toks := _ }) pl16 (by rw [hl32]; decide) fun t17 tk17 => ?_
  rw [hl32]
  k_steps
  refine Halt.out ?_
  refine spec_singles (s := { s with heap := _, toks := _ }) (n := 65) (f := 0) (X.keeps F16.keep) (T.keeps F16.keep) (by decide) (by decide) (by show dp + 8 < _; omega) (by show un + 200 < _; omega) fun D18 h18 tk18 k18 nf18 pl18 => ?_
  dsimp only at k18 nf18 pl18
  have F18 : Fr _ L h18 _ := F16.after k18
  clear F16 k18
  k_steps
  refine Halt.out ?_
  refine spec_kept (s := { s with heap := _, toks := _ }) (X.keeps F18.keep) (T.keeps F18.keep) pl18 (by rw [singles_len]; decide) (by show dp + 10 < _; omega) (by show un + 200 < _; omega) fun D19 h19 tk19 k19 nf19 pl19 => ?_
  dsimp only at k19 nf19 pl19
  have F19 : Fr _ L h19 _ := F18.after k19
  clear F18 k19
  k_steps
  refine Halt.out ?_
  have hl64 : (keptR (singles 65 0)).length = 64 := by decide +kernel
  refine len_PL (s := { s with heap := _, toks := _ }) pl19 (by rw [hl64]; decide) fun t20 tk20 => ?_
  rw [hl64]
  k_steps
  exact ret _ _ _ F19
end

/-- a subscript of a temporary does what a subscript of a name does -/
theorem tail_temp {prog : Program} {w : World} {A : Around} {E : Value → Shared → Prop} {s : Shared} {Q : Value → Shared → Prop} {value value' slice : PySem.Expr} {o i : Value} (hv : ∀ r, letTemporaryGo value' o r = pure ())
    (h : wpAny (model prog w) A (subscriptTail value' slice o i) Q E s) : wpAny (model prog w) A (subscriptTail value slice o i) Q E s := by
  have e : ∀ v, subscriptTail v slice o i = (getitemInPython o >>= fun b => subscripted slice b o i) >>= fun r => letTemporaryGo v o r >>= fun _ => pure r := fun v => by
    unfold subscriptTail
    simp only [bind_assoc]
  rw [e] at h ⊢
  simp only [hv, pure_bind, bind_pure] at h
  exact wpAny_bind (wpAny_mono h (fun r _ h' => wpAny_bind (wpAny_letTemporaryGo (wpAny_pure h'))) fun _ _ x => x)
theorem bd_of {W : List (Int × Int)} {a b : Int} (hN : Norm W) (h : ∀ k, hasN W k = true → a ≤ k ∧ k ≤ b) (ha : 0 ≤ a) (hb : b ≤ 1000) : ∀ p ∈ W, -(2 ^ 61) ≤ p.1 ∧ p.1 ≤ p.2 ∧ p.2 < 2 ^ 61 := by
  intro p hp
  have w := hN.wf p hp
  have x := h p.1 (hasN_iff.mpr ⟨p, hp, Int.le_refl _, w⟩)
  have y := h p.2 (hasN_iff.mpr ⟨p, hp, w, Int.le_refl _⟩)
  omega
/-- the first number noted, joined -/
def W1 (c : Nat) : List (Int × Int) := addRange (singles c 7) (7 + 3 * 64) (7 + 3 * 64)
theorem acked_facts {c : Nat} (hc : c ≤ 64) : hasN (singles c 7) (7 + 3 * 64) = false ∧ (∀ p ∈ singles c 7, -(2 ^ 61) ≤ p.1 ∧ p.1 ≤ p.2 ∧ p.2 < 2 ^ 61) ∧ Norm ((W1 c).take 64) ∧ hasN ((W1 c).take 64) (8 + 3 * 64 + 2) = false ∧
    (∀ p ∈ (W1 c).take 64, -(2 ^ 61) ≤ p.1 ∧ p.1 ≤ p.2 ∧ p.2 < 2 ^ 61) ∧ (((W1 c).take 64).flatMap rng).length ≤ 100 ∧ ((W1 c).take 64).length ≤ 64 ∧ (W1 c).length ≤ 65 ∧
    (addRange ((W1 c).take 64) (8 + 3 * 64 + 2) (8 + 3 * 64 + 2)).length ≤ 65 ∧
    [7 + 3 * 64, 8 + 3 * 64 + 2].foldl ackF (singles c 7) = (addRange ((W1 c).take 64) (8 + 3 * 64 + 2) (8 + 3 * 64 + 2)).take 64 := by
  obtain ⟨a, b⟩ := singles_norm c 7
  have h1 : hasN (singles c 7) (7 + 3 * 64) = false := by
    rw [← Bool.not_eq_true]
    intro h
    obtain ⟨x, hx, e⟩ := (b _).mp h
    omega
  obtain ⟨n1, n2, n3, n4⟩ := add_norm (n := 7 + 3 * 64) a
  have hl := singles_len c 7
  have hT : Norm ((W1 c).take 64) := take_norm n1 64
  have hTm : ∀ k, hasN ((W1 c).take 64) k = true → (∃ x : Nat, x < c ∧ k = 7 + 3 * (x : Int)) ∨ k = 7 + 3 * 64 := fun k hk => by
    obtain ⟨p, hp, x⟩ := hasN_iff.mp hk
    rcases (n2 k).mp (hasN_iff.mpr ⟨p, List.mem_of_mem_take hp, x⟩) with y | y
    · exact .inl ((b k).mp y)
    · exact .inr y
  have h2 : hasN ((W1 c).take 64) (8 + 3 * 64 + 2) = false := by
    rw [← Bool.not_eq_true]
    intro h
    rcases hTm _ h with ⟨x, hx, e⟩ | e <;> omega
  obtain ⟨m1, m2, m3, m4⟩ := add_norm (n := 8 + 3 * 64 + 2) hT
  have hTl : ((W1 c).take 64).length ≤ 64 := by rw [List.length_take]; omega
  refine ⟨h1, bd_of a (a := 0) (b := 1000) (fun k hk => ?_) (by decide) (by decide), hT, h2, bd_of hT (a := 0) (b := 1000) (fun k hk => ?_) (by decide) (by decide), ?_, hTl, ?_, ?_, ?_⟩
  · obtain ⟨x, hx, e⟩ := (b k).mp hk
    omega
  · rcases hTm k hk with ⟨x, hx, e⟩ | e <;> omega
  · have := nodup_le (nodup_nums hT) (ks := (singles c 7).flatMap rng ++ [7 + 3 * 64]) fun k hk => by
      rw [List.mem_append, mem_nums, List.mem_singleton]
      exact (hTm k (mem_nums.mp hk)).imp (b k).mpr id
    rw [List.length_append, List.length_singleton, singles_cnt] at this
    omega
  · unfold W1; omega
  · omega
  · show ackF (ackF (singles c 7) (7 + 3 * 64)) (8 + 3 * 64 + 2) = _
    have e1 : ackF (singles c 7) (7 + 3 * 64) = (W1 c).take 64 := kept_take n1
    rw [e1]
    exact kept_take m1
section
variable {w : World} {mean : ExcName → Option Value} {mg mb : Str → Option Value} {dp un : Nat} {fr : Option (List Env)} {gd : Option (List Code)} {s : Shared} {E : Value → Shared → Prop} {Q : Flow → Shared → Prop}
variable {h₀ : Heap} {L fa P x d l e : Addr} {cd : Value} {vs : List Value} {ns : List Int} {H : Int} {m : Str → Option Value} {nx : List (Addr × Obj)} {h : Heap} {tk i : Nat}
local macro_rules | `(tactic| walk_at "subscriptTail") => `(tactic| (k_here; refine Halt.out ?_))
local macro_rules | `(tactic| walk_at "execs cons") => `(tactic| (k_here; (with_reducible show wpAny _ _ (execs (Stmt.Assign [PySem.Expr.Name (Str.ofString "few") _] _ _ :: _) _) _ _ _); refine Halt.out ?_))
local macro_rules | `(tactic| walk_at "compareOp NotEq ref ref") => `(tactic| (k_here; refine Halt.out ?_))
set_option maxHeartbeats 8000000 in
/-- what was acked, noted and joined -/
theorem law_acked (X : (heapK w.params).In h₀) (T : Top viewK (looseW viewK []) mean mg mb h₀) (hdp : dp + 250 < recursionLimit) (hun : un + 2500 < cLine) (hns : IntsAre vs ns) (hlen : ns.length ≤ 63) (hlP : l ≠ P)
    (F : Fr h₀ L h m) (N : News h₀ L h nx) (hJ : LJ w h₀ L P x d l e vs H i m nx) (hi : i ≤ 5)
    (ret : ∀ h' tk' m', Fr h₀ L h' m' → Q (.ret (.bool true)) { s with heap := h', toks := tk' }) :
    wpAny (model PySem.Challenge.rw_pf0261_02.row.prog w) (Ar dp un fr gd) (execs ((lawBody w.params).drop 9) (lawEnv2 w.params L fa cd)) Q E { s with heap := h, toks := tk } := by
  obtain ⟨pi, f, ps, hB, hI, p0, p1⟩ := hJ
  obtain ⟨⟨r, R, np, z, u, t1, t2, tf, tm, tu, tw, th, e1, e2, e3, t, nmS, nn, sn, la, ac, le, lo, ls, lt, fu, wn, hn, ig, es⟩, rfl, ⟨q1, q2, q3, q4, q5⟩, hs, clo, off, ap⟩ := hB
  have offP := fun p hp => (off p hp).2.2
  dsimp only [lawBody, bodyOf, lawEnv2, lawScope, scopeOf, List.drop]
  (try k_fold)
  k_steps
  refine Halt.out ?_
  refine spec_draw X T F.keep (Nat.le_of_lt (Nat.lt_of_le_of_lt F.above F.ns.lt)) (N _ (.tail _ (.tail _ (.head _)))).2.2 (N _ (.tail _ (.tail _ (.head _)))).1 (clo _ F.keep (News.dr3 N)).2.2.2 hns hlen hlP p0 (by omega) (by decide) (by omega) (by omega) fun v z3 h3 tk3 t3 u3 t4 n3 v0 v1 k3 e3' => ?_
  have F3 := fr_mut F (N _ (.tail _ (.tail _ (.head _)))).2.1.symm (N _ (.tail _ (.tail _ (.head _)))).2.2 k3
  have N3 := draw_led N ap offP k3 e3'
  clear F N
  k_steps
  refine Halt.out ?_
  obtain ⟨c, hc, c1, c2⟩ : ∃ c : Nat, (if 64 < 62 + v then (64 : Int) else 62 + v) = (c : Int) ∧ 62 ≤ c ∧ c ≤ 64 := by
    by_cases g : 64 < 62 + v
    · exact ⟨64, by rw [if_pos g]; rfl, by decide, by decide⟩
    · exact ⟨(62 + v).toNat, by rw [if_neg g]; omega, by omega, by omega⟩
  rw [hc]
  rename Fr _ _ _ _ => F4
  rename News _ _ _ _ => N4
  refine spec_singles (s := { s with heap := _, toks := _ }) (n := c) (f := 7) (X.keeps F4.keep) (T.keeps F4.keep) (by omega) (by omega) (by show dp + 8 < _; omega) (by show un + 200 < _; omega) fun D5 h5 tk5 k5 nf5 pl5 => ?_
  dsimp only at k5 nf5 pl5
  have F5 := F4.after k5
  have N5 := News.grown N4 k5
  clear F4 N4
  obtain ⟨es5, Ne5, ce5, fe5, se5⟩ := pl5.ledS F5
  have off5 : ∀ p ∈ es5, p.1 ≠ d := off_data Ne5 se5 (N5 _ (.head _)).1 (by intro _ _; simp [spD])
  have N6 := News.put3 N5 Ne5
  have offd : ∀ p ∈ (x, instObj 196 d) :: (P, PySem.W.listOf #[.int z3 u3, .ref l, .int (pi + 1) t3] n3) :: (es5 ++ es), p.1 ≠ d := List.forall_mem_cons.mpr ⟨ap.1, List.forall_mem_cons.mpr ⟨ap.2.1, fun p hp => (List.mem_append.mp hp).elim (off5 p) fun hp => (off p hp).1⟩⟩
  clear N5 Ne5
  unfold spD at N6
  k_steps
  refine Halt.out ?_
  rename Fr _ _ _ _ => F7
  rename News _ _ _ _ => N7
  rw [sp_fold] at N7
  generalize (fun (i : Nat) => ([t 0, t 1, t 2, t 3, t 4, t 5, t 6, t 7, t 8, t 9, t 10, t 11, t 12, t 13, t 14, t 15, t 16] : List Tok).getD i 0) = t6 at N7
  obtain ⟨sn1, sn2⟩ := singles_norm c 7
  have N7t := News.tl N7
  refine spec_note_acked (h₀ := h₀) (s := { s with heap := _, toks := _ }) X T F7.keep (N7t _ (.tail _ (.head _))).2.2 (N7t _ (.head _)).2.2 ap.1 (N7t _ (.tail _ (.head _))).1 (N7t _ (.head _)).1 (fe5 _ F7.keep (News.lft (News.dr3 N7t))) (News.isList N7 (.head _)) (.cons _ _ (.cons _ _ .nil)) sn1 (by rw [singles_len]; omega) (by show dp + 100 < _; omega) (by show un + 1000 < _; omega) fun h8 tk8 a8 k8 pl8 e8 => ?_
  dsimp only at k8
  have F8 := fr_mut F7 (N7t _ (.head _)).2.1.symm (N7t _ (.head _)).2.2 k8
  have N8 := news_mut N7t offd k8 e8
  clear F7 N7 N7t
  obtain ⟨es8, Ne8, ce8, fe8, se8⟩ := pl8.ledS F8
  have N9 := News.put3 N8 Ne8
  clear N8 Ne8 pl8
  unfold spD at N9
  k_steps
  refine Halt.out ?_
  rw [hc]
  obtain ⟨g1, g2, g3, g4, g5, g6, g7, g8, g9, g10⟩ := acked_facts c2
  obtain ⟨j1, j2⟩ := joined_eq sn1 g1
  obtain ⟨j3, j4⟩ := joined_eq g3 g4
  rename Fr _ _ _ _ => F9
  rename News _ _ _ _ => N9
  refine spec_singles (s := { s with heap := _, toks := _ }) (n := c) (f := 7) (X.keeps F9.keep) (T.keeps F9.keep) (by omega) (by omega) (by show dp + 8 < _; omega) (by show un + 200 < _; omega) fun D10 h10 tk10 k10 nf10 pl10 => ?_
  dsimp only at k10 nf10 pl10
  have F10 := F9.after k10
  have N10 := News.grown N9 k10
  clear F9 N9
  obtain ⟨es10, Ne10, ce10, fe10, se10⟩ := pl10.ledS F10
  have N11 := News.put3 N10 Ne10
  clear N10 Ne10 pl10
  k_steps
  refine Halt.out ?_
  clear F8
  rename Fr _ _ _ _ => F11
  refine spec_joined (s := { s with heap := _, toks := _ }) (X.keeps F11.keep) (T.keeps F11.keep) (fe10 _ F11.keep (News.lft (News.dr3 N11))) (by rw [singles_len]; omega) g2 (by rw [singles_cnt]; omega) j1 (by show dp + 8 < _; omega) (by show un + 200 < _; omega) fun D12 h12 tk12 ms12 k12 nf12 hp12 ho12 pl12 => ?_
  dsimp only at k12 nf12 pl12
  rw [j2 ms12 hp12 ho12] at pl12
  change PL h12 D12 (W1 c) at pl12
  have F12 := F11.after k12
  have N12 := News.grown N11 k12
  clear F11 N11 hp12 ho12 j1 j2
  obtain ⟨es12, vs12, Ne12, ce12, fe12, se12⟩ := pl12.ledV F12
  have hl12 : vs12.length = (W1 c).length := (fe12 _ F12.keep Ne12).2.length
  have N13 := News.put3 N12 Ne12
  clear N12 Ne12 pl12
  k_steps
  rename Fr _ _ _ _ => F14
  rename News _ _ _ _ => N14
  refine Halt.out ?_
  refine tail_temp (value' := .Name (Str.ofString "due") ⟨0, 0, 0, 0⟩) (fun _ => rfl) ?_
  refine slice_L (s := { s with heap := _, toks := _ }) F14 N14 (fe12 _ F14.keep (News.lft (News.dr3 N14))).1 (by omega) (by decide) (fun D15 h15 F15 N15 l15 => ?_) (by with_unfolding_all rfl) (by intro _; with_unfolding_all rfl)
  clear F14 N14
  k_steps
  refine Halt.out ?_
  refine spec_joined (s := { s with heap := _, toks := _ }) (X.keeps F15.keep) (T.keeps F15.keep) (ps := (W1 c).take 64) ⟨_, News.isList N15 (.head _), (fe12 _ F15.keep (News.lft (News.dr3 (News.tl N15)))).2.take 64⟩ (by omega) g5 g6 j3 (by show dp + 8 < _; omega) (by show un + 200 < _; omega) fun D16 h16 tk16 ms16 k16 nf16 hp16 ho16 pl16 => ?_
  dsimp only at k16 nf16 pl16
  rw [j4 ms16 hp16 ho16] at pl16
  have F16 : Fr _ L h16 _ := F15.after k16
  have N16 := News.grown (News.tl N15) k16
  clear F15 N15 hp16 ho16 j3 j4
  obtain ⟨es16, vs16, Ne16, ce16, fe16, se16⟩ := pl16.ledV F16
  have hl16 := (fe16 _ F16.keep Ne16).2.length
  have N17 := News.put3 N16 Ne16
  clear N16 Ne16 pl16
  k_steps
  rename Fr _ _ _ _ => F18
  rename News _ _ _ _ => N18
  refine Halt.out ?_
  refine tail_temp (value' := .Name (Str.ofString "due") ⟨0, 0, 0, 0⟩) (fun _ => rfl) ?_
  refine slice_L (s := { s with heap := _, toks := _ }) F18 N18 (fe16 _ F18.keep (News.lft (News.dr3 N18))).1 (by omega) (by decide) (fun D19 h19 F19 N19 l19 => ?_) (by with_unfolding_all rfl) (by intro _; rfl)
  clear F18 N18
  k_steps
  rename Fr _ _ _ _ => F20
  rename News _ _ _ _ => N20
  refine Halt.out ?_
  have n1 := News.dr3 (News.tl N20)
  have p8 := fe8 _ F20.keep (News.lft (News.rgt (News.rgt (News.rgt n1))))
  rw [g10] at p8
  refine ne_PL (s := { s with heap := _, toks := _ }) p8 ⟨_, News.isList N20 (.head _), (fe16 _ F20.keep (News.lft n1)).2.take 64⟩ (by show un + 64 < _; omega) ?_
  rw [decide_eq_true rfl]
  clear n1 p8
  k_steps
  refine Halt.out ?_
  exact law_few X T hdp hun F20 N20 ret
end

section
variable {w : World} {mean : ExcName → Option Value} {mg mb : Str → Option Value} {dp un : Nat} {fr : Option (List Env)} {gd : Option (List Code)} {s : Shared} {E : Value → Shared → Prop} {Q : Flow → Shared → Prop}
variable {h₀ : Heap} {L fa P l : Addr} {cd : Value} {vs : List Value} {ns : List Int} {m : Str → Option Value} {h : Heap} {tk np : Nat} {z v1 v2 : Int} {t1 t2 t3 t4 : Tok} {ys : List Value}
local macro_rules | `(tactic| walk_at "exec For Name Call cons nil") => `(tactic| (k_here; refine Halt.out ?_))
local macro_rules | `(tactic| walk_at "subscriptTail") => `(tactic| (k_here; refine Halt.out ?_))
local macro_rules | `(tactic| walk_at "call type:range") => `(tactic| (k_here; refine Halt.out ?_))
local macro_rules | `(tactic| walk_at "compareOp NotEq ref ref") => `(tactic| (k_here; refine Halt.out ?_))
theorem menu_two {prog : Program} {w : World} {A : Around} {E : Value → Shared → Prop} {s : Shared} {l : Addr} {a b : Str} {ta tb : Tok} {v : Int} {t : Tok} {n : Nat} {value slice : PySem.Expr} {Q : Value → Shared → Prop} (hl : s.heap.get? l = some (PySem.W.listOf #[.str a ta, .str b tb] n)) (v0 : 0 ≤ v) (v1 : v < 2)
    (h : ∀ nm tm, Q (.str nm tm) s)
    (hs : subscripted slice false (.ref l) (.int v t) = operate [.ref l, .int v t] (getItem (.ref l) (.int v t)) := by with_unfolding_all rfl) :
    wpAny (model prog w) A (subscriptTail value slice (.ref l) (.int v t)) Q E s := by
  have hL : s.heap.IsList l #[.str a ta, .str b tb] := ⟨_, hl, rfl, _, rfl⟩
  have : v = 0 ∨ v = 1 := by omega
  rcases this with rfl | rfl
  · exact tail_any hL.typeIs slot_list_getitem.lookup (wpAny_getItem_list hL v0 (by decide) (x := .str a ta) rfl (h _ _)) hs
  · exact tail_any hL.typeIs slot_list_getitem.lookup (wpAny_getItem_list hL v0 (by decide) (x := .str b tb) rfl (h _ _)) hs
set_option maxHeartbeats 8000000 in
/-- from the space on -/
theorem law_mid (X : (heapK w.params).In h₀) (T : Top viewK (looseW viewK []) mean mg mb h₀) (hdp : dp + 250 < recursionLimit) (hun : un + 2500 < cLine) (F : Fr h₀ L h m) (N : News h₀ L h [(P, PySem.W.listOf #[.int z t1, .ref l, .int 2 t2] np), (l, LCg.lst ys)])
    (hm1 : m (Str.ofString "pool") = some (.ref P)) (hm2 : m (Str.ofString "many") = some (.int (62 + v1) t3)) (hm3 : m (Str.ofString "first") = some (.int (10 + v2) t4)) (v10 : 0 ≤ v1) (v11 : v1 < 5) (v20 : 0 ≤ v2) (v21 : v2 < 50)
    (hsl : IntsAre ys ns) (hsll : ns.length ≤ 63) (hlP : l ≠ P)
    (ret : ∀ h' tk' m', Fr h₀ L h' m' → Q (.ret (.bool true)) { s with heap := h', toks := tk' }) :
    wpAny (model PySem.Challenge.rw_pf0261_02.row.prog w) (Ar dp un fr gd) (execs ((lawBody w.params).drop 3) (lawEnv2 w.params L fa cd)) Q (fun _ _ => False) { s with heap := h, toks := tk } := by
  dsimp only [lawBody, bodyOf, lawEnv2, lawScope, scopeOf, List.drop]
  (try k_fold)
  k_steps
  rename Fr _ _ _ _ => F5
  rename News _ _ _ _ => N5
  have hmP := news_ne N5 (.head _) (.tail _ (.head _)) (by intro e; cases e)
  refine Halt.out ?_
  refine spec_draw X T F5.keep (Nat.le_of_lt (Nat.lt_of_le_of_lt F5.above F5.ns.lt)) (N5 _ (.tail _ (.head _))).2.2 (N5 _ (.tail _ (.head _))).1 (News.isList N5 (.tail _ (.tail _ (.head _)))) hsl hsll hlP (by decide) (by decide) (by decide) (by omega) (by omega) fun v3 z6 h6 tk6 t6 u6 t7 n6 v30 v31 k6 e6 => ?_
  have F6 := fr_mut F5 (N5 _ (.tail _ (.head _))).2.1.symm (N5 _ (.tail _ (.head _))).2.2 k6
  have N6 := news_set1 (pre := [_]) N5 (by intro p hp; rw [List.mem_singleton.mp hp]; exact hmP) (by intro p hp; rw [List.mem_singleton.mp hp]; exact hlP) k6 e6
  clear F5 N5
  dsimp only [List.cons_append, List.nil_append] at N6
  k_steps
  refine Halt.out ?_
  refine menu_two (s := { s with heap := _, toks := _ }) (N6 _ (.head _)).1 v30 v31 fun nmS tm => ?_
  have N7 := News.tl N6
  clear N6
  k_steps
  refine Halt.out ?_
  refine spec_new_space (s := { s with heap := _, toks := _ }) X T F6 N7 (by show dp + 50 < _; omega) (by show un + 600 < _; omega) fun x d r0 a0 e sn so h8 tk8 t tn e1 e2 e3 tf tu F8 N8' hord => ?_
  clear F6 N7
  obtain ⟨or1, or2, or3, or4, or5, or6⟩ := hord
  have dP := or6 _ (.head _)
  have dl := or6 _ (.tail _ (.head _))
  have xe := Nat.lt_trans or4 (Nat.lt_trans or3 (Nat.lt_trans or2 or1))
  have ap : x ≠ d ∧ P ≠ d ∧ P ≠ x := ⟨Nat.ne_of_gt or5, Nat.ne_of_lt dP, Nat.ne_of_lt (Nat.lt_trans dP or5)⟩
  have ae : e ≠ d ∧ e ≠ x ∧ e ≠ P := ⟨Nat.ne_of_gt (Nat.lt_trans or5 xe), Nat.ne_of_gt xe, Nat.ne_of_gt (Nat.lt_trans dP (Nat.lt_trans or5 xe))⟩
  have al : l ≠ d ∧ l ≠ x ∧ l ≠ P := ⟨Nat.ne_of_lt dl, Nat.ne_of_lt (Nat.lt_trans dl or5), hlP⟩
  clear or1 or2 or3 or4 or5 or6 dP dl xe
  have N8 : News h₀ L h8 [_, _, _, _, _] := fun p hp => N8' p (by simp only [List.mem_cons, List.not_mem_nil, or_false] at hp ⊢; rcases hp with hp | hp | hp | hp | hp; exact .inr (.inr (.inr (.inr (.inr (.inl hp))))); exact .inr (.inr (.inr (.inr (.inl hp)))); exact .inr (.inr (.inr (.inr (.inr (.inr (.inl hp)))))); exact .inl hp; exact .inr (.inr (.inr (.inr (.inr (.inr (.inr hp)))))))
  clear N8'
  obtain ⟨c, hc, c1, c2⟩ : ∃ c : Nat, 62 + v1 = (c : Int) ∧ 62 ≤ c ∧ c ≤ 66 := ⟨(62 + v1).toNat, by omega, by omega, by omega⟩
  rw [hc] at hm2
  obtain ⟨f, hf, f1, f2⟩ : ∃ f : Int, 10 + v2 = f ∧ 10 ≤ f ∧ f ≤ 60 := ⟨_, rfl, by omega, by omega⟩
  rw [hf] at hm3
  obtain ⟨ik, iI⟩ := first_inv2 (n := c) (f := f) c1 c2 f1 f2
  clear hc hf v10 v11 v20 v21
  k_steps
  rename Fr _ _ _ _ => F9
  rename News _ _ _ _ => N9
  refine Halt.out ?_
  refine spec_singles (s := { s with heap := _, toks := _ }) (X.keeps F9.keep) (T.keeps F9.keep) (by omega) (by omega) (by show dp + 8 < _; omega) (by show un + 200 < _; omega) fun D10 h10 tk10 k10 nf10 pl10 => ?_
  dsimp only at k10 nf10 pl10
  have F10 := F9.after k10
  have N10 := News.grown N9 k10
  have D10P : D10 ≠ P := fun e => by rw [e, (N9 _ (.tail _ (.tail _ (.head _)))).1] at nf10; cases nf10
  clear F9 N9
  k_steps
  refine Halt.out ?_
  refine spec_kept (s := { s with heap := _, toks := _ }) (X.keeps F10.keep) (T.keeps F10.keep) pl10 (by rw [singles_len]; omega) (by show dp + 10 < _; omega) (by show un + 200 < _; omega) fun D11 h11 tk11 k11 nf11 pl11 => ?_
  dsimp only at k11 nf11 pl11
  rw [ik] at pl11
  have F11 : Fr _ L h11 _ := F10.after k11
  have N11 := News.grown N10 k11
  have D11P : D11 ≠ P := nf11.elim (fun e => e ▸ D10P) fun nf e => by rw [e, (N10 _ (.tail _ (.tail _ (.head _)))).1] at nf; cases nf
  clear F10 N10 nf11 nf10 pl10 k10 k11 D10P
  obtain ⟨es12, Ne12, ce12, fe12, se12⟩ := pl11.ledS F11
  have off12 := off3 Ne12 ce12 se12 (N11 _ (.head _)).1 (N11 _ (.tail _ (.head _))).1 (N11 _ (.tail _ (.tail _ (.head _)))).1 (by intro _ _; simp [spD]) (by intro _ _; simp) (by simp) D11P
  have N12 := News.put3 N11 Ne12
  have offd : ∀ p ∈ (x, instObj 196 d) :: (P, PySem.W.listOf #[.int z6 u6, .ref l, .int (2 + 1) t6] n6) :: (es12 ++ [(e, PySem.W.listOf #[.int 0 e1, .int 0 e2, .int 0 e3] 0), (l, LCg.lst ys)]), p.1 ≠ d := List.forall_mem_cons.mpr ⟨ap.1, List.forall_mem_cons.mpr ⟨ap.2.1, fun p hp => (List.mem_append.mp hp).elim (fun hp => (off12 p hp).1) fun hp => by
    simp only [List.mem_cons, List.not_mem_nil, or_false] at hp
    rcases hp with rfl | rfl
    · exact ae.1
    · exact al.1⟩⟩
  clear N11 Ne12 pl11
  unfold spD at N12
  k_steps
  rename Fr _ _ _ _ => F13
  rename News _ _ _ _ => N13
  rw [sp_fold] at N13
  generalize (fun (i : Nat) => ([t 0, t 1, t 2, t 3, t 4, t 5, t 6, t 7, t 8, t 9, t 10, t 11, t 12, t 13, t 14, t 15, t 16] : List Tok).getD i 0) = t13 at N13
  clear offd
  refine Halt.out ?_
  refine spec_singles (s := { s with heap := _, toks := _ }) (X.keeps F13.keep) (T.keeps F13.keep) (by omega) (by omega) (by show dp + 8 < _; omega) (by show un + 200 < _; omega) fun D14 h14 tk14 k14 nf14 pl14 => ?_
  dsimp only at k14 nf14 pl14
  have F14 := F13.after k14
  have N14 := News.grown N13 k14
  have D14P : D14 ≠ P := fun e => by rw [e, (N13 _ (.tail _ (.tail _ (.head _)))).1] at nf14; cases nf14
  clear F13 N13 nf14 k14
  obtain ⟨es14, vs14, Ne14, ce14, fe14, se14⟩ := pl14.ledV F14
  have off14 := off3 Ne14 ce14 se14 (N14 _ (.head _)).1 (N14 _ (.tail _ (.head _))).1 (N14 _ (.tail _ (.tail _ (.head _)))).1 (by intro _ _; simp [spD]) (by intro _ _; simp) (by simp) D14P
  have hl14 : vs14.length = c := by rw [(fe14 _ F14.keep Ne14).2.length, singles_len]
  have N15 := News.put3 N14 Ne14
  clear N14 Ne14 pl14 D14P
  k_steps
  rename Fr _ _ _ _ => F15
  rename News _ _ _ _ => N15
  refine Halt.out ?_
  refine tail_temp (value' := .Name (Str.ofString "due") ⟨0, 0, 0, 0⟩) (fun _ => rfl) ?_
  refine slice_L (s := { s with heap := _, toks := _ }) F15 N15 (fe14 _ F15.keep (News.lft (News.dr3 N15))).1 (by omega) (by decide) (fun D16 h16 F16 N16' l16 => ?_) (by with_unfolding_all rfl) (by intro _; rfl)
  clear F15 N15
  have off16 : ∀ p ∈ [(D16, PySem.W.listOf (List.take (Int.toNat 64) vs14).toArray 0)] ++ (es14 ++ (es12 ++ [(e, PySem.W.listOf #[.int 0 e1, .int 0 e2, .int 0 e3] 0), (l, LCg.lst ys)])), p.1 ≠ d ∧ p.1 ≠ x ∧ p.1 ≠ P := by
    intro p hp
    rcases List.mem_append.mp hp with hp | hp
    · rw [List.mem_singleton.mp hp]
      exact ⟨Nat.ne_of_gt (l16 _ (.head _)), Nat.ne_of_gt (l16 _ (.tail _ (.head _))), Nat.ne_of_gt (l16 _ (.tail _ (.tail _ (.head _))))⟩
    · rcases List.mem_append.mp hp with hp | hp
      · exact off14 p hp
      · rcases List.mem_append.mp hp with hp | hp
        · exact off12 p hp
        · simp only [List.mem_cons, List.not_mem_nil, or_false] at hp
          rcases hp with rfl | rfl
          · exact ae
          · exact al
  have N16 := News.put3 (e2 := [(D16, PySem.W.listOf (List.take (Int.toNat 64) vs14).toArray 0)]) (News.tl N16') (fun p hp => by rw [List.mem_singleton.mp hp]; exact N16' _ (.head _))
  clear N16' l16 off14 off12
  have cl : ∀ h', Kp h₀ h' → News h₀ L h' ([(D16, PySem.W.listOf (List.take (Int.toNat 64) vs14).toArray 0)] ++ (es14 ++ (es12 ++ [(e, PySem.W.listOf #[.int 0 e1, .int 0 e2, .int 0 e3] 0), (l, LCg.lst ys)]))) → PL h' D11 ((singles c f).take 64) ∧ PL h' D16 ((singles c f).take 64) ∧ h'.IsList e #[.int 0 e1, .int 0 e2, .int 0 e3] ∧ h'.IsList l ys.toArray := fun h' k N => by
    have n1 := News.rgt N
    have n2 := News.rgt n1
    have n3 := News.rgt n2
    exact ⟨fe12 h' k (News.lft n2), ⟨_, News.isList (News.lft N) (.head _), (fe14 h' k (News.lft n1)).2.take 64⟩, News.isList n3 (.head _), News.isList n3 (.tail _ (.head _))⟩
  generalize ([(D16, PySem.W.listOf (List.take (Int.toNat 64) vs14).toArray 0)] ++ (es14 ++ (es12 ++ [(e, PySem.W.listOf #[.int 0 e1, .int 0 e2, .int 0 e3] 0), (l, LCg.lst ys)]))) = eo at N16 off16 cl
  clear fe12 fe14 hl14 se12 se14 ce12 ce14
  have hps2 := iI.len
  have hps := iI.ne
  unfold spD at N16
  k_steps
  rename Fr _ _ _ _ => F17
  rename News _ _ _ _ => N17'
  refine Halt.out ?_
  rw [sp_fold] at N17'
  generalize (fun (i : Nat) => ([t13 0, t13 1, t13 2, t13 3, t13 4, t13 5, t13 6, t13 7, t13 8, t13 9, t13 10, t13 11, t13 12, t13 13, t13 14, t13 15, t13 16] : List Tok).getD i 0) = t17 at N17'
  have N17 := News.tl N17'
  clear N17'
  refine ne_PL (s := { s with heap := _, toks := _ }) (cl _ F17.keep (News.dr3 N17)).1 (cl _ F17.keep (News.dr3 N17)).2.1 (by show un + 64 < _; omega) ?_
  rw [decide_eq_true rfl]
  k_steps
  refine Halt.out ?_
  refine spec_known_right (h₀ := h₀) (s := { s with heap := _, toks := _ }) X T F17.keep (N17 _ (.tail _ (.head _))).2.2 (N17 _ (.head _)).2.2 ap.1 (N17 _ (.tail _ (.head _))).1 (N17 _ (.head _)).1 (.inl ⟨rfl, rfl, rfl⟩) (cl _ F17.keep (News.dr3 N17)).1 (cl _ F17.keep (News.dr3 N17)).2.1 (cl _ F17.keep (News.dr3 N17)).2.2.1 (by omega) hps2 (by show dp + 100 < _; omega) (by show un + 1000 < _; omega) fun h18 tk18 k18 => ?_
  have F18 : Fr _ L h18 _ := F17.after k18
  have N18 := News.grown N17 k18
  clear F17 N17 k18
  have g0 : ((singles c f).take 64)[0]? = some (f + 3 * ((c : Int) - 1 - (0 : Nat)), f + 3 * ((c : Int) - 1 - (0 : Nat))) := by rw [List.getElem?_take_of_lt (by decide), singles_get (by omega)]
  k_steps
  refine Halt.out ?_
  refine item_PL (s := { s with heap := _, toks := _ }) (cl _ F18.keep (News.dr3 N18)).2.1 (by decide) (by decide) g0 fun a19 x19 y19 ht19 => ?_
  k_steps
  refine Halt.out ?_
  refine tup_snd (s := { s with heap := _, toks := _ }) ht19 ?_
  clear ht19 g0
  k_steps
  rename Fr _ _ _ _ => F20
  refine Halt.out ?_
  refine For_invVF F20 rfl rfl ?_
  k_steps
  rename News _ _ _ _ => N20
  refine Halt.out ?_
  clear hps hps2 ik c1 f1 f2
  refine range1_rows F20 N20 fun h21 tk21 t21 u21 v21' hR21 F21 N21 k21 => ?_
  clear F20 N20 k21
  refine iterRange2 (n := 3) (LJ w h₀ L P x d l e ys (f + 3 * ((c : Int) - 1))) rfl hR21 (by decide) (by decide) F21 N21 ?init ?turn ?done
  case init =>
    refine ⟨2 + 1, 0, (singles c f).take 64, ⟨⟨D11, D16, n6, z6, 0, u6, t6, tf, tm, tu, _, y19, e1, e2, e3, t17, nmS, _, _, _, _, _, _, _, _, _, _, _, _, eo⟩, rfl, ⟨hm1, rfl, rfl, rfl, ?_⟩, .inl ⟨rfl, rfl, rfl⟩, cl, off16, ap⟩, iI, by decide, by decide⟩
    show some (Value.int (f + 3 * ((c : Int) - 1 - ((0 : Nat) : Int))) _) = _
    rw [show f + 3 * ((c : Int) - 1 - ((0 : Nat) : Int)) = f + 3 * ((c : Int) - 1) by omega]
  case turn =>
    rintro i t m₁ nx h22 tk22 own hin hoS hoff hJ F22 N22
    exact law_turn X T (by show dp + 200 < _; omega) (by show un + 2000 < _; omega) hsl hsll hlP hoS hoff (by omega) hJ F22 N22
  case done =>
    rintro m₁ nx h22 tk22 hJ F22 N22
    exact law_acked X T hdp hun hsl hsll hlP F22 N22 hJ (by decide) ret
end

section
variable {w : World} {mean : ExcName → Option Value} {mg mb : Str → Option Value} {dp un : Nat} {fr : Option (List Env)} {gd : Option (List Code)} {s : Shared} {E : Value → Shared → Prop} {Q : Flow → Shared → Prop}
variable {h₀ : Heap} {L fa sc : Addr} {cd : Value} {vs : List Value} {ns : List Int} {m : Str → Option Value} {h : Heap} {tk : Nat}
local macro_rules | `(tactic| walk_at "exec For Name Call cons nil") => `(tactic| (k_here; refine Halt.out ?_))
local macro_rules | `(tactic| walk_at "subscriptTail") => `(tactic| (k_here; refine Halt.out ?_))
local macro_rules | `(tactic| walk_at "compareOp NotEq ref ref") => `(tactic| (k_here; refine Halt.out ?_))
theorem law_eq (P : Params) : lawBody P = nthS 0 (lawBody P) :: nthS 1 (lawBody P) :: nthS 2 (lawBody P) :: (lawBody P).drop 3 := rfl
set_option maxHeartbeats 8000000 in
theorem law_run (X : (heapK w.params).In h₀) (T : Top viewK (looseW viewK []) mean mg mb h₀) (hdp : dp + 250 < recursionLimit) (hun : un + 2500 < cLine) (F : Fr h₀ L h m) (N : News h₀ L h [])
    (hm : m (Str.ofString "script") = some (.ref sc)) (hsc : h₀.IsList sc vs.toArray) (hI : IntsAre vs ns) (hlen : ns.length ≤ 63)
    (ret : ∀ h' tk' m', Fr h₀ L h' m' → Q (.ret (.bool true)) { s with heap := h', toks := tk' }) :
    wpAny (model PySem.Challenge.rw_pf0261_02.row.prog w) (Ar dp un fr gd) (execs (lawBody w.params) (lawEnv2 w.params L fa cd)) Q (fun _ _ => False) { s with heap := h, toks := tk } := by
  rw [law_eq]
  obtain ⟨rest, hrest⟩ : ∃ r, r = (lawBody w.params).drop 3 := ⟨_, rfl⟩
  rw [← hrest]
  dsimp only [lawBody, bodyOf, nthS, lawEnv2, lawScope, scopeOf]
  (try k_fold)
  have hvl := hI.length
  k_steps
  rename Fr _ _ _ _ => F1
  rename News _ _ _ _ => N1'
  rename (_ < _ ∧ _ < _) => lt1
  rename (IntsAre _ (List.map _ _)) => hsl
  have hsll : (List.map (fun k' : Int => k') (List.take 24 ns)).length ≤ 63 := by rw [List.length_map, List.length_take]; omega
  have N1 : News h₀ L _ [_, _] := fun p hp => N1' p (by simp only [List.mem_cons, List.not_mem_nil, or_false] at hp ⊢; rcases hp with hp | hp; exact .inl hp; exact .inr (.inl hp))
  clear N1'
  have hlP := Nat.ne_of_lt lt1.1
  refine Halt.out ?_
  refine spec_draw X T F1.keep (Nat.le_of_lt (Nat.lt_of_le_of_lt F1.above F1.ns.lt)) (N1 _ (.head _)).2.2 (N1 _ (.head _)).1 (News.isList N1 (.tail _ (.head _))) hsl hsll hlP (by decide) (by decide) (by decide) (by omega) (by omega) fun v1 z2 h2 tk2 t2 u2 t3 n2 v10 v11 k2 e2 => ?_
  have F2 := fr_mut F1 (N1 _ (.head _)).2.1.symm (N1 _ (.head _)).2.2 k2
  have N2 := news_mut N1 (by intro p hp; rw [List.mem_singleton.mp hp]; exact hlP) k2 e2
  clear F1 N1
  k_steps
  rename Fr _ _ _ _ => F3
  rename News _ _ _ _ => N3
  refine Halt.out ?_
  refine spec_draw X T F3.keep (Nat.le_of_lt (Nat.lt_of_le_of_lt F3.above F3.ns.lt)) (N3 _ (.head _)).2.2 (N3 _ (.head _)).1 (News.isList N3 (.tail _ (.head _))) hsl hsll hlP (by decide) (by decide) (by decide) (by omega) (by omega) fun v2 z4 h4 tk4 t4 u4 t5 n4 v20 v21 k4 e4 => ?_
  have F4 := fr_mut F3 (N3 _ (.head _)).2.1.symm (N3 _ (.head _)).2.2 k4
  have N4 := news_mut N3 (by intro p hp; rw [List.mem_singleton.mp hp]; exact hlP) k4 e4
  clear F3 N3
  k_steps
  rename Fr _ _ _ _ => F5
  rename News _ _ _ _ => N5
  subst hrest
  exact law_mid X T hdp hun F5 (News.tl N5) rfl rfl rfl v10 v11 v20 v21 hsl hsll hlP ret
end

set_option maxHeartbeats 8000000 in
theorem law02 : PySem.Challenge.rw_pf0261_02.Holds := by
  refine holds_law said (fun _ => ?_)
  refine holds_open (q := viewK) (loose := []) (Xt := fun s => xlAt viewK [] s && recOk (RowW.records PySem.Challenge.rw_pf0261_02.row.toRowW) s) (XP := XL viewK []) (Yf := Hook.obs HK) (Ya := Hook.val HK) (YP := Hook.says HK) (N := 2596) left (Hook.of HK) (Hook.keeps HK) (fun s e => xl_of s (Bool.and_eq_true_iff.mp e).1) XL.keeps (by rfl) (by rfl) (by rfl) (fun s e => recFacts_of (Bool.and_eq_true_iff.mp e).2) (by rfl) (by assumption) (by decide +kernel) ⟨rfl, rfl, rfl, rfl, rfl, by decide +kernel⟩ ?hw ?hc
  case hw => exact ⟨[.list []], by decide +kernel, by decide +kernel⟩
  k_go0
  (all_goals try k_fold)
  rename (Below callerA _ _ _) => kB
  rename Fr _ _ _ _ => F1
  rename News _ _ _ _ => N1
  rename Top _ _ _ _ _ _ => T1
  rename Frag.In _ _ => X1
  rename (¬ _ < _) => g63
  rename (IntsAre _ _) => hI1
  rename (Heap.IsList _ _ _) => hL1
  rename (Shared.gens _ = _) => hgn
  refine wpAny_mono (law_run (fa := _) (cd := _) X1 T1 (by decide) (by decide) F1 N1 rfl hL1 hI1 (by omega) fun h' tk' m' F' => ?_) (fun _ _ z => z) (fun _ _ z => z.elim)
  k_steps

end Mine

theorem PySem.Challenge.cw_pf0261_02_holds : PySem.Challenge.rw_pf0261_02.Holds :=
  Mine.law02
