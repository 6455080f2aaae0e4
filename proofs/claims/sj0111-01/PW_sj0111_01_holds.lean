import PyProof.Rows.All
import Wide.All
import OpenK.AllK
import Wide.FinOn
import PySem.Challenge.RW_sj0111_01
set_option Elab.async false
set_option linter.unusedVariables false
set_option maxRecDepth 100000
section
open PySem PySem.W PyProof.Rows
namespace Mine
noncomputable def nthS : List Stmt → Nat → Stmt
  | [], _ => .Pass ⟨0, 0, 0, 0⟩
  | a :: _, 0 => a
  | _ :: r, n + 1 => nthS r n
noncomputable def progBody : List Stmt := PySem.Challenge.pw_sj0111_01.main.body
noncomputable def subS : Stmt → Nat → Stmt
  | .ClassDef _ _ _ b _ _ _ _ _ _ _, i => nthS b i
  | s, _ => s
noncomputable def mkF (s : Stmt) (qual : Str) (defaults mod code : Value) : Obj := match s with
  | .FunctionDef name params body _ _ _ scope _ _ _ => { cls := .type "function", data := .func { name := name, qualname := qual, params := params, body := .stmts body, scope := scope, globals := 3, closure := [], defaults := defaults, kwdefaults := .none, pyModule := mod, code := code } }
  | _ => { cls := .none, data := .plain }
namespace hd
set_option maxHeartbeats 4000000 in
noncomputable def heap_39 : Params → Frag := by
  intro P
  refine' ((nat_lit 2, { cls := Value.none, dict := none, data := Data.dict #[], slots := #[] }) ::
  (nat_lit 3, { cls := Value.type "dict", dict := none, data := Data.dict   #[{ hash := PyData.keyHash P (Str.ofString "__name__"), key := Value.str (Str.ofString "__name__") 165,       val := Value.str (Str.ofString "law_sj0111_01") 508 },     { hash := PyData.keyHash P (Str.ofString "__doc__"), key := Value.str (Str.ofString "__doc__") 166,       val := Value.none },     { hash := PyData.keyHash P (Str.ofString "__package__"), key := Value.str (Str.ofString "__package__") 167,       val := Value.none },     { hash := PyData.keyHash P (Str.ofString "__loader__"), key := Value.str (Str.ofString "__loader__") 168,       val := Value.builtin "__main__.__loader__#opaque" },     { hash := PyData.keyHash P (Str.ofString "__spec__"), key := Value.str (Str.ofString "__spec__") 169,       val := Value.none },     { hash := PyData.keyHash P (Str.ofString "__annotations__"),       key := Value.str (Str.ofString "__annotations__") 170, val := Value.ref 6 },     { hash := PyData.keyHash P (Str.ofString "__builtins__"), key := Value.str (Str.ofString "__builtins__") 171,       val := Value.ref 4 },     { hash := PyData.keyHash P (Str.ofString "__file__"), key := Value.str (Str.ofString "__file__") 173,       val := Value.str (Str.ofString "/claim/cut.py") 172 },     { hash := PyData.keyHash P (Str.ofString "__cached__"), key := Value.str (Str.ofString "__cached__") 174,       val := Value.none },     { hash := PyData.keyHash P (Str.ofString "_wall"), key := Value.str (Str.ofString "_wall") 193,       val := Value.ref 21 },     { hash := PyData.keyHash P (Str.ofString "RATE_TOP"), key := Value.str (Str.ofString "RATE_TOP") 197,       val := Value.int 5 196 },     { hash := PyData.keyHash P (Str.ofString "RATE_BOTTOM"), key := Value.str (Str.ofString "RATE_BOTTOM") 199,       val := Value.int 4 198 },     { hash := PyData.keyHash P (Str.ofString "Pacer"), key := Value.str (Str.ofString "Pacer") 273,       val := Value.ref 66 },     { hash := PyData.keyHash P (Str.ofString "INITIAL_PACKETS"),       key := Value.str (Str.ofString "INITIAL_PACKETS") 277, val := Value.int 10 276 },     { hash := PyData.keyHash P (Str.ofString "INITIAL_OCTETS"),       key := Value.str (Str.ofString "INITIAL_OCTETS") 279, val := Value.int 14720 278 },     { hash := PyData.keyHash P (Str.ofString "LEAST_PACKETS"),       key := Value.str (Str.ofString "LEAST_PACKETS") 281, val := Value.int 2 280 },     { hash := PyData.keyHash P (Str.ofString "LOSS_TOP"), key := Value.str (Str.ofString "LOSS_TOP") 283,       val := Value.int 1 282 },     { hash := PyData.keyHash P (Str.ofString "LOSS_BOTTOM"), key := Value.str (Str.ofString "LOSS_BOTTOM") 285,       val := Value.int 2 284 },     { hash := PyData.keyHash P (Str.ofString "initial_window"),       key := Value.str (Str.ofString "initial_window") 292, val := Value.ref 77 },     { hash := PyData.keyHash P (Str.ofString "least_window"), key := Value.str (Str.ofString "least_window") 299,       val := Value.ref 84 },     { hash := PyData.keyHash P (Str.ofString "NewReno"), key := Value.str (Str.ofString "NewReno") 419,       val := Value.ref 171 },     { hash := PyData.keyHash P (Str.ofString "INITIAL_RTT"), key := Value.str (Str.ofString "INITIAL_RTT") 423,       val := Value.int 333000 422 },     { hash := PyData.keyHash P (Str.ofString "without_delay"),       key := Value.str (Str.ofString "without_delay") 432, val := Value.ref 182 },     { hash := PyData.keyHash P (Str.ofString "Rtt"), key := Value.str (Str.ofString "Rtt") 507,       val := Value.ref 235 },     { hash := PyData.keyHash P (Str.ofString "_law_drawn"), key := Value.str (Str.ofString "_law_drawn") 517,       val := Value.ref 246 },     { hash := PyData.keyHash P (Str.ofString "_law_left"), key := Value.str (Str.ofString "_law_left") 525,       val := Value.ref 253 },     { hash := PyData.keyHash P (Str.ofString "_law_in_order"),       key := Value.str (Str.ofString "_law_in_order") 537, val := Value.ref 260 },     { hash := PyData.keyHash P (Str.ofString "_law_waits"), key := Value.str (Str.ofString "_law_waits") 543,       val := Value.ref 265 },     { hash := PyData.keyHash P (Str.ofString "law"), key := Value.str (Str.ofString "law") 566,       val := Value.ref 272 }]   29, slots := #[] }) ::
  (nat_lit 15, { cls := Value.type "tuple", dict := none, data := Data.seq #[], slots := #[] }) ::
  (nat_lit 17, { cls := Value.type "tuple", dict := none, data := Data.seq #[Value.str (Str.ofString "k") 190], slots := #[] }) ::
  (nat_lit 18, { cls := Value.type "tuple", dict := none, data := Data.seq #[], slots := #[] }) ::
  (nat_lit 20, { cls := Value.type "code", dict := none, data := Data.fields   #[Value.str (Str.ofString "_wall") 187, Value.str (Str.ofString "_wall") 188,     Value.str (Str.ofString "/claim/cut.py") 189, Value.int 1 0, Value.int 1 0, Value.int 0 0, Value.int 0 0,     Value.int 3 0, Value.ref 15, Value.bool true, Value.int 181 0, Value.ref 16, Value.none, Value.ref 17, Value.ref 18,     Value.ref 19, Value.int 191 0, Value.int 1 0, Value.str (Str.ofString "/claim/cut.py") 192], slots := #[] }) ::
  (nat_lit 21, (?f21 : ∀ K : Obj, K = mkF (nthS progBody 0) (Str.ofString "_wall") (Value.none) (Value.str (Str.ofString "__main__") 164) (Value.ref 20) → Obj) _ ?h21) ::
  (nat_lit 29, { cls := Value.type "tuple", dict := none, data := Data.seq #[], slots := #[] }) ::
  (nat_lit 31, { cls := Value.type "tuple", dict := none, data := Data.seq   #[Value.str (Str.ofString "self") 215, Value.str (Str.ofString "burst") 216, Value.str (Str.ofString "now") 217], slots := #[] }) ::
  (nat_lit 32, { cls := Value.type "tuple", dict := none, data := Data.seq #[], slots := #[] }) ::
  (nat_lit 34, { cls := Value.type "code", dict := none, data := Data.fields   #[Value.str (Str.ofString "__init__") 212, Value.str (Str.ofString "Pacer.__init__") 213,     Value.str (Str.ofString "/claim/cut.py") 214, Value.int 9 0, Value.int 3 0, Value.int 0 0, Value.int 0 0,     Value.int 3 0, Value.ref 29, Value.bool true, Value.int 181 0, Value.ref 30, Value.none, Value.ref 31, Value.ref 32,     Value.ref 33, Value.int 218 0, Value.int 9 0, Value.str (Str.ofString "/claim/cut.py") 219], slots := #[] }) ::
  (nat_lit 35, (?f35 : ∀ K : Obj, K = mkF (subS (nthS progBody 4) 0) (Str.ofString "Pacer.__init__") (Value.none) (Value.str (Str.ofString "quic.pacing") 194) (Value.ref 34) → Obj) _ ?h35) ::
  (nat_lit 36, { cls := Value.type "tuple", dict := none, data := Data.seq #[], slots := #[] }) ::
  (nat_lit 38, { cls := Value.type "tuple", dict := none, data := Data.seq   #[Value.str (Str.ofString "self") 224, Value.str (Str.ofString "window") 225, Value.str (Str.ofString "smoothed") 226,     Value.str (Str.ofString "now") 227, Value.str (Str.ofString "bottom") 228, Value.str (Str.ofString "whole") 229], slots := #[] }) ::
  (nat_lit 39, { cls := Value.type "tuple", dict := none, data := Data.seq #[], slots := #[] }) ::
  (nat_lit 41, { cls := Value.type "code", dict := none, data := Data.fields   #[Value.str (Str.ofString "earn") 221, Value.str (Str.ofString "Pacer.earn") 222,     Value.str (Str.ofString "/claim/cut.py") 223, Value.int 15 0, Value.int 4 0, Value.int 0 0, Value.int 0 0,     Value.int 3 0, Value.ref 36, Value.bool true, Value.int 181 0, Value.ref 37, Value.none, Value.ref 38, Value.ref 39,     Value.ref 40, Value.int 230 0, Value.int 15 0, Value.str (Str.ofString "/claim/cut.py") 231], slots := #[] }) ::
  (nat_lit 42, (?f42 : ∀ K : Obj, K = mkF (subS (nthS progBody 4) 1) (Str.ofString "Pacer.earn") (Value.none) (Value.str (Str.ofString "quic.pacing") 194) (Value.ref 41) → Obj) _ ?h42) ::
  (nat_lit 43, { cls := Value.type "tuple", dict := none, data := Data.seq #[], slots := #[] }) ::
  (nat_lit 45, { cls := Value.type "tuple", dict := none, data := Data.seq #[Value.str (Str.ofString "self") 236, Value.str (Str.ofString "size") 237], slots := #[] }) ::
  (nat_lit 46, { cls := Value.type "tuple", dict := none, data := Data.seq #[], slots := #[] }) ::
  (nat_lit 48, { cls := Value.type "code", dict := none, data := Data.fields   #[Value.str (Str.ofString "may_send") 233, Value.str (Str.ofString "Pacer.may_send") 234,     Value.str (Str.ofString "/claim/cut.py") 235, Value.int 25 0, Value.int 2 0, Value.int 0 0, Value.int 0 0,     Value.int 3 0, Value.ref 43, Value.bool true, Value.int 181 0, Value.ref 44, Value.none, Value.ref 45, Value.ref 46,     Value.ref 47, Value.int 238 0, Value.int 25 0, Value.str (Str.ofString "/claim/cut.py") 239], slots := #[] }) ::
  (nat_lit 49, (?f49 : ∀ K : Obj, K = mkF (subS (nthS progBody 4) 2) (Str.ofString "Pacer.may_send") (Value.none) (Value.str (Str.ofString "quic.pacing") 194) (Value.ref 48) → Obj) _ ?h49) ::
  (nat_lit 50, { cls := Value.type "tuple", dict := none, data := Data.seq #[], slots := #[] }) ::
  (nat_lit 52, { cls := Value.type "tuple", dict := none, data := Data.seq #[Value.str (Str.ofString "self") 244, Value.str (Str.ofString "size") 245], slots := #[] }) ::
  (nat_lit 53, { cls := Value.type "tuple", dict := none, data := Data.seq #[], slots := #[] }) ::
  (nat_lit 55, { cls := Value.type "code", dict := none, data := Data.fields   #[Value.str (Str.ofString "on_sent") 241, Value.str (Str.ofString "Pacer.on_sent") 242,     Value.str (Str.ofString "/claim/cut.py") 243, Value.int 28 0, Value.int 2 0, Value.int 0 0, Value.int 0 0,     Value.int 3 0, Value.ref 50, Value.bool true, Value.int 181 0, Value.ref 51, Value.none, Value.ref 52, Value.ref 53,     Value.ref 54, Value.int 246 0, Value.int 28 0, Value.str (Str.ofString "/claim/cut.py") 247], slots := #[] }) ::
  (nat_lit 56, (?f56 : ∀ K : Obj, K = mkF (subS (nthS progBody 4) 3) (Str.ofString "Pacer.on_sent") (Value.none) (Value.str (Str.ofString "quic.pacing") 194) (Value.ref 55) → Obj) _ ?h56) ::
  (nat_lit 57, { cls := Value.type "tuple", dict := none, data := Data.seq #[], slots := #[] }) ::
  (nat_lit 59, { cls := Value.type "tuple", dict := none, data := Data.seq   #[Value.str (Str.ofString "self") 252, Value.str (Str.ofString "size") 253, Value.str (Str.ofString "window") 254,     Value.str (Str.ofString "smoothed") 255, Value.str (Str.ofString "bottom") 256,     Value.str (Str.ofString "lacking") 257, Value.str (Str.ofString "rate") 258], slots := #[] }) ::
  (nat_lit 60, { cls := Value.type "tuple", dict := none, data := Data.seq #[], slots := #[] }) ::
  (nat_lit 62, { cls := Value.type "code", dict := none, data := Data.fields   #[Value.str (Str.ofString "wait_for") 249, Value.str (Str.ofString "Pacer.wait_for") 250,     Value.str (Str.ofString "/claim/cut.py") 251, Value.int 31 0, Value.int 4 0, Value.int 0 0, Value.int 0 0,     Value.int 3 0, Value.ref 57, Value.bool true, Value.int 181 0, Value.ref 58, Value.none, Value.ref 59, Value.ref 60,     Value.ref 61, Value.int 259 0, Value.int 31 0, Value.str (Str.ofString "/claim/cut.py") 260], slots := #[] }) ::
  (nat_lit 63, (?f63 : ∀ K : Obj, K = mkF (subS (nthS progBody 4) 4) (Str.ofString "Pacer.wait_for") (Value.none) (Value.str (Str.ofString "quic.pacing") 194) (Value.ref 62) → Obj) _ ?h63) ::
  (nat_lit 64, { cls := Value.type "tuple", dict := none, data := Data.seq   #[Value.str (Str.ofString "burst") 262, Value.str (Str.ofString "left") 263, Value.str (Str.ofString "rest") 264,     Value.str (Str.ofString "seen_at") 265], slots := #[] }) ::
  (nat_lit 65, { cls := Value.type "dict", dict := none, data := Data.dict   #[{ hash := PyData.keyHash P (Str.ofString "__module__"), key := Value.str (Str.ofString "__module__") 207,       val := Value.str (Str.ofString "quic.pacing") 194 },     { hash := PyData.keyHash P (Str.ofString "__firstlineno__"),       key := Value.str (Str.ofString "__firstlineno__") 211, val := Value.int 7 210 },     { hash := PyData.keyHash P (Str.ofString "__init__"), key := Value.str (Str.ofString "__init__") 220,       val := Value.ref 35 },     { hash := PyData.keyHash P (Str.ofString "earn"), key := Value.str (Str.ofString "earn") 232,       val := Value.ref 42 },     { hash := PyData.keyHash P (Str.ofString "may_send"), key := Value.str (Str.ofString "may_send") 240,       val := Value.ref 49 },     { hash := PyData.keyHash P (Str.ofString "on_sent"), key := Value.str (Str.ofString "on_sent") 248,       val := Value.ref 56 },     { hash := PyData.keyHash P (Str.ofString "wait_for"), key := Value.str (Str.ofString "wait_for") 261,       val := Value.ref 63 },     { hash := PyData.keyHash P (Str.ofString "__static_attributes__"),       key := Value.str (Str.ofString "__static_attributes__") 266, val := Value.ref 64 },     { hash := PyData.keyHash P (Str.ofString "__dict__"), key := Value.str (Str.ofString "__dict__") 268,       val := Value.ref 67 },     { hash := PyData.keyHash P (Str.ofString "__weakref__"), key := Value.str (Str.ofString "__weakref__") 270,       val := Value.ref 68 },     { hash := PyData.keyHash P (Str.ofString "__doc__"), key := Value.str (Str.ofString "__doc__") 271,       val := Value.none }]   4, slots := #[] }) ::
  (nat_lit 66, { cls := Value.type "type", dict := none, data := Data.cls   { name := Str.ofString "Pacer", bases := [Value.type "object"], mro := [Value.ref 66, Value.type "object"], ns := 65,     qualname := Str.ofString "Pacer" }, slots := #[none, none, some (Value.str (Str.ofString "Pacer") 200), some (Value.str (Str.ofString "Pacer") 208),   some (Value.builtin "object.__new__"), some (Value.bool true)] }) ::
  (nat_lit 67, { cls := Value.type "getset_descriptor", dict := none, data := Data.fields   #[Value.str (Str.ofString "__dict__") 267, Value.ref 66, Value.builtin "function.__dict__",     Value.builtin "function.__dict__#set"], slots := #[] }) ::
  (nat_lit 68, { cls := Value.type "getset_descriptor", dict := none, data := Data.fields   #[Value.str (Str.ofString "__weakref__") 269, Value.ref 66, Value.builtin "ExceptionGroup.__weakref__", Value.none], slots := #[] }) ::
  (nat_lit 71, { cls := Value.type "tuple", dict := none, data := Data.seq #[], slots := #[] }) ::
  (nat_lit 73, { cls := Value.type "tuple", dict := none, data := Data.seq #[Value.str (Str.ofString "datagram") 289], slots := #[] }) ::
  (nat_lit 74, { cls := Value.type "tuple", dict := none, data := Data.seq #[], slots := #[] }) ::
  (nat_lit 76, { cls := Value.type "code", dict := none, data := Data.fields   #[Value.str (Str.ofString "initial_window") 286, Value.str (Str.ofString "initial_window") 287,     Value.str (Str.ofString "/claim/cut.py") 288, Value.int 44 0, Value.int 1 0, Value.int 0 0, Value.int 0 0,     Value.int 3 0, Value.ref 71, Value.bool true, Value.int 181 0, Value.ref 72, Value.none, Value.ref 73, Value.ref 74,     Value.ref 75, Value.int 290 0, Value.int 44 0, Value.str (Str.ofString "/claim/cut.py") 291], slots := #[] }) ::
  (nat_lit 77, (?f77 : ∀ K : Obj, K = mkF (nthS progBody 11) (Str.ofString "initial_window") (Value.none) (Value.str (Str.ofString "quic.newreno") 274) (Value.ref 76) → Obj) _ ?h77) ::
  (nat_lit 78, { cls := Value.type "tuple", dict := none, data := Data.seq #[], slots := #[] }) ::
  (nat_lit 80, { cls := Value.type "tuple", dict := none, data := Data.seq #[Value.str (Str.ofString "datagram") 296], slots := #[] }) ::
  (nat_lit 81, { cls := Value.type "tuple", dict := none, data := Data.seq #[], slots := #[] }) ::
  (nat_lit 83, { cls := Value.type "code", dict := none, data := Data.fields   #[Value.str (Str.ofString "least_window") 293, Value.str (Str.ofString "least_window") 294,     Value.str (Str.ofString "/claim/cut.py") 295, Value.int 46 0, Value.int 1 0, Value.int 0 0, Value.int 0 0,     Value.int 3 0, Value.ref 78, Value.bool true, Value.int 181 0, Value.ref 79, Value.none, Value.ref 80, Value.ref 81,     Value.ref 82, Value.int 297 0, Value.int 46 0, Value.str (Str.ofString "/claim/cut.py") 298], slots := #[] }) ::
  (nat_lit 84, (?f84 : ∀ K : Obj, K = mkF (nthS progBody 12) (Str.ofString "least_window") (Value.none) (Value.str (Str.ofString "quic.newreno") 274) (Value.ref 83) → Obj) _ ?h84) ::
  (nat_lit 92, { cls := Value.type "tuple", dict := none, data := Data.seq #[], slots := #[] }) ::
  (nat_lit 94, { cls := Value.type "tuple", dict := none, data := Data.seq #[Value.str (Str.ofString "self") 315, Value.str (Str.ofString "datagram") 316], slots := #[] }) ::
  (nat_lit 95, { cls := Value.type "tuple", dict := none, data := Data.seq #[], slots := #[] }) ::
  (nat_lit 97, { cls := Value.type "code", dict := none, data := Data.fields   #[Value.str (Str.ofString "__init__") 312, Value.str (Str.ofString "NewReno.__init__") 313,     Value.str (Str.ofString "/claim/cut.py") 314, Value.int 50 0, Value.int 2 0, Value.int 0 0, Value.int 0 0,     Value.int 3 0, Value.ref 92, Value.bool true, Value.int 181 0, Value.ref 93, Value.none, Value.ref 94, Value.ref 95,     Value.ref 96, Value.int 317 0, Value.int 50 0, Value.str (Str.ofString "/claim/cut.py") 318], slots := #[] }) ::
  (nat_lit 98, (?f98 : ∀ K : Obj, K = mkF (subS (nthS progBody 13) 0) (Str.ofString "NewReno.__init__") (Value.none) (Value.str (Str.ofString "quic.newreno") 274) (Value.ref 97) → Obj) _ ?h98) ::
  (nat_lit 99, { cls := Value.type "tuple", dict := none, data := Data.seq #[], slots := #[] }) ::
  (nat_lit 101, { cls := Value.type "tuple", dict := none, data := Data.seq #[Value.str (Str.ofString "self") 323, Value.str (Str.ofString "size") 324], slots := #[] }) ::
  (nat_lit 102, { cls := Value.type "tuple", dict := none, data := Data.seq #[], slots := #[] }) ::
  (nat_lit 104, { cls := Value.type "code", dict := none, data := Data.fields   #[Value.str (Str.ofString "may_send") 320, Value.str (Str.ofString "NewReno.may_send") 321,     Value.str (Str.ofString "/claim/cut.py") 322, Value.int 58 0, Value.int 2 0, Value.int 0 0, Value.int 0 0,     Value.int 3 0, Value.ref 99, Value.bool true, Value.int 181 0, Value.ref 100, Value.none, Value.ref 101,     Value.ref 102, Value.ref 103, Value.int 325 0, Value.int 58 0, Value.str (Str.ofString "/claim/cut.py") 326], slots := #[] }) ::
  (nat_lit 105, (?f105 : ∀ K : Obj, K = mkF (subS (nthS progBody 13) 1) (Str.ofString "NewReno.may_send") (Value.none) (Value.str (Str.ofString "quic.newreno") 274) (Value.ref 104) → Obj) _ ?h105) ::
  (nat_lit 106, { cls := Value.type "tuple", dict := none, data := Data.seq #[], slots := #[] }) ::
  (nat_lit 108, { cls := Value.type "tuple", dict := none, data := Data.seq #[Value.str (Str.ofString "self") 331], slots := #[] }) ::
  (nat_lit 109, { cls := Value.type "tuple", dict := none, data := Data.seq #[], slots := #[] }) ::
  (nat_lit 111, { cls := Value.type "code", dict := none, data := Data.fields   #[Value.str (Str.ofString "is_slow_start") 328, Value.str (Str.ofString "NewReno.is_slow_start") 329,     Value.str (Str.ofString "/claim/cut.py") 330, Value.int 61 0, Value.int 1 0, Value.int 0 0, Value.int 0 0,     Value.int 3 0, Value.ref 106, Value.bool true, Value.int 181 0, Value.ref 107, Value.none, Value.ref 108,     Value.ref 109, Value.ref 110, Value.int 332 0, Value.int 61 0, Value.str (Str.ofString "/claim/cut.py") 333], slots := #[] }) ::
  (nat_lit 112, (?f112 : ∀ K : Obj, K = mkF (subS (nthS progBody 13) 2) (Str.ofString "NewReno.is_slow_start") (Value.none) (Value.str (Str.ofString "quic.newreno") 274) (Value.ref 111) → Obj) _ ?h112) ::
  (nat_lit 113, { cls := Value.type "tuple", dict := none, data := Data.seq #[], slots := #[] }) ::
  (nat_lit 115, { cls := Value.type "tuple", dict := none, data := Data.seq #[Value.str (Str.ofString "self") 338, Value.str (Str.ofString "sent_at") 339], slots := #[] }) ::
  (nat_lit 116, { cls := Value.type "tuple", dict := none, data := Data.seq #[], slots := #[] }) ::
  (nat_lit 118, { cls := Value.type "code", dict := none, data := Data.fields   #[Value.str (Str.ofString "in_recovery") 335, Value.str (Str.ofString "NewReno.in_recovery") 336,     Value.str (Str.ofString "/claim/cut.py") 337, Value.int 64 0, Value.int 2 0, Value.int 0 0, Value.int 0 0,     Value.int 3 0, Value.ref 113, Value.bool true, Value.int 181 0, Value.ref 114, Value.none, Value.ref 115,     Value.ref 116, Value.ref 117, Value.int 340 0, Value.int 64 0, Value.str (Str.ofString "/claim/cut.py") 341], slots := #[] }) ::
  (nat_lit 119, (?f119 : ∀ K : Obj, K = mkF (subS (nthS progBody 13) 3) (Str.ofString "NewReno.in_recovery") (Value.none) (Value.str (Str.ofString "quic.newreno") 274) (Value.ref 118) → Obj) _ ?h119) ::
  (nat_lit 120, { cls := Value.type "tuple", dict := none, data := Data.seq #[], slots := #[] }) ::
  (nat_lit 122, { cls := Value.type "tuple", dict := none, data := Data.seq #[Value.str (Str.ofString "self") 346, Value.str (Str.ofString "size") 347], slots := #[] }) ::
  (nat_lit 123, { cls := Value.type "tuple", dict := none, data := Data.seq #[], slots := #[] }) ::
  (nat_lit 125, { cls := Value.type "code", dict := none, data := Data.fields   #[Value.str (Str.ofString "on_sent") 343, Value.str (Str.ofString "NewReno.on_sent") 344,     Value.str (Str.ofString "/claim/cut.py") 345, Value.int 67 0, Value.int 2 0, Value.int 0 0, Value.int 0 0,     Value.int 3 0, Value.ref 120, Value.bool true, Value.int 181 0, Value.ref 121, Value.none, Value.ref 122,     Value.ref 123, Value.ref 124, Value.int 348 0, Value.int 67 0, Value.str (Str.ofString "/claim/cut.py") 349], slots := #[] }) ::
  (nat_lit 126, (?f126 : ∀ K : Obj, K = mkF (subS (nthS progBody 13) 4) (Str.ofString "NewReno.on_sent") (Value.none) (Value.str (Str.ofString "quic.newreno") 274) (Value.ref 125) → Obj) _ ?h126) ::
  (nat_lit 127, { cls := Value.type "tuple", dict := none, data := Data.seq #[], slots := #[] }) ::
  (nat_lit 129, { cls := Value.type "tuple", dict := none, data := Data.seq #[Value.str (Str.ofString "self") 354, Value.str (Str.ofString "size") 355], slots := #[] }) ::
  (nat_lit 130, { cls := Value.type "tuple", dict := none, data := Data.seq #[], slots := #[] }) ::
  (nat_lit 132, { cls := Value.type "code", dict := none, data := Data.fields   #[Value.str (Str.ofString "on_discarded") 351, Value.str (Str.ofString "NewReno.on_discarded") 352,     Value.str (Str.ofString "/claim/cut.py") 353, Value.int 70 0, Value.int 2 0, Value.int 0 0, Value.int 0 0,     Value.int 3 0, Value.ref 127, Value.bool true, Value.int 181 0, Value.ref 128, Value.none, Value.ref 129,     Value.ref 130, Value.ref 131, Value.int 356 0, Value.int 70 0, Value.str (Str.ofString "/claim/cut.py") 357], slots := #[] }) ::
  (nat_lit 133, (?f133 : ∀ K : Obj, K = mkF (subS (nthS progBody 13) 5) (Str.ofString "NewReno.on_discarded") (Value.none) (Value.str (Str.ofString "quic.newreno") 274) (Value.ref 132) → Obj) _ ?h133) ::
  (nat_lit 134, { cls := Value.type "tuple", dict := none, data := Data.seq #[], slots := #[] }) ::
  (nat_lit 136, { cls := Value.type "tuple", dict := none, data := Data.seq   #[Value.str (Str.ofString "self") 362, Value.str (Str.ofString "size") 363, Value.str (Str.ofString "sent_at") 364,     Value.str (Str.ofString "is_limited") 365, Value.str (Str.ofString "now") 366,     Value.str (Str.ofString "smoothed") 367], slots := #[] }) ::
  (nat_lit 137, { cls := Value.type "tuple", dict := none, data := Data.seq #[], slots := #[] }) ::
  (nat_lit 139, { cls := Value.type "code", dict := none, data := Data.fields   #[Value.str (Str.ofString "on_acked") 359, Value.str (Str.ofString "NewReno.on_acked") 360,     Value.str (Str.ofString "/claim/cut.py") 361, Value.int 73 0, Value.int 6 0, Value.int 0 0, Value.int 0 0,     Value.int 3 0, Value.ref 134, Value.bool true, Value.int 181 0, Value.ref 135, Value.none, Value.ref 136,     Value.ref 137, Value.ref 138, Value.int 368 0, Value.int 73 0, Value.str (Str.ofString "/claim/cut.py") 369], slots := #[] }) ::
  (nat_lit 140, (?f140 : ∀ K : Obj, K = mkF (subS (nthS progBody 13) 6) (Str.ofString "NewReno.on_acked") (Value.none) (Value.str (Str.ofString "quic.newreno") 274) (Value.ref 139) → Obj) _ ?h140) ::
  (nat_lit 141, { cls := Value.type "tuple", dict := none, data := Data.seq #[], slots := #[] }) ::
  (nat_lit 143, { cls := Value.type "tuple", dict := none, data := Data.seq   #[Value.str (Str.ofString "self") 374, Value.str (Str.ofString "size") 375, Value.str (Str.ofString "more") 376], slots := #[] }) ::
  (nat_lit 144, { cls := Value.type "tuple", dict := none, data := Data.seq #[], slots := #[] }) ::
  (nat_lit 146, { cls := Value.type "code", dict := none, data := Data.fields   #[Value.str (Str.ofString "widen") 371, Value.str (Str.ofString "NewReno.widen") 372,     Value.str (Str.ofString "/claim/cut.py") 373, Value.int 82 0, Value.int 2 0, Value.int 0 0, Value.int 0 0,     Value.int 3 0, Value.ref 141, Value.bool true, Value.int 181 0, Value.ref 142, Value.none, Value.ref 143,     Value.ref 144, Value.ref 145, Value.int 377 0, Value.int 82 0, Value.str (Str.ofString "/claim/cut.py") 378], slots := #[] }) ::
  (nat_lit 147, (?f147 : ∀ K : Obj, K = mkF (subS (nthS progBody 13) 7) (Str.ofString "NewReno.widen") (Value.none) (Value.str (Str.ofString "quic.newreno") 274) (Value.ref 146) → Obj) _ ?h147) ::
  (nat_lit 148, { cls := Value.type "tuple", dict := none, data := Data.seq #[], slots := #[] }) ::
  (nat_lit 150, { cls := Value.type "tuple", dict := none, data := Data.seq   #[Value.str (Str.ofString "self") 383, Value.str (Str.ofString "sent_at") 384, Value.str (Str.ofString "now") 385], slots := #[] }) ::
  (nat_lit 151, { cls := Value.type "tuple", dict := none, data := Data.seq #[], slots := #[] }) ::
  (nat_lit 153, { cls := Value.type "code", dict := none, data := Data.fields   #[Value.str (Str.ofString "on_congestion") 380, Value.str (Str.ofString "NewReno.on_congestion") 381,     Value.str (Str.ofString "/claim/cut.py") 382, Value.int 88 0, Value.int 3 0, Value.int 0 0, Value.int 0 0,     Value.int 3 0, Value.ref 148, Value.bool true, Value.int 181 0, Value.ref 149, Value.none, Value.ref 150,     Value.ref 151, Value.ref 152, Value.int 386 0, Value.int 88 0, Value.str (Str.ofString "/claim/cut.py") 387], slots := #[] }) ::
  (nat_lit 154, (?f154 : ∀ K : Obj, K = mkF (subS (nthS progBody 13) 8) (Str.ofString "NewReno.on_congestion") (Value.none) (Value.str (Str.ofString "quic.newreno") 274) (Value.ref 153) → Obj) _ ?h154) ::
  (nat_lit 155, { cls := Value.type "tuple", dict := none, data := Data.seq #[], slots := #[] }) ::
  (nat_lit 157, { cls := Value.type "tuple", dict := none, data := Data.seq   #[Value.str (Str.ofString "self") 392, Value.str (Str.ofString "size") 393, Value.str (Str.ofString "newest") 394,     Value.str (Str.ofString "now") 395], slots := #[] }) ::
  (nat_lit 158, { cls := Value.type "tuple", dict := none, data := Data.seq #[], slots := #[] }) ::
  (nat_lit 160, { cls := Value.type "code", dict := none, data := Data.fields   #[Value.str (Str.ofString "on_lost") 389, Value.str (Str.ofString "NewReno.on_lost") 390,     Value.str (Str.ofString "/claim/cut.py") 391, Value.int 96 0, Value.int 4 0, Value.int 0 0, Value.int 0 0,     Value.int 3 0, Value.ref 155, Value.bool true, Value.int 181 0, Value.ref 156, Value.none, Value.ref 157,     Value.ref 158, Value.ref 159, Value.int 396 0, Value.int 96 0, Value.str (Str.ofString "/claim/cut.py") 397], slots := #[] }) ::
  (nat_lit 161, (?f161 : ∀ K : Obj, K = mkF (subS (nthS progBody 13) 9) (Str.ofString "NewReno.on_lost") (Value.none) (Value.str (Str.ofString "quic.newreno") 274) (Value.ref 160) → Obj) _ ?h161) ::
  (nat_lit 162, { cls := Value.type "tuple", dict := none, data := Data.seq #[], slots := #[] }) ::
  (nat_lit 164, { cls := Value.type "tuple", dict := none, data := Data.seq #[Value.str (Str.ofString "self") 402], slots := #[] }) ::
  (nat_lit 165, { cls := Value.type "tuple", dict := none, data := Data.seq #[], slots := #[] }) ::
  (nat_lit 167, { cls := Value.type "code", dict := none, data := Data.fields   #[Value.str (Str.ofString "on_persistent") 399, Value.str (Str.ofString "NewReno.on_persistent") 400,     Value.str (Str.ofString "/claim/cut.py") 401, Value.int 99 0, Value.int 1 0, Value.int 0 0, Value.int 0 0,     Value.int 3 0, Value.ref 162, Value.bool true, Value.int 181 0, Value.ref 163, Value.none, Value.ref 164,     Value.ref 165, Value.ref 166, Value.int 403 0, Value.int 99 0, Value.str (Str.ofString "/claim/cut.py") 404], slots := #[] }) ::
  (nat_lit 168, (?f168 : ∀ K : Obj, K = mkF (subS (nthS progBody 13) 10) (Str.ofString "NewReno.on_persistent") (Value.none) (Value.str (Str.ofString "quic.newreno") 274) (Value.ref 167) → Obj) _ ?h168) ::
  (nat_lit 169, { cls := Value.type "tuple", dict := none, data := Data.seq   #[Value.str (Str.ofString "credit") 406, Value.str (Str.ofString "datagram") 407,     Value.str (Str.ofString "in_flight") 408, Value.str (Str.ofString "recovery_at") 409,     Value.str (Str.ofString "threshold") 410, Value.str (Str.ofString "window") 411], slots := #[] }) ::
  (nat_lit 170, { cls := Value.type "dict", dict := none, data := Data.dict   #[{ hash := PyData.keyHash P (Str.ofString "__module__"), key := Value.str (Str.ofString "__module__") 307,       val := Value.str (Str.ofString "quic.newreno") 274 },     { hash := PyData.keyHash P (Str.ofString "__firstlineno__"),       key := Value.str (Str.ofString "__firstlineno__") 311, val := Value.int 48 310 },     { hash := PyData.keyHash P (Str.ofString "__init__"), key := Value.str (Str.ofString "__init__") 319,       val := Value.ref 98 },     { hash := PyData.keyHash P (Str.ofString "may_send"), key := Value.str (Str.ofString "may_send") 327,       val := Value.ref 105 },     { hash := PyData.keyHash P (Str.ofString "is_slow_start"),       key := Value.str (Str.ofString "is_slow_start") 334, val := Value.ref 112 },     { hash := PyData.keyHash P (Str.ofString "in_recovery"), key := Value.str (Str.ofString "in_recovery") 342,       val := Value.ref 119 },     { hash := PyData.keyHash P (Str.ofString "on_sent"), key := Value.str (Str.ofString "on_sent") 350,       val := Value.ref 126 },     { hash := PyData.keyHash P (Str.ofString "on_discarded"), key := Value.str (Str.ofString "on_discarded") 358,       val := Value.ref 133 },     { hash := PyData.keyHash P (Str.ofString "on_acked"), key := Value.str (Str.ofString "on_acked") 370,       val := Value.ref 140 },     { hash := PyData.keyHash P (Str.ofString "widen"), key := Value.str (Str.ofString "widen") 379,       val := Value.ref 147 },     { hash := PyData.keyHash P (Str.ofString "on_congestion"),       key := Value.str (Str.ofString "on_congestion") 388, val := Value.ref 154 },     { hash := PyData.keyHash P (Str.ofString "on_lost"), key := Value.str (Str.ofString "on_lost") 398,       val := Value.ref 161 },     { hash := PyData.keyHash P (Str.ofString "on_persistent"),       key := Value.str (Str.ofString "on_persistent") 405, val := Value.ref 168 },     { hash := PyData.keyHash P (Str.ofString "__static_attributes__"),       key := Value.str (Str.ofString "__static_attributes__") 412, val := Value.ref 169 },     { hash := PyData.keyHash P (Str.ofString "__dict__"), key := Value.str (Str.ofString "__dict__") 414,       val := Value.ref 172 },     { hash := PyData.keyHash P (Str.ofString "__weakref__"), key := Value.str (Str.ofString "__weakref__") 416,       val := Value.ref 173 },     { hash := PyData.keyHash P (Str.ofString "__doc__"), key := Value.str (Str.ofString "__doc__") 417,       val := Value.none }]   4, slots := #[] }) ::
  (nat_lit 171, { cls := Value.type "type", dict := none, data := Data.cls   { name := Str.ofString "NewReno", bases := [Value.type "object"], mro := [Value.ref 171, Value.type "object"],     ns := 170, qualname := Str.ofString "NewReno" }, slots := #[none, none, some (Value.str (Str.ofString "NewReno") 300), some (Value.str (Str.ofString "NewReno") 308),   some (Value.builtin "object.__new__"), some (Value.bool true)] }) ::
  (nat_lit 172, { cls := Value.type "getset_descriptor", dict := none, data := Data.fields   #[Value.str (Str.ofString "__dict__") 413, Value.ref 171, Value.builtin "function.__dict__",     Value.builtin "function.__dict__#set"], slots := #[] }) ::
  (nat_lit 173, { cls := Value.type "getset_descriptor", dict := none, data := Data.fields   #[Value.str (Str.ofString "__weakref__") 415, Value.ref 171, Value.builtin "ExceptionGroup.__weakref__", Value.none], slots := #[] }) ::
  (nat_lit 176, { cls := Value.type "tuple", dict := none, data := Data.seq #[], slots := #[] }) ::
  (nat_lit 178, { cls := Value.type "tuple", dict := none, data := Data.seq   #[Value.str (Str.ofString "latest") 427, Value.str (Str.ofString "least") 428,     Value.str (Str.ofString "ack_delay") 429], slots := #[] }) ::
  (nat_lit 179, { cls := Value.type "tuple", dict := none, data := Data.seq #[], slots := #[] }) ::
  (nat_lit 181, { cls := Value.type "code", dict := none, data := Data.fields   #[Value.str (Str.ofString "without_delay") 424, Value.str (Str.ofString "without_delay") 425,     Value.str (Str.ofString "/claim/cut.py") 426, Value.int 103 0, Value.int 3 0, Value.int 0 0, Value.int 0 0,     Value.int 3 0, Value.ref 176, Value.bool true, Value.int 181 0, Value.ref 177, Value.none, Value.ref 178,     Value.ref 179, Value.ref 180, Value.int 430 0, Value.int 103 0, Value.str (Str.ofString "/claim/cut.py") 431], slots := #[] }) ::
  (nat_lit 182, (?f182 : ∀ K : Obj, K = mkF (nthS progBody 16) (Str.ofString "without_delay") (Value.none) (Value.str (Str.ofString "quic.rtt") 420) (Value.ref 181) → Obj) _ ?h182) ::
  (nat_lit 190, { cls := Value.type "tuple", dict := none, data := Data.seq #[Value.none], slots := #[] }) ::
  (nat_lit 191, { cls := Value.type "tuple", dict := none, data := Data.seq #[], slots := #[] }) ::
  (nat_lit 193, { cls := Value.type "tuple", dict := none, data := Data.seq #[Value.str (Str.ofString "self") 448, Value.str (Str.ofString "since") 449], slots := #[] }) ::
  (nat_lit 194, { cls := Value.type "tuple", dict := none, data := Data.seq #[], slots := #[] }) ::
  (nat_lit 196, { cls := Value.type "code", dict := none, data := Data.fields   #[Value.str (Str.ofString "__init__") 445, Value.str (Str.ofString "Rtt.__init__") 446,     Value.str (Str.ofString "/claim/cut.py") 447, Value.int 107 0, Value.int 2 0, Value.int 0 0, Value.int 0 0,     Value.int 3 0, Value.ref 191, Value.bool true, Value.int 181 0, Value.ref 192, Value.none, Value.ref 193,     Value.ref 194, Value.ref 195, Value.int 450 0, Value.int 107 0, Value.str (Str.ofString "/claim/cut.py") 451], slots := #[] }) ::
  (nat_lit 197, (?f197 : ∀ K : Obj, K = mkF (subS (nthS progBody 17) 0) (Str.ofString "Rtt.__init__") (Value.ref 190) (Value.str (Str.ofString "quic.rtt") 420) (Value.ref 196) → Obj) _ ?h197) ::
  (nat_lit 198, { cls := Value.type "tuple", dict := none, data := Data.seq #[], slots := #[] }) ::
  (nat_lit 200, { cls := Value.type "tuple", dict := none, data := Data.seq #[Value.str (Str.ofString "self") 456], slots := #[] }) ::
  (nat_lit 201, { cls := Value.type "tuple", dict := none, data := Data.seq #[], slots := #[] }) ::
  (nat_lit 203, { cls := Value.type "code", dict := none, data := Data.fields   #[Value.str (Str.ofString "smoothed") 453, Value.str (Str.ofString "Rtt.smoothed") 454,     Value.str (Str.ofString "/claim/cut.py") 455, Value.int 115 0, Value.int 1 0, Value.int 0 0, Value.int 0 0,     Value.int 3 0, Value.ref 198, Value.bool true, Value.int 181 0, Value.ref 199, Value.none, Value.ref 200,     Value.ref 201, Value.ref 202, Value.int 457 0, Value.int 115 0, Value.str (Str.ofString "/claim/cut.py") 458], slots := #[] }) ::
  (nat_lit 204, (?f204 : ∀ K : Obj, K = mkF (subS (nthS progBody 17) 1) (Str.ofString "Rtt.smoothed") (Value.none) (Value.str (Str.ofString "quic.rtt") 420) (Value.ref 203) → Obj) _ ?h204) ::
  (nat_lit 205, { cls := Value.type "tuple", dict := none, data := Data.seq #[], slots := #[] }) ::
  (nat_lit 207, { cls := Value.type "tuple", dict := none, data := Data.seq #[Value.str (Str.ofString "self") 463], slots := #[] }) ::
  (nat_lit 208, { cls := Value.type "tuple", dict := none, data := Data.seq #[], slots := #[] }) ::
  (nat_lit 210, { cls := Value.type "code", dict := none, data := Data.fields   #[Value.str (Str.ofString "variance") 460, Value.str (Str.ofString "Rtt.variance") 461,     Value.str (Str.ofString "/claim/cut.py") 462, Value.int 118 0, Value.int 1 0, Value.int 0 0, Value.int 0 0,     Value.int 3 0, Value.ref 205, Value.bool true, Value.int 181 0, Value.ref 206, Value.none, Value.ref 207,     Value.ref 208, Value.ref 209, Value.int 464 0, Value.int 118 0, Value.str (Str.ofString "/claim/cut.py") 465], slots := #[] }) ::
  (nat_lit 211, (?f211 : ∀ K : Obj, K = mkF (subS (nthS progBody 17) 2) (Str.ofString "Rtt.variance") (Value.none) (Value.str (Str.ofString "quic.rtt") 420) (Value.ref 210) → Obj) _ ?h211) ::
  (nat_lit 212, { cls := Value.type "tuple", dict := none, data := Data.seq #[], slots := #[] }) ::
  (nat_lit 214, { cls := Value.type "tuple", dict := none, data := Data.seq   #[Value.str (Str.ofString "self") 470, Value.str (Str.ofString "latest") 471,     Value.str (Str.ofString "ack_delay") 472, Value.str (Str.ofString "most_delay") 473,     Value.str (Str.ofString "now") 474, Value.str (Str.ofString "adjusted") 475, Value.str (Str.ofString "apart") 476], slots := #[] }) ::
  (nat_lit 215, { cls := Value.type "tuple", dict := none, data := Data.seq #[], slots := #[] }) ::
  (nat_lit 217, { cls := Value.type "code", dict := none, data := Data.fields   #[Value.str (Str.ofString "sample") 467, Value.str (Str.ofString "Rtt.sample") 468,     Value.str (Str.ofString "/claim/cut.py") 469, Value.int 121 0, Value.int 5 0, Value.int 0 0, Value.int 0 0,     Value.int 3 0, Value.ref 212, Value.bool true, Value.int 181 0, Value.ref 213, Value.none, Value.ref 214,     Value.ref 215, Value.ref 216, Value.int 477 0, Value.int 121 0, Value.str (Str.ofString "/claim/cut.py") 478], slots := #[] }) ::
  (nat_lit 218, (?f218 : ∀ K : Obj, K = mkF (subS (nthS progBody 17) 3) (Str.ofString "Rtt.sample") (Value.none) (Value.str (Str.ofString "quic.rtt") 420) (Value.ref 217) → Obj) _ ?h218) ::
  (nat_lit 219, { cls := Value.type "tuple", dict := none, data := Data.seq #[], slots := #[] }) ::
  (nat_lit 221, { cls := Value.type "tuple", dict := none, data := Data.seq #[Value.str (Str.ofString "self") 483], slots := #[] }) ::
  (nat_lit 222, { cls := Value.type "tuple", dict := none, data := Data.seq #[], slots := #[] }) ::
  (nat_lit 224, { cls := Value.type "code", dict := none, data := Data.fields   #[Value.str (Str.ofString "begin_least") 480, Value.str (Str.ofString "Rtt.begin_least") 481,     Value.str (Str.ofString "/claim/cut.py") 482, Value.int 137 0, Value.int 1 0, Value.int 0 0, Value.int 0 0,     Value.int 3 0, Value.ref 219, Value.bool true, Value.int 181 0, Value.ref 220, Value.none, Value.ref 221,     Value.ref 222, Value.ref 223, Value.int 484 0, Value.int 137 0, Value.str (Str.ofString "/claim/cut.py") 485], slots := #[] }) ::
  (nat_lit 225, (?f225 : ∀ K : Obj, K = mkF (subS (nthS progBody 17) 4) (Str.ofString "Rtt.begin_least") (Value.none) (Value.str (Str.ofString "quic.rtt") 420) (Value.ref 224) → Obj) _ ?h225) ::
  (nat_lit 226, { cls := Value.type "tuple", dict := none, data := Data.seq #[], slots := #[] }) ::
  (nat_lit 228, { cls := Value.type "tuple", dict := none, data := Data.seq #[Value.str (Str.ofString "self") 490], slots := #[] }) ::
  (nat_lit 229, { cls := Value.type "tuple", dict := none, data := Data.seq #[], slots := #[] }) ::
  (nat_lit 231, { cls := Value.type "code", dict := none, data := Data.fields   #[Value.str (Str.ofString "probe_base") 487, Value.str (Str.ofString "Rtt.probe_base") 488,     Value.str (Str.ofString "/claim/cut.py") 489, Value.int 140 0, Value.int 1 0, Value.int 0 0, Value.int 0 0,     Value.int 3 0, Value.ref 226, Value.bool true, Value.int 181 0, Value.ref 227, Value.none, Value.ref 228,     Value.ref 229, Value.ref 230, Value.int 491 0, Value.int 140 0, Value.str (Str.ofString "/claim/cut.py") 492], slots := #[] }) ::
  (nat_lit 232, (?f232 : ∀ K : Obj, K = mkF (subS (nthS progBody 17) 5) (Str.ofString "Rtt.probe_base") (Value.none) (Value.str (Str.ofString "quic.rtt") 420) (Value.ref 231) → Obj) _ ?h232) ::
  (nat_lit 233, { cls := Value.type "tuple", dict := none, data := Data.seq   #[Value.str (Str.ofString "first_at") 494, Value.str (Str.ofString "latest") 495,     Value.str (Str.ofString "least") 496, Value.str (Str.ofString "since") 497,     Value.str (Str.ofString "smoothed8") 498, Value.str (Str.ofString "variance4") 499], slots := #[] }) ::
  (nat_lit 234, { cls := Value.type "dict", dict := none, data := Data.dict   #[{ hash := PyData.keyHash P (Str.ofString "__module__"), key := Value.str (Str.ofString "__module__") 440,       val := Value.str (Str.ofString "quic.rtt") 420 },     { hash := PyData.keyHash P (Str.ofString "__firstlineno__"),       key := Value.str (Str.ofString "__firstlineno__") 444, val := Value.int 105 443 },     { hash := PyData.keyHash P (Str.ofString "__init__"), key := Value.str (Str.ofString "__init__") 452,       val := Value.ref 197 },     { hash := PyData.keyHash P (Str.ofString "smoothed"), key := Value.str (Str.ofString "smoothed") 459,       val := Value.ref 204 },     { hash := PyData.keyHash P (Str.ofString "variance"), key := Value.str (Str.ofString "variance") 466,       val := Value.ref 211 },     { hash := PyData.keyHash P (Str.ofString "sample"), key := Value.str (Str.ofString "sample") 479,       val := Value.ref 218 },     { hash := PyData.keyHash P (Str.ofString "begin_least"), key := Value.str (Str.ofString "begin_least") 486,       val := Value.ref 225 },     { hash := PyData.keyHash P (Str.ofString "probe_base"), key := Value.str (Str.ofString "probe_base") 493,       val := Value.ref 232 },     { hash := PyData.keyHash P (Str.ofString "__static_attributes__"),       key := Value.str (Str.ofString "__static_attributes__") 500, val := Value.ref 233 },     { hash := PyData.keyHash P (Str.ofString "__dict__"), key := Value.str (Str.ofString "__dict__") 502,       val := Value.ref 236 },     { hash := PyData.keyHash P (Str.ofString "__weakref__"), key := Value.str (Str.ofString "__weakref__") 504,       val := Value.ref 237 },     { hash := PyData.keyHash P (Str.ofString "__doc__"), key := Value.str (Str.ofString "__doc__") 505,       val := Value.none }]   4, slots := #[] }) ::
  (nat_lit 235, { cls := Value.type "type", dict := none, data := Data.cls   { name := Str.ofString "Rtt", bases := [Value.type "object"], mro := [Value.ref 235, Value.type "object"], ns := 234,     qualname := Str.ofString "Rtt" }, slots := #[none, none, some (Value.str (Str.ofString "Rtt") 433), some (Value.str (Str.ofString "Rtt") 441),   some (Value.builtin "object.__new__"), some (Value.bool true)] }) ::
  (nat_lit 236, { cls := Value.type "getset_descriptor", dict := none, data := Data.fields   #[Value.str (Str.ofString "__dict__") 501, Value.ref 235, Value.builtin "function.__dict__",     Value.builtin "function.__dict__#set"], slots := #[] }) ::
  (nat_lit 237, { cls := Value.type "getset_descriptor", dict := none, data := Data.fields   #[Value.str (Str.ofString "__weakref__") 503, Value.ref 235, Value.builtin "ExceptionGroup.__weakref__", Value.none], slots := #[] }) ::
  (nat_lit 240, { cls := Value.type "tuple", dict := none, data := Data.seq #[], slots := #[] }) ::
  (nat_lit 242, { cls := Value.type "tuple", dict := none, data := Data.seq #[Value.str (Str.ofString "box") 513, Value.str (Str.ofString "many") 514], slots := #[] }) ::
  (nat_lit 243, { cls := Value.type "tuple", dict := none, data := Data.seq #[], slots := #[] }) ::
  (nat_lit 245, { cls := Value.type "code", dict := none, data := Data.fields   #[Value.str (Str.ofString "_law_drawn") 510, Value.str (Str.ofString "_law_drawn") 511,     Value.str (Str.ofString "/claim/cut.py") 512, Value.int 143 0, Value.int 2 0, Value.int 0 0, Value.int 0 0,     Value.int 3 0, Value.ref 240, Value.bool true, Value.int 181 0, Value.ref 241, Value.none, Value.ref 242,     Value.ref 243, Value.ref 244, Value.int 515 0, Value.int 143 0, Value.str (Str.ofString "/claim/cut.py") 516], slots := #[] }) ::
  (nat_lit 246, (?f246 : ∀ K : Obj, K = mkF (nthS progBody 19) (Str.ofString "_law_drawn") (Value.none) (Value.str (Str.ofString "law_sj0111_01") 508) (Value.ref 245) → Obj) _ ?h246) ::
  (nat_lit 247, { cls := Value.type "tuple", dict := none, data := Data.seq #[], slots := #[] }) ::
  (nat_lit 249, { cls := Value.type "tuple", dict := none, data := Data.seq #[Value.str (Str.ofString "pacer") 521, Value.str (Str.ofString "more") 522], slots := #[] }) ::
  (nat_lit 250, { cls := Value.type "tuple", dict := none, data := Data.seq #[], slots := #[] }) ::
  (nat_lit 252, { cls := Value.type "code", dict := none, data := Data.fields   #[Value.str (Str.ofString "_law_left") 518, Value.str (Str.ofString "_law_left") 519,     Value.str (Str.ofString "/claim/cut.py") 520, Value.int 148 0, Value.int 2 0, Value.int 0 0, Value.int 0 0,     Value.int 3 0, Value.ref 247, Value.bool true, Value.int 181 0, Value.ref 248, Value.none, Value.ref 249,     Value.ref 250, Value.ref 251, Value.int 523 0, Value.int 148 0, Value.str (Str.ofString "/claim/cut.py") 524], slots := #[] }) ::
  (nat_lit 253, (?f253 : ∀ K : Obj, K = mkF (nthS progBody 20) (Str.ofString "_law_left") (Value.none) (Value.str (Str.ofString "law_sj0111_01") 508) (Value.ref 252) → Obj) _ ?h253) ::
  (nat_lit 254, { cls := Value.type "tuple", dict := none, data := Data.seq #[], slots := #[] }) ::
  (nat_lit 256, { cls := Value.type "tuple", dict := none, data := Data.seq   #[Value.str (Str.ofString "pacers") 529, Value.str (Str.ofString "more") 530, Value.str (Str.ofString "owing") 531,     Value.str (Str.ofString "first") 532, Value.str (Str.ofString "wide") 533, Value.str (Str.ofString "free") 534], slots := #[] }) ::
  (nat_lit 257, { cls := Value.type "tuple", dict := none, data := Data.seq #[], slots := #[] }) ::
  (nat_lit 259, { cls := Value.type "code", dict := none, data := Data.fields   #[Value.str (Str.ofString "_law_in_order") 526, Value.str (Str.ofString "_law_in_order") 527,     Value.str (Str.ofString "/claim/cut.py") 528, Value.int 150 0, Value.int 2 0, Value.int 0 0, Value.int 0 0,     Value.int 3 0, Value.ref 254, Value.bool true, Value.int 181 0, Value.ref 255, Value.none, Value.ref 256,     Value.ref 257, Value.ref 258, Value.int 535 0, Value.int 150 0, Value.str (Str.ofString "/claim/cut.py") 536], slots := #[] }) ::
  (nat_lit 260, (?f260 : ∀ K : Obj, K = mkF (nthS progBody 21) (Str.ofString "_law_in_order") (Value.none) (Value.str (Str.ofString "law_sj0111_01") 508) (Value.ref 259) → Obj) _ ?h260) ::
  (nat_lit 261, { cls := Value.type "tuple", dict := none, data := Data.seq #[], slots := #[] }) ::
  (nat_lit 264, { cls := Value.type "code", dict := none, data := Data.fields   #[Value.str (Str.ofString "_law_waits") 538, Value.str (Str.ofString "_law_waits") 539,     Value.str (Str.ofString "/claim/cut.py") 540, Value.int 155 0, Value.int 4 0, Value.int 0 0, Value.int 0 0,     Value.int 3 0, Value.ref 261, Value.bool true, Value.int 181 0, Value.ref 262, Value.none, Value.none, Value.none,     Value.ref 263, Value.int 541 0, Value.int 155 0, Value.str (Str.ofString "/claim/cut.py") 542], slots := #[] }) ::
  (nat_lit 265, (?f265 : ∀ K : Obj, K = mkF (nthS progBody 22) (Str.ofString "_law_waits") (Value.none) (Value.str (Str.ofString "law_sj0111_01") 508) (Value.ref 264) → Obj) _ ?h265) ::
  (nat_lit 266, { cls := Value.type "tuple", dict := none, data := Data.seq #[], slots := #[] }) ::
  (nat_lit 268, { cls := Value.type "tuple", dict := none, data := Data.seq   #[Value.str (Str.ofString "script") 547, Value.str (Str.ofString "box") 548, Value.str (Str.ofString "way") 549,     Value.str (Str.ofString "now") 550, Value.str (Str.ofString "burst") 551, Value.str (Str.ofString "more") 552,     Value.str (Str.ofString "pacers") 553, Value.str (Str.ofString "slow") 554, Value.str (Str.ofString "fast") 555,     Value.str (Str.ofString "is_alike") 556, Value.str (Str.ofString "turn") 557, Value.str (Str.ofString "form") 558,     Value.str (Str.ofString "size") 559, Value.str (Str.ofString "reno") 560, Value.str (Str.ofString "windows") 561,     Value.str (Str.ofString "place") 562, Value.str (Str.ofString "pacer") 563], slots := #[] }) ::
  (nat_lit 269, { cls := Value.type "tuple", dict := none, data := Data.seq #[], slots := #[] }) ::
  (nat_lit 271, { cls := Value.type "code", dict := none, data := Data.fields   #[Value.str (Str.ofString "law") 544, Value.str (Str.ofString "law") 545,     Value.str (Str.ofString "/claim/cut.py") 546, Value.int 166 0, Value.int 1 0, Value.int 0 0, Value.int 0 0,     Value.int 3 0, Value.ref 266, Value.bool true, Value.int 181 0, Value.ref 267, Value.none, Value.ref 268,     Value.ref 269, Value.ref 270, Value.int 564 0, Value.int 166 0, Value.str (Str.ofString "/claim/cut.py") 565], slots := #[] }) ::
  (nat_lit 272, (?f272 : ∀ K : Obj, K = mkF (nthS progBody 23) (Str.ofString "law") (Value.none) (Value.str (Str.ofString "law_sj0111_01") 508) (Value.ref 271) → Obj) _ ?h272) :: List.nil)
  (case h21 => dsimp only [mkF, subS, nthS, progBody, PySem.Challenge.pw_sj0111_01]; exact rfl); (case f21 => exact fun K _ => K)
  (case h35 => dsimp only [mkF, subS, nthS, progBody, PySem.Challenge.pw_sj0111_01]; exact rfl); (case f35 => exact fun K _ => K)
  (case h42 => dsimp only [mkF, subS, nthS, progBody, PySem.Challenge.pw_sj0111_01]; exact rfl); (case f42 => exact fun K _ => K)
  (case h49 => dsimp only [mkF, subS, nthS, progBody, PySem.Challenge.pw_sj0111_01]; exact rfl); (case f49 => exact fun K _ => K)
  (case h56 => dsimp only [mkF, subS, nthS, progBody, PySem.Challenge.pw_sj0111_01]; exact rfl); (case f56 => exact fun K _ => K)
  (case h63 => dsimp only [mkF, subS, nthS, progBody, PySem.Challenge.pw_sj0111_01]; exact rfl); (case f63 => exact fun K _ => K)
  (case h77 => dsimp only [mkF, subS, nthS, progBody, PySem.Challenge.pw_sj0111_01]; exact rfl); (case f77 => exact fun K _ => K)
  (case h84 => dsimp only [mkF, subS, nthS, progBody, PySem.Challenge.pw_sj0111_01]; exact rfl); (case f84 => exact fun K _ => K)
  (case h98 => dsimp only [mkF, subS, nthS, progBody, PySem.Challenge.pw_sj0111_01]; exact rfl); (case f98 => exact fun K _ => K)
  (case h105 => dsimp only [mkF, subS, nthS, progBody, PySem.Challenge.pw_sj0111_01]; exact rfl); (case f105 => exact fun K _ => K)
  (case h112 => dsimp only [mkF, subS, nthS, progBody, PySem.Challenge.pw_sj0111_01]; exact rfl); (case f112 => exact fun K _ => K)
  (case h119 => dsimp only [mkF, subS, nthS, progBody, PySem.Challenge.pw_sj0111_01]; exact rfl); (case f119 => exact fun K _ => K)
  (case h126 => dsimp only [mkF, subS, nthS, progBody, PySem.Challenge.pw_sj0111_01]; exact rfl); (case f126 => exact fun K _ => K)
  (case h133 => dsimp only [mkF, subS, nthS, progBody, PySem.Challenge.pw_sj0111_01]; exact rfl); (case f133 => exact fun K _ => K)
  (case h140 => dsimp only [mkF, subS, nthS, progBody, PySem.Challenge.pw_sj0111_01]; exact rfl); (case f140 => exact fun K _ => K)
  (case h147 => dsimp only [mkF, subS, nthS, progBody, PySem.Challenge.pw_sj0111_01]; exact rfl); (case f147 => exact fun K _ => K)
  (case h154 => dsimp only [mkF, subS, nthS, progBody, PySem.Challenge.pw_sj0111_01]; exact rfl); (case f154 => exact fun K _ => K)
  (case h161 => dsimp only [mkF, subS, nthS, progBody, PySem.Challenge.pw_sj0111_01]; exact rfl); (case f161 => exact fun K _ => K)
  (case h168 => dsimp only [mkF, subS, nthS, progBody, PySem.Challenge.pw_sj0111_01]; exact rfl); (case f168 => exact fun K _ => K)
  (case h182 => dsimp only [mkF, subS, nthS, progBody, PySem.Challenge.pw_sj0111_01]; exact rfl); (case f182 => exact fun K _ => K)
  (case h197 => dsimp only [mkF, subS, nthS, progBody, PySem.Challenge.pw_sj0111_01]; exact rfl); (case f197 => exact fun K _ => K)
  (case h204 => dsimp only [mkF, subS, nthS, progBody, PySem.Challenge.pw_sj0111_01]; exact rfl); (case f204 => exact fun K _ => K)
  (case h211 => dsimp only [mkF, subS, nthS, progBody, PySem.Challenge.pw_sj0111_01]; exact rfl); (case f211 => exact fun K _ => K)
  (case h218 => dsimp only [mkF, subS, nthS, progBody, PySem.Challenge.pw_sj0111_01]; exact rfl); (case f218 => exact fun K _ => K)
  (case h225 => dsimp only [mkF, subS, nthS, progBody, PySem.Challenge.pw_sj0111_01]; exact rfl); (case f225 => exact fun K _ => K)
  (case h232 => dsimp only [mkF, subS, nthS, progBody, PySem.Challenge.pw_sj0111_01]; exact rfl); (case f232 => exact fun K _ => K)
  (case h246 => dsimp only [mkF, subS, nthS, progBody, PySem.Challenge.pw_sj0111_01]; exact rfl); (case f246 => exact fun K _ => K)
  (case h253 => dsimp only [mkF, subS, nthS, progBody, PySem.Challenge.pw_sj0111_01]; exact rfl); (case f253 => exact fun K _ => K)
  (case h260 => dsimp only [mkF, subS, nthS, progBody, PySem.Challenge.pw_sj0111_01]; exact rfl); (case f260 => exact fun K _ => K)
  (case h265 => dsimp only [mkF, subS, nthS, progBody, PySem.Challenge.pw_sj0111_01]; exact rfl); (case f265 => exact fun K _ => K)
  (case h272 => dsimp only [mkF, subS, nthS, progBody, PySem.Challenge.pw_sj0111_01]; exact rfl); (case f272 => exact fun K _ => K)
set_option maxHeartbeats 4000000 in
noncomputable def viewBody : List Stmt := by
  refine' (?f : ∀ K : List Stmt, (K = [nthS progBody 0, nthS progBody 2, nthS progBody 3, nthS progBody 4, nthS progBody 6, nthS progBody 7, nthS progBody 8, nthS progBody 9, nthS progBody 10, nthS progBody 11, nthS progBody 12, nthS progBody 13, nthS progBody 15, nthS progBody 16, nthS progBody 17, nthS progBody 19, nthS progBody 20, nthS progBody 21, nthS progBody 22, nthS progBody 23]) → List Stmt) _ ?h
  (case h => dsimp only [nthS, progBody, PySem.Challenge.pw_sj0111_01]; exact rfl)
  (case f => exact fun K _ => K)
noncomputable def view_39 : Program := { PySem.Challenge.pw_sj0111_01 with main := { PySem.Challenge.pw_sj0111_01.main with body := viewBody } }
end hd
noncomputable def AS : List Addr := [2, 3, 15, 17, 18, 20, 21, 29, 31, 32, 34, 35, 36, 38, 39, 41, 42, 43, 45, 46, 48, 49, 50, 52, 53, 55, 56, 57, 59, 60, 62, 63, 64, 65, 66, 67, 68, 71, 73, 74, 76, 77, 78, 80, 81, 83, 84, 92, 94, 95, 97, 98, 99, 101, 102, 104, 105, 106, 108, 109, 111, 112, 113, 115, 116, 118, 119, 120, 122, 123, 125, 126, 127, 129, 130, 132, 133, 134, 136, 137, 139, 140, 141, 143, 144, 146, 147, 148, 150, 151, 153, 154, 155, 157, 158, 160, 161, 162, 164, 165, 167, 168, 169, 170, 171, 172, 173, 176, 178, 179, 181, 182, 190, 191, 193, 194, 196, 197, 198, 200, 201, 203, 204, 205, 207, 208, 210, 211, 212, 214, 215, 217, 218, 219, 221, 222, 224, 225, 226, 228, 229, 231, 232, 233, 234, 235, 236, 237, 240, 242, 243, 245, 246, 247, 249, 250, 252, 253, 254, 256, 257, 259, 260, 261, 264, 265, 266, 268, 269, 271, 272]
theorem as_K : ∀ P, AS = (Mine.hd.heap_39 P).map (·.1) := fun _ => by kernel_rfl
noncomputable def Asc : Nat → List Nat → Prop
  | _, [] => True
  | a, [b] => @LT.lt Nat instLTNat a b
  | a, b :: c :: r => @LT.lt Nat instLTNat a b ∧ Asc b (c :: r)
noncomputable def nthN : List Nat → Nat → Nat
  | [], _ => 0
  | a :: _, 0 => a
  | _ :: r, n + 1 => nthN r n
theorem asc_lt : ∀ (xs : List Nat) (a j : Nat), Asc a xs → j < xs.length → a < nthN xs j
  | [], _, _, _, h => absurd h (Nat.not_lt_zero _)
  | [_], _, 0, h, _ => h
  | [_], _, _ + 1, _, h => absurd (Nat.lt_of_succ_lt_succ h) (Nat.not_lt_zero _)
  | _ :: _ :: _, _, 0, h, _ => h.1
  | b :: c :: r, a, j + 1, h, hj => Nat.lt_trans h.1 (asc_lt (c :: r) b j h.2 (Nat.lt_of_succ_lt_succ hj))
theorem asc_tail {a b : Nat} {r : List Nat} (h : Asc a (b :: r)) : Asc b r := by
  cases r with
  | nil => trivial
  | cons c r => exact h.2
theorem asc_lt2 : ∀ (xs : List Nat) (x i j : Nat), Asc x xs → i < j → j < xs.length + 1 → nthN (x :: xs) i < nthN (x :: xs) j
  | _, _, _, 0, _, h, _ => absurd h (Nat.not_lt_zero _)
  | xs, x, 0, j + 1, h, _, hj => asc_lt xs x j h (Nat.lt_of_succ_lt_succ hj)
  | [], _, _ + 1, _ + 1, _, _, hj => absurd (Nat.lt_of_succ_lt_succ hj) (Nat.not_lt_zero _)
  | b :: r, _, i + 1, j + 1, h, hi, hj => asc_lt2 r b i j (asc_tail h) (Nat.lt_of_succ_lt_succ hi) (Nat.lt_of_succ_lt_succ hj)
theorem at_ne {x : Nat} {xs : List Nat} (h : Asc x xs) (i j : Nat) {a b : Nat} (ha : nthN (x :: xs) i = a) (hb : nthN (x :: xs) j = b) (k : ((i.blt j && j.blt (xs.length + 1)) || (j.blt i && i.blt (xs.length + 1))) = true) : @Ne Nat a b := by
  subst ha hb
  rcases Bool.or_eq_true_iff.mp k with k | k
  · have k := Bool.and_eq_true_iff.mp k
    exact Nat.ne_of_lt (asc_lt2 _ _ _ _ h (by simpa using k.1) (by simpa using k.2))
  · have k := Bool.and_eq_true_iff.mp k
    exact Nat.ne_of_gt (asc_lt2 _ _ _ _ h (by simpa using k.1) (by simpa using k.2))
theorem fresh_ne {led : List (Addr × Obj)} {d a : Addr} {o : Obj} (h : ∀ p ∈ led, p.1 < d) (m : (a, o) ∈ led) : @Ne Nat a d := Nat.ne_of_lt (h _ m)
theorem fresh_ne' {led : List (Addr × Obj)} {d a : Addr} {o : Obj} (h : ∀ p ∈ led, p.1 < d) (m : (a, o) ∈ led) : @Ne Nat d a := Nat.ne_of_gt (h _ m)
theorem fresh_lt {led : List (Addr × Obj)} {d a : Addr} {o : Obj} (h : ∀ p ∈ led, p.1 < d) (m : (a, o) ∈ led) : @LT.lt Nat instLTNat a d := h _ m
noncomputable def takeX : Nat → List Stmt → List Stmt
  | n + 1, x :: r => x :: takeX n r
  | _, _ => []
noncomputable def dropX : Nat → List Stmt → List Stmt
  | 0, l => l
  | n + 1, _ :: r => dropX n r
  | _, [] => []
noncomputable def kO : Frag → Nat → Obj
  | [], _ => { cls := .none, data := .plain }
  | a :: _, 0 => a.2
  | _ :: r, n + 1 => kO r n
noncomputable def mkG (s : Stmt) (qual : Str) : Obj := match s with
  | .FunctionDef name params body _ _ _ scope _ _ _ => { cls := .none, data := .func { name := name, qualname := qual, params := params, body := .stmts body, scope := scope, globals := 0, closure := [], defaults := .none, kwdefaults := .none } }
  | _ => { cls := .none, data := .plain }
noncomputable def g13 (P : Params) : Obj := { cls := Value.type "code", data := Data.fields #[Value.str (Str.ofString "<module>") 182, Value.str (Str.ofString "<module>") 183, Value.str (Str.ofString "/claim/cut.py") 184, Value.int 1 0, Value.int 0 0, Value.int 0 0, Value.int 0 0, Value.int 0 0, Value.ref 11, Value.bool false, Value.int 181 0, Value.ref 12, Value.none, Value.none, Value.none, Value.none, Value.int 185 0, Value.int 1 0, Value.str (Str.ofString "/claim/cut.py") 186] }
noncomputable def g14 (P : Params) : Obj := { cls := Value.type "frame", slots := #[some (Value.ref 13), some (Value.ref 3), some (Value.ref 3), none, some (Value.str (Str.ofString "__main__") 164), none, some (Value.ref 0)] }
noncomputable def g23 (P : Params) : Obj := { cls := Value.type "builtin_function_or_method", data := Data.fields #[Value.builtin "type.__prepare__", Value.type "type"] }
noncomputable def g24 (P : Params) : Obj := { cls := Value.type "dict", data := Data.dict #[{ hash := PyData.keyHash P (Str.ofString "__module__"), key := Value.str (Str.ofString "__module__") 207, val := Value.str (Str.ofString "quic.pacing") 194 }, { hash := PyData.keyHash P (Str.ofString "__qualname__"), key := Value.str (Str.ofString "__qualname__") 209, val := Value.str (Str.ofString "Pacer") 208 }, { hash := PyData.keyHash P (Str.ofString "__firstlineno__"), key := Value.str (Str.ofString "__firstlineno__") 211, val := Value.int 7 210 }, { hash := PyData.keyHash P (Str.ofString "__init__"), key := Value.str (Str.ofString "__init__") 220, val := Value.ref 35 }, { hash := PyData.keyHash P (Str.ofString "earn"), key := Value.str (Str.ofString "earn") 232, val := Value.ref 42 }, { hash := PyData.keyHash P (Str.ofString "may_send"), key := Value.str (Str.ofString "may_send") 240, val := Value.ref 49 }, { hash := PyData.keyHash P (Str.ofString "on_sent"), key := Value.str (Str.ofString "on_sent") 248, val := Value.ref 56 }, { hash := PyData.keyHash P (Str.ofString "wait_for"), key := Value.str (Str.ofString "wait_for") 261, val := Value.ref 63 }, { hash := PyData.keyHash P (Str.ofString "__static_attributes__"), key := Value.str (Str.ofString "__static_attributes__") 266, val := Value.ref 64 }] 9 }
noncomputable def g26 (P : Params) : Obj := { cls := Value.none, data := Data.fields #[Value.int 9 0, Value.int 4 0, Value.ref 34, Value.int 15 0, Value.int 4 0, Value.ref 41, Value.int 25 0, Value.int 4 0, Value.ref 48, Value.int 28 0, Value.int 4 0, Value.ref 55, Value.int 31 0, Value.int 4 0, Value.ref 62] }
noncomputable def g27 (P : Params) : Obj := { cls := Value.type "code", data := Data.fields #[Value.str (Str.ofString "Pacer") 202, Value.str (Str.ofString "Pacer") 203, Value.str (Str.ofString "/claim/cut.py") 204, Value.int 7 0, Value.int 0 0, Value.int 0 0, Value.int 0 0, Value.int 0 0, Value.ref 25, Value.bool false, Value.int 181 0, Value.ref 26, Value.none, Value.none, Value.none, Value.none, Value.int 205 0, Value.int 7 0, Value.str (Str.ofString "/claim/cut.py") 206] }
noncomputable def g28 (P : Params) : Obj := { cls := Value.type "frame", slots := #[some (Value.ref 27), some (Value.ref 3), some (Value.ref 24), none, some (Value.str (Str.ofString "quic.pacing") 194), none, some (Value.ref 0)] }
noncomputable def g69 (P : Params) : Obj := { cls := Value.type "super", data := Data.fields #[Value.ref 66, Value.ref 66, Value.ref 66] }
noncomputable def g70 (P : Params) : Obj := { cls := Value.type "builtin_function_or_method", data := Data.fields #[Value.builtin "object.__init_subclass__", Value.ref 66] }
noncomputable def g86 (P : Params) : Obj := { cls := Value.type "builtin_function_or_method", data := Data.fields #[Value.builtin "type.__prepare__", Value.type "type"] }
noncomputable def g87 (P : Params) : Obj := { cls := Value.type "dict", data := Data.dict #[{ hash := PyData.keyHash P (Str.ofString "__module__"), key := Value.str (Str.ofString "__module__") 307, val := Value.str (Str.ofString "quic.newreno") 274 }, { hash := PyData.keyHash P (Str.ofString "__qualname__"), key := Value.str (Str.ofString "__qualname__") 309, val := Value.str (Str.ofString "NewReno") 308 }, { hash := PyData.keyHash P (Str.ofString "__firstlineno__"), key := Value.str (Str.ofString "__firstlineno__") 311, val := Value.int 48 310 }, { hash := PyData.keyHash P (Str.ofString "__init__"), key := Value.str (Str.ofString "__init__") 319, val := Value.ref 98 }, { hash := PyData.keyHash P (Str.ofString "may_send"), key := Value.str (Str.ofString "may_send") 327, val := Value.ref 105 }, { hash := PyData.keyHash P (Str.ofString "is_slow_start"), key := Value.str (Str.ofString "is_slow_start") 334, val := Value.ref 112 }, { hash := PyData.keyHash P (Str.ofString "in_recovery"), key := Value.str (Str.ofString "in_recovery") 342, val := Value.ref 119 }, { hash := PyData.keyHash P (Str.ofString "on_sent"), key := Value.str (Str.ofString "on_sent") 350, val := Value.ref 126 }, { hash := PyData.keyHash P (Str.ofString "on_discarded"), key := Value.str (Str.ofString "on_discarded") 358, val := Value.ref 133 }, { hash := PyData.keyHash P (Str.ofString "on_acked"), key := Value.str (Str.ofString "on_acked") 370, val := Value.ref 140 }, { hash := PyData.keyHash P (Str.ofString "widen"), key := Value.str (Str.ofString "widen") 379, val := Value.ref 147 }, { hash := PyData.keyHash P (Str.ofString "on_congestion"), key := Value.str (Str.ofString "on_congestion") 388, val := Value.ref 154 }, { hash := PyData.keyHash P (Str.ofString "on_lost"), key := Value.str (Str.ofString "on_lost") 398, val := Value.ref 161 }, { hash := PyData.keyHash P (Str.ofString "on_persistent"), key := Value.str (Str.ofString "on_persistent") 405, val := Value.ref 168 }, { hash := PyData.keyHash P (Str.ofString "__static_attributes__"), key := Value.str (Str.ofString "__static_attributes__") 412, val := Value.ref 169 }] 15 }
noncomputable def g89 (P : Params) : Obj := { cls := Value.none, data := Data.fields #[Value.int 50 0, Value.int 4 0, Value.ref 97, Value.int 58 0, Value.int 4 0, Value.ref 104, Value.int 61 0, Value.int 4 0, Value.ref 111, Value.int 64 0, Value.int 4 0, Value.ref 118, Value.int 67 0, Value.int 4 0, Value.ref 125, Value.int 70 0, Value.int 4 0, Value.ref 132, Value.int 73 0, Value.int 4 0, Value.ref 139, Value.int 82 0, Value.int 4 0, Value.ref 146, Value.int 88 0, Value.int 4 0, Value.ref 153, Value.int 96 0, Value.int 4 0, Value.ref 160, Value.int 99 0, Value.int 4 0, Value.ref 167] }
noncomputable def g90 (P : Params) : Obj := { cls := Value.type "code", data := Data.fields #[Value.str (Str.ofString "NewReno") 302, Value.str (Str.ofString "NewReno") 303, Value.str (Str.ofString "/claim/cut.py") 304, Value.int 48 0, Value.int 0 0, Value.int 0 0, Value.int 0 0, Value.int 0 0, Value.ref 88, Value.bool false, Value.int 181 0, Value.ref 89, Value.none, Value.none, Value.none, Value.none, Value.int 305 0, Value.int 48 0, Value.str (Str.ofString "/claim/cut.py") 306] }
noncomputable def g91 (P : Params) : Obj := { cls := Value.type "frame", slots := #[some (Value.ref 90), some (Value.ref 3), some (Value.ref 87), none, some (Value.str (Str.ofString "quic.newreno") 274), none, some (Value.ref 0)] }
noncomputable def g174 (P : Params) : Obj := { cls := Value.type "super", data := Data.fields #[Value.ref 171, Value.ref 171, Value.ref 171] }
noncomputable def g175 (P : Params) : Obj := { cls := Value.type "builtin_function_or_method", data := Data.fields #[Value.builtin "object.__init_subclass__", Value.ref 171] }
noncomputable def g184 (P : Params) : Obj := { cls := Value.type "builtin_function_or_method", data := Data.fields #[Value.builtin "type.__prepare__", Value.type "type"] }
noncomputable def g185 (P : Params) : Obj := { cls := Value.type "dict", data := Data.dict #[{ hash := PyData.keyHash P (Str.ofString "__module__"), key := Value.str (Str.ofString "__module__") 440, val := Value.str (Str.ofString "quic.rtt") 420 }, { hash := PyData.keyHash P (Str.ofString "__qualname__"), key := Value.str (Str.ofString "__qualname__") 442, val := Value.str (Str.ofString "Rtt") 441 }, { hash := PyData.keyHash P (Str.ofString "__firstlineno__"), key := Value.str (Str.ofString "__firstlineno__") 444, val := Value.int 105 443 }, { hash := PyData.keyHash P (Str.ofString "__init__"), key := Value.str (Str.ofString "__init__") 452, val := Value.ref 197 }, { hash := PyData.keyHash P (Str.ofString "smoothed"), key := Value.str (Str.ofString "smoothed") 459, val := Value.ref 204 }, { hash := PyData.keyHash P (Str.ofString "variance"), key := Value.str (Str.ofString "variance") 466, val := Value.ref 211 }, { hash := PyData.keyHash P (Str.ofString "sample"), key := Value.str (Str.ofString "sample") 479, val := Value.ref 218 }, { hash := PyData.keyHash P (Str.ofString "begin_least"), key := Value.str (Str.ofString "begin_least") 486, val := Value.ref 225 }, { hash := PyData.keyHash P (Str.ofString "probe_base"), key := Value.str (Str.ofString "probe_base") 493, val := Value.ref 232 }, { hash := PyData.keyHash P (Str.ofString "__static_attributes__"), key := Value.str (Str.ofString "__static_attributes__") 500, val := Value.ref 233 }] 10 }
noncomputable def g187 (P : Params) : Obj := { cls := Value.none, data := Data.fields #[Value.int 107 0, Value.int 4 0, Value.ref 196, Value.int 115 0, Value.int 4 0, Value.ref 203, Value.int 118 0, Value.int 4 0, Value.ref 210, Value.int 121 0, Value.int 4 0, Value.ref 217, Value.int 137 0, Value.int 4 0, Value.ref 224, Value.int 140 0, Value.int 4 0, Value.ref 231] }
noncomputable def g188 (P : Params) : Obj := { cls := Value.type "code", data := Data.fields #[Value.str (Str.ofString "Rtt") 435, Value.str (Str.ofString "Rtt") 436, Value.str (Str.ofString "/claim/cut.py") 437, Value.int 105 0, Value.int 0 0, Value.int 0 0, Value.int 0 0, Value.int 0 0, Value.ref 186, Value.bool false, Value.int 181 0, Value.ref 187, Value.none, Value.none, Value.none, Value.none, Value.int 438 0, Value.int 105 0, Value.str (Str.ofString "/claim/cut.py") 439] }
noncomputable def g189 (P : Params) : Obj := { cls := Value.type "frame", slots := #[some (Value.ref 188), some (Value.ref 3), some (Value.ref 185), none, some (Value.str (Str.ofString "quic.rtt") 420), none, some (Value.ref 0)] }
noncomputable def g238 (P : Params) : Obj := { cls := Value.type "super", data := Data.fields #[Value.ref 235, Value.ref 235, Value.ref 235] }
noncomputable def g239 (P : Params) : Obj := { cls := Value.type "builtin_function_or_method", data := Data.fields #[Value.builtin "object.__init_subclass__", Value.ref 235] }
noncomputable def v3block (P : Params) : Obj := { cls := Value.type "dict", data := Data.dict #[{ hash := PyData.keyHash P (Str.ofString "__name__"), key := Value.str (Str.ofString "__name__") 165, val := Value.str (Str.ofString "__main__") 164 }, { hash := PyData.keyHash P (Str.ofString "__doc__"), key := Value.str (Str.ofString "__doc__") 166, val := Value.none }, { hash := PyData.keyHash P (Str.ofString "__package__"), key := Value.str (Str.ofString "__package__") 167, val := Value.none }, { hash := PyData.keyHash P (Str.ofString "__loader__"), key := Value.str (Str.ofString "__loader__") 168, val := Value.builtin "__main__.__loader__#opaque" }, { hash := PyData.keyHash P (Str.ofString "__spec__"), key := Value.str (Str.ofString "__spec__") 169, val := Value.none }, { hash := PyData.keyHash P (Str.ofString "__annotations__"), key := Value.str (Str.ofString "__annotations__") 170, val := Value.ref 6 }, { hash := PyData.keyHash P (Str.ofString "__builtins__"), key := Value.str (Str.ofString "__builtins__") 171, val := Value.ref 4 }, { hash := PyData.keyHash P (Str.ofString "__file__"), key := Value.str (Str.ofString "__file__") 173, val := Value.str (Str.ofString "/claim/cut.py") 172 }, { hash := PyData.keyHash P (Str.ofString "__cached__"), key := Value.str (Str.ofString "__cached__") 174, val := Value.none }] 9 }
noncomputable def v12block (P : Params) : Obj := { cls := Value.none, data := Data.fields #[] }
noncomputable def v3p4 (P : Params) : Obj := { cls := Value.type "dict", data := Data.dict #[{ hash := PyData.keyHash P (Str.ofString "__name__"), key := Value.str (Str.ofString "__name__") 165, val := Value.str (Str.ofString "quic.pacing") 194 }, { hash := PyData.keyHash P (Str.ofString "__doc__"), key := Value.str (Str.ofString "__doc__") 166, val := Value.none }, { hash := PyData.keyHash P (Str.ofString "__package__"), key := Value.str (Str.ofString "__package__") 167, val := Value.none }, { hash := PyData.keyHash P (Str.ofString "__loader__"), key := Value.str (Str.ofString "__loader__") 168, val := Value.builtin "__main__.__loader__#opaque" }, { hash := PyData.keyHash P (Str.ofString "__spec__"), key := Value.str (Str.ofString "__spec__") 169, val := Value.none }, { hash := PyData.keyHash P (Str.ofString "__annotations__"), key := Value.str (Str.ofString "__annotations__") 170, val := Value.ref 6 }, { hash := PyData.keyHash P (Str.ofString "__builtins__"), key := Value.str (Str.ofString "__builtins__") 171, val := Value.ref 4 }, { hash := PyData.keyHash P (Str.ofString "__file__"), key := Value.str (Str.ofString "__file__") 173, val := Value.str (Str.ofString "/claim/cut.py") 172 }, { hash := PyData.keyHash P (Str.ofString "__cached__"), key := Value.str (Str.ofString "__cached__") 174, val := Value.none }, { hash := PyData.keyHash P (Str.ofString "_wall"), key := Value.str (Str.ofString "_wall") 193, val := Value.ref 21 }, { hash := PyData.keyHash P (Str.ofString "RATE_TOP"), key := Value.str (Str.ofString "RATE_TOP") 197, val := Value.int 5 196 }, { hash := PyData.keyHash P (Str.ofString "RATE_BOTTOM"), key := Value.str (Str.ofString "RATE_BOTTOM") 199, val := Value.int 4 198 }, { hash := PyData.keyHash P (Str.ofString "Pacer"), key := Value.str (Str.ofString "Pacer") 273, val := Value.ref 66 }] 13 }
noncomputable def v12p4 (P : Params) : Obj := { cls := Value.none, data := Data.fields #[Value.int 1 0, Value.int 0 0, Value.ref 20, Value.int 7 0, Value.int 0 0, Value.ref 27] }
noncomputable def v3p12 (P : Params) : Obj := { cls := Value.type "dict", data := Data.dict #[{ hash := PyData.keyHash P (Str.ofString "__name__"), key := Value.str (Str.ofString "__name__") 165, val := Value.str (Str.ofString "quic.newreno") 274 }, { hash := PyData.keyHash P (Str.ofString "__doc__"), key := Value.str (Str.ofString "__doc__") 166, val := Value.none }, { hash := PyData.keyHash P (Str.ofString "__package__"), key := Value.str (Str.ofString "__package__") 167, val := Value.none }, { hash := PyData.keyHash P (Str.ofString "__loader__"), key := Value.str (Str.ofString "__loader__") 168, val := Value.builtin "__main__.__loader__#opaque" }, { hash := PyData.keyHash P (Str.ofString "__spec__"), key := Value.str (Str.ofString "__spec__") 169, val := Value.none }, { hash := PyData.keyHash P (Str.ofString "__annotations__"), key := Value.str (Str.ofString "__annotations__") 170, val := Value.ref 6 }, { hash := PyData.keyHash P (Str.ofString "__builtins__"), key := Value.str (Str.ofString "__builtins__") 171, val := Value.ref 4 }, { hash := PyData.keyHash P (Str.ofString "__file__"), key := Value.str (Str.ofString "__file__") 173, val := Value.str (Str.ofString "/claim/cut.py") 172 }, { hash := PyData.keyHash P (Str.ofString "__cached__"), key := Value.str (Str.ofString "__cached__") 174, val := Value.none }, { hash := PyData.keyHash P (Str.ofString "_wall"), key := Value.str (Str.ofString "_wall") 193, val := Value.ref 21 }, { hash := PyData.keyHash P (Str.ofString "RATE_TOP"), key := Value.str (Str.ofString "RATE_TOP") 197, val := Value.int 5 196 }, { hash := PyData.keyHash P (Str.ofString "RATE_BOTTOM"), key := Value.str (Str.ofString "RATE_BOTTOM") 199, val := Value.int 4 198 }, { hash := PyData.keyHash P (Str.ofString "Pacer"), key := Value.str (Str.ofString "Pacer") 273, val := Value.ref 66 }, { hash := PyData.keyHash P (Str.ofString "INITIAL_PACKETS"), key := Value.str (Str.ofString "INITIAL_PACKETS") 277, val := Value.int 10 276 }, { hash := PyData.keyHash P (Str.ofString "INITIAL_OCTETS"), key := Value.str (Str.ofString "INITIAL_OCTETS") 279, val := Value.int 14720 278 }, { hash := PyData.keyHash P (Str.ofString "LEAST_PACKETS"), key := Value.str (Str.ofString "LEAST_PACKETS") 281, val := Value.int 2 280 }, { hash := PyData.keyHash P (Str.ofString "LOSS_TOP"), key := Value.str (Str.ofString "LOSS_TOP") 283, val := Value.int 1 282 }, { hash := PyData.keyHash P (Str.ofString "LOSS_BOTTOM"), key := Value.str (Str.ofString "LOSS_BOTTOM") 285, val := Value.int 2 284 }, { hash := PyData.keyHash P (Str.ofString "initial_window"), key := Value.str (Str.ofString "initial_window") 292, val := Value.ref 77 }, { hash := PyData.keyHash P (Str.ofString "least_window"), key := Value.str (Str.ofString "least_window") 299, val := Value.ref 84 }] 20 }
noncomputable def v12p12 (P : Params) : Obj := { cls := Value.none, data := Data.fields #[Value.int 1 0, Value.int 0 0, Value.ref 20, Value.int 7 0, Value.int 0 0, Value.ref 27, Value.int 44 0, Value.int 0 0, Value.ref 76, Value.int 46 0, Value.int 0 0, Value.ref 83] }
noncomputable def v3p13 (P : Params) : Obj := { cls := Value.type "dict", data := Data.dict #[{ hash := PyData.keyHash P (Str.ofString "__name__"), key := Value.str (Str.ofString "__name__") 165, val := Value.str (Str.ofString "quic.newreno") 274 }, { hash := PyData.keyHash P (Str.ofString "__doc__"), key := Value.str (Str.ofString "__doc__") 166, val := Value.none }, { hash := PyData.keyHash P (Str.ofString "__package__"), key := Value.str (Str.ofString "__package__") 167, val := Value.none }, { hash := PyData.keyHash P (Str.ofString "__loader__"), key := Value.str (Str.ofString "__loader__") 168, val := Value.builtin "__main__.__loader__#opaque" }, { hash := PyData.keyHash P (Str.ofString "__spec__"), key := Value.str (Str.ofString "__spec__") 169, val := Value.none }, { hash := PyData.keyHash P (Str.ofString "__annotations__"), key := Value.str (Str.ofString "__annotations__") 170, val := Value.ref 6 }, { hash := PyData.keyHash P (Str.ofString "__builtins__"), key := Value.str (Str.ofString "__builtins__") 171, val := Value.ref 4 }, { hash := PyData.keyHash P (Str.ofString "__file__"), key := Value.str (Str.ofString "__file__") 173, val := Value.str (Str.ofString "/claim/cut.py") 172 }, { hash := PyData.keyHash P (Str.ofString "__cached__"), key := Value.str (Str.ofString "__cached__") 174, val := Value.none }, { hash := PyData.keyHash P (Str.ofString "_wall"), key := Value.str (Str.ofString "_wall") 193, val := Value.ref 21 }, { hash := PyData.keyHash P (Str.ofString "RATE_TOP"), key := Value.str (Str.ofString "RATE_TOP") 197, val := Value.int 5 196 }, { hash := PyData.keyHash P (Str.ofString "RATE_BOTTOM"), key := Value.str (Str.ofString "RATE_BOTTOM") 199, val := Value.int 4 198 }, { hash := PyData.keyHash P (Str.ofString "Pacer"), key := Value.str (Str.ofString "Pacer") 273, val := Value.ref 66 }, { hash := PyData.keyHash P (Str.ofString "INITIAL_PACKETS"), key := Value.str (Str.ofString "INITIAL_PACKETS") 277, val := Value.int 10 276 }, { hash := PyData.keyHash P (Str.ofString "INITIAL_OCTETS"), key := Value.str (Str.ofString "INITIAL_OCTETS") 279, val := Value.int 14720 278 }, { hash := PyData.keyHash P (Str.ofString "LEAST_PACKETS"), key := Value.str (Str.ofString "LEAST_PACKETS") 281, val := Value.int 2 280 }, { hash := PyData.keyHash P (Str.ofString "LOSS_TOP"), key := Value.str (Str.ofString "LOSS_TOP") 283, val := Value.int 1 282 }, { hash := PyData.keyHash P (Str.ofString "LOSS_BOTTOM"), key := Value.str (Str.ofString "LOSS_BOTTOM") 285, val := Value.int 2 284 }, { hash := PyData.keyHash P (Str.ofString "initial_window"), key := Value.str (Str.ofString "initial_window") 292, val := Value.ref 77 }, { hash := PyData.keyHash P (Str.ofString "least_window"), key := Value.str (Str.ofString "least_window") 299, val := Value.ref 84 }, { hash := PyData.keyHash P (Str.ofString "NewReno"), key := Value.str (Str.ofString "NewReno") 419, val := Value.ref 171 }] 21 }
noncomputable def v12p13 (P : Params) : Obj := { cls := Value.none, data := Data.fields #[Value.int 1 0, Value.int 0 0, Value.ref 20, Value.int 7 0, Value.int 0 0, Value.ref 27, Value.int 44 0, Value.int 0 0, Value.ref 76, Value.int 46 0, Value.int 0 0, Value.ref 83, Value.int 48 0, Value.int 0 0, Value.ref 90] }
noncomputable def v3p17 (P : Params) : Obj := { cls := Value.type "dict", data := Data.dict #[{ hash := PyData.keyHash P (Str.ofString "__name__"), key := Value.str (Str.ofString "__name__") 165, val := Value.str (Str.ofString "quic.rtt") 420 }, { hash := PyData.keyHash P (Str.ofString "__doc__"), key := Value.str (Str.ofString "__doc__") 166, val := Value.none }, { hash := PyData.keyHash P (Str.ofString "__package__"), key := Value.str (Str.ofString "__package__") 167, val := Value.none }, { hash := PyData.keyHash P (Str.ofString "__loader__"), key := Value.str (Str.ofString "__loader__") 168, val := Value.builtin "__main__.__loader__#opaque" }, { hash := PyData.keyHash P (Str.ofString "__spec__"), key := Value.str (Str.ofString "__spec__") 169, val := Value.none }, { hash := PyData.keyHash P (Str.ofString "__annotations__"), key := Value.str (Str.ofString "__annotations__") 170, val := Value.ref 6 }, { hash := PyData.keyHash P (Str.ofString "__builtins__"), key := Value.str (Str.ofString "__builtins__") 171, val := Value.ref 4 }, { hash := PyData.keyHash P (Str.ofString "__file__"), key := Value.str (Str.ofString "__file__") 173, val := Value.str (Str.ofString "/claim/cut.py") 172 }, { hash := PyData.keyHash P (Str.ofString "__cached__"), key := Value.str (Str.ofString "__cached__") 174, val := Value.none }, { hash := PyData.keyHash P (Str.ofString "_wall"), key := Value.str (Str.ofString "_wall") 193, val := Value.ref 21 }, { hash := PyData.keyHash P (Str.ofString "RATE_TOP"), key := Value.str (Str.ofString "RATE_TOP") 197, val := Value.int 5 196 }, { hash := PyData.keyHash P (Str.ofString "RATE_BOTTOM"), key := Value.str (Str.ofString "RATE_BOTTOM") 199, val := Value.int 4 198 }, { hash := PyData.keyHash P (Str.ofString "Pacer"), key := Value.str (Str.ofString "Pacer") 273, val := Value.ref 66 }, { hash := PyData.keyHash P (Str.ofString "INITIAL_PACKETS"), key := Value.str (Str.ofString "INITIAL_PACKETS") 277, val := Value.int 10 276 }, { hash := PyData.keyHash P (Str.ofString "INITIAL_OCTETS"), key := Value.str (Str.ofString "INITIAL_OCTETS") 279, val := Value.int 14720 278 }, { hash := PyData.keyHash P (Str.ofString "LEAST_PACKETS"), key := Value.str (Str.ofString "LEAST_PACKETS") 281, val := Value.int 2 280 }, { hash := PyData.keyHash P (Str.ofString "LOSS_TOP"), key := Value.str (Str.ofString "LOSS_TOP") 283, val := Value.int 1 282 }, { hash := PyData.keyHash P (Str.ofString "LOSS_BOTTOM"), key := Value.str (Str.ofString "LOSS_BOTTOM") 285, val := Value.int 2 284 }, { hash := PyData.keyHash P (Str.ofString "initial_window"), key := Value.str (Str.ofString "initial_window") 292, val := Value.ref 77 }, { hash := PyData.keyHash P (Str.ofString "least_window"), key := Value.str (Str.ofString "least_window") 299, val := Value.ref 84 }, { hash := PyData.keyHash P (Str.ofString "NewReno"), key := Value.str (Str.ofString "NewReno") 419, val := Value.ref 171 }, { hash := PyData.keyHash P (Str.ofString "INITIAL_RTT"), key := Value.str (Str.ofString "INITIAL_RTT") 423, val := Value.int 333000 422 }, { hash := PyData.keyHash P (Str.ofString "without_delay"), key := Value.str (Str.ofString "without_delay") 432, val := Value.ref 182 }, { hash := PyData.keyHash P (Str.ofString "Rtt"), key := Value.str (Str.ofString "Rtt") 507, val := Value.ref 235 }] 24 }
noncomputable def v12p17 (P : Params) : Obj := { cls := Value.none, data := Data.fields #[Value.int 1 0, Value.int 0 0, Value.ref 20, Value.int 7 0, Value.int 0 0, Value.ref 27, Value.int 44 0, Value.int 0 0, Value.ref 76, Value.int 46 0, Value.int 0 0, Value.ref 83, Value.int 48 0, Value.int 0 0, Value.ref 90, Value.int 103 0, Value.int 0 0, Value.ref 181, Value.int 105 0, Value.int 0 0, Value.ref 188] }
noncomputable def v3fin (P : Params) : Obj := { cls := Value.type "dict", data := Data.dict #[{ hash := PyData.keyHash P (Str.ofString "__name__"), key := Value.str (Str.ofString "__name__") 165, val := Value.str (Str.ofString "law_sj0111_01") 508 }, { hash := PyData.keyHash P (Str.ofString "__doc__"), key := Value.str (Str.ofString "__doc__") 166, val := Value.none }, { hash := PyData.keyHash P (Str.ofString "__package__"), key := Value.str (Str.ofString "__package__") 167, val := Value.none }, { hash := PyData.keyHash P (Str.ofString "__loader__"), key := Value.str (Str.ofString "__loader__") 168, val := Value.builtin "__main__.__loader__#opaque" }, { hash := PyData.keyHash P (Str.ofString "__spec__"), key := Value.str (Str.ofString "__spec__") 169, val := Value.none }, { hash := PyData.keyHash P (Str.ofString "__annotations__"), key := Value.str (Str.ofString "__annotations__") 170, val := Value.ref 6 }, { hash := PyData.keyHash P (Str.ofString "__builtins__"), key := Value.str (Str.ofString "__builtins__") 171, val := Value.ref 4 }, { hash := PyData.keyHash P (Str.ofString "__file__"), key := Value.str (Str.ofString "__file__") 173, val := Value.str (Str.ofString "/claim/cut.py") 172 }, { hash := PyData.keyHash P (Str.ofString "__cached__"), key := Value.str (Str.ofString "__cached__") 174, val := Value.none }, { hash := PyData.keyHash P (Str.ofString "_wall"), key := Value.str (Str.ofString "_wall") 193, val := Value.ref 21 }, { hash := PyData.keyHash P (Str.ofString "RATE_TOP"), key := Value.str (Str.ofString "RATE_TOP") 197, val := Value.int 5 196 }, { hash := PyData.keyHash P (Str.ofString "RATE_BOTTOM"), key := Value.str (Str.ofString "RATE_BOTTOM") 199, val := Value.int 4 198 }, { hash := PyData.keyHash P (Str.ofString "Pacer"), key := Value.str (Str.ofString "Pacer") 273, val := Value.ref 66 }, { hash := PyData.keyHash P (Str.ofString "INITIAL_PACKETS"), key := Value.str (Str.ofString "INITIAL_PACKETS") 277, val := Value.int 10 276 }, { hash := PyData.keyHash P (Str.ofString "INITIAL_OCTETS"), key := Value.str (Str.ofString "INITIAL_OCTETS") 279, val := Value.int 14720 278 }, { hash := PyData.keyHash P (Str.ofString "LEAST_PACKETS"), key := Value.str (Str.ofString "LEAST_PACKETS") 281, val := Value.int 2 280 }, { hash := PyData.keyHash P (Str.ofString "LOSS_TOP"), key := Value.str (Str.ofString "LOSS_TOP") 283, val := Value.int 1 282 }, { hash := PyData.keyHash P (Str.ofString "LOSS_BOTTOM"), key := Value.str (Str.ofString "LOSS_BOTTOM") 285, val := Value.int 2 284 }, { hash := PyData.keyHash P (Str.ofString "initial_window"), key := Value.str (Str.ofString "initial_window") 292, val := Value.ref 77 }, { hash := PyData.keyHash P (Str.ofString "least_window"), key := Value.str (Str.ofString "least_window") 299, val := Value.ref 84 }, { hash := PyData.keyHash P (Str.ofString "NewReno"), key := Value.str (Str.ofString "NewReno") 419, val := Value.ref 171 }, { hash := PyData.keyHash P (Str.ofString "INITIAL_RTT"), key := Value.str (Str.ofString "INITIAL_RTT") 423, val := Value.int 333000 422 }, { hash := PyData.keyHash P (Str.ofString "without_delay"), key := Value.str (Str.ofString "without_delay") 432, val := Value.ref 182 }, { hash := PyData.keyHash P (Str.ofString "Rtt"), key := Value.str (Str.ofString "Rtt") 507, val := Value.ref 235 }, { hash := PyData.keyHash P (Str.ofString "_law_drawn"), key := Value.str (Str.ofString "_law_drawn") 517, val := Value.ref 246 }, { hash := PyData.keyHash P (Str.ofString "_law_left"), key := Value.str (Str.ofString "_law_left") 525, val := Value.ref 253 }, { hash := PyData.keyHash P (Str.ofString "_law_in_order"), key := Value.str (Str.ofString "_law_in_order") 537, val := Value.ref 260 }, { hash := PyData.keyHash P (Str.ofString "_law_waits"), key := Value.str (Str.ofString "_law_waits") 543, val := Value.ref 265 }, { hash := PyData.keyHash P (Str.ofString "law"), key := Value.str (Str.ofString "law") 566, val := Value.ref 272 }] 29 }
noncomputable def v12fin (P : Params) : Obj := { cls := Value.none, data := Data.fields #[Value.int 1 0, Value.int 0 0, Value.ref 20, Value.int 7 0, Value.int 0 0, Value.ref 27, Value.int 44 0, Value.int 0 0, Value.ref 76, Value.int 46 0, Value.int 0 0, Value.ref 83, Value.int 48 0, Value.int 0 0, Value.ref 90, Value.int 103 0, Value.int 0 0, Value.ref 181, Value.int 105 0, Value.int 0 0, Value.ref 188, Value.int 143 0, Value.int 0 0, Value.ref 245, Value.int 148 0, Value.int 0 0, Value.ref 252, Value.int 150 0, Value.int 0 0, Value.ref 259, Value.int 155 0, Value.int 0 0, Value.ref 264, Value.int 166 0, Value.int 0 0, Value.ref 271] }
noncomputable def tr_block (P : Params) : BT := (.node (boot_o_0 P) (.node (boot_o_1 P) (.node (v3block P) (.node (boot_o_7 P) .nil .nil) (.node ({ cls := Value.type "tuple", data := Data.seq #[] } : Obj) .nil .nil)) (.node (boot_o_5 P) (.node (boot_o_9 P) .nil .nil) (.node (g13 P) .nil .nil))) (.node (kO (hd.heap_39 P) 0) (.node (boot_o_4 P) (.node (boot_o_8 P) .nil .nil) (.node (v12block P) .nil .nil)) (.node (boot_o_6 P) (.node (boot_o_10 P) .nil .nil) (.node (g14 P) .nil .nil))))
noncomputable def tr_p4 (P : Params) : BT := (.node (boot_o_0 P) (.node (boot_o_1 P) (.node (v3p4 P) (.node (boot_o_7 P) (.node (kO (hd.heap_39 P) 2) (.node (kO (hd.heap_39 P) 8) (.node (kO (hd.heap_39 P) 31) .nil .nil) .nil) (.node (mkG (subS (nthS progBody 4) 2) (Str.ofString "Pacer.may_send")) .nil .nil)) (.node (g23 P) (.node (kO (hd.heap_39 P) 14) .nil .nil) (.node (kO (hd.heap_39 P) 25) .nil .nil))) (.node ({ cls := Value.type "tuple", data := Data.seq #[] } : Obj) (.node (mkG (nthS progBody 0) (Str.ofString "_wall")) (.node (kO (hd.heap_39 P) 11) (.node (kO (hd.heap_39 P) 35) .nil .nil) .nil) (.node ({ cls := Value.none, data := Data.fields #[] } : Obj) .nil .nil)) (.node (g27 P) (.node (kO (hd.heap_39 P) 17) .nil .nil) (.node (kO (hd.heap_39 P) 28) .nil .nil)))) (.node (boot_o_5 P) (.node (boot_o_9 P) (.node (kO (hd.heap_39 P) 3) (.node (mkG (subS (nthS progBody 4) 0) (Str.ofString "Pacer.__init__")) (.node (kO (hd.heap_39 P) 33) .nil .nil) .nil) (.node (kO (hd.heap_39 P) 21) .nil .nil)) (.node ({ cls := Value.type "tuple", data := Data.seq #[] } : Obj) (.node (kO (hd.heap_39 P) 15) .nil .nil) (.node (kO (hd.heap_39 P) 27) .nil .nil))) (.node (g13 P) (.node (kO (hd.heap_39 P) 6) (.node ({ cls := Value.none, data := Data.fields #[] } : Obj) (.node (g69 P) .nil .nil) .nil) (.node (kO (hd.heap_39 P) 24) .nil .nil)) (.node (kO (hd.heap_39 P) 7) (.node (kO (hd.heap_39 P) 18) .nil .nil) (.node (mkG (subS (nthS progBody 4) 4) (Str.ofString "Pacer.wait_for")) .nil .nil))))) (.node (kO (hd.heap_39 P) 0) (.node (boot_o_4 P) (.node (boot_o_8 P) (.node ({ cls := Value.none, data := Data.fields #[] } : Obj) (.node (kO (hd.heap_39 P) 9) (.node (kO (hd.heap_39 P) 32) .nil .nil) .nil) (.node (kO (hd.heap_39 P) 20) .nil .nil)) (.node (g24 P) (.node (mkG (subS (nthS progBody 4) 1) (Str.ofString "Pacer.earn")) .nil .nil) (.node (kO (hd.heap_39 P) 26) .nil .nil))) (.node (v12p4 P) (.node (kO (hd.heap_39 P) 5) (.node (kO (hd.heap_39 P) 12) (.node (kO (hd.heap_39 P) 36) .nil .nil) .nil) (.node (kO (hd.heap_39 P) 23) .nil .nil)) (.node (g28 P) (.node ({ cls := Value.none, data := Data.fields #[] } : Obj) .nil .nil) (.node (kO (hd.heap_39 P) 29) .nil .nil)))) (.node (boot_o_6 P) (.node (boot_o_10 P) (.node (kO (hd.heap_39 P) 4) (.node (kO (hd.heap_39 P) 10) (.node (kO (hd.heap_39 P) 34) .nil .nil) .nil) (.node (kO (hd.heap_39 P) 22) .nil .nil)) (.node (g26 P) (.node (kO (hd.heap_39 P) 16) .nil .nil) (.node ({ cls := Value.none, data := Data.fields #[] } : Obj) .nil .nil))) (.node (g14 P) (.node ({ cls := Value.type "tuple", data := Data.seq #[] } : Obj) (.node (kO (hd.heap_39 P) 13) (.node (g70 P) .nil .nil) .nil) (.node (mkG (subS (nthS progBody 4) 3) (Str.ofString "Pacer.on_sent")) .nil .nil)) (.node ({ cls := Value.none, data := Data.fields #[] } : Obj) (.node (kO (hd.heap_39 P) 19) .nil .nil) (.node (kO (hd.heap_39 P) 30) .nil .nil))))))
noncomputable def tr_p12 (P : Params) : BT := (.node (boot_o_0 P) (.node (boot_o_1 P) (.node (v3p12 P) (.node (boot_o_7 P) (.node (kO (hd.heap_39 P) 2) (.node (kO (hd.heap_39 P) 8) (.node (kO (hd.heap_39 P) 31) .nil .nil) .nil) (.node (mkG (subS (nthS progBody 4) 2) (Str.ofString "Pacer.may_send")) (.node ({ cls := Value.none, data := Data.fields #[] } : Obj) .nil .nil) .nil)) (.node (g23 P) (.node (kO (hd.heap_39 P) 14) (.node (kO (hd.heap_39 P) 37) .nil .nil) .nil) (.node (kO (hd.heap_39 P) 25) .nil .nil))) (.node ({ cls := Value.type "tuple", data := Data.seq #[] } : Obj) (.node (mkG (nthS progBody 0) (Str.ofString "_wall")) (.node (kO (hd.heap_39 P) 11) (.node (kO (hd.heap_39 P) 35) .nil .nil) .nil) (.node ({ cls := Value.none, data := Data.fields #[] } : Obj) (.node (kO (hd.heap_39 P) 45) .nil .nil) .nil)) (.node (g27 P) (.node (kO (hd.heap_39 P) 17) (.node (mkG (nthS progBody 11) (Str.ofString "initial_window")) .nil .nil) .nil) (.node (kO (hd.heap_39 P) 28) .nil .nil)))) (.node (boot_o_5 P) (.node (boot_o_9 P) (.node (kO (hd.heap_39 P) 3) (.node (mkG (subS (nthS progBody 4) 0) (Str.ofString "Pacer.__init__")) (.node (kO (hd.heap_39 P) 33) .nil .nil) .nil) (.node (kO (hd.heap_39 P) 21) (.node (kO (hd.heap_39 P) 44) .nil .nil) .nil)) (.node ({ cls := Value.type "tuple", data := Data.seq #[] } : Obj) (.node (kO (hd.heap_39 P) 15) (.node (kO (hd.heap_39 P) 38) .nil .nil) .nil) (.node (kO (hd.heap_39 P) 27) .nil .nil))) (.node (g13 P) (.node (kO (hd.heap_39 P) 6) (.node ({ cls := Value.none, data := Data.fields #[] } : Obj) (.node (g69 P) .nil .nil) .nil) (.node (kO (hd.heap_39 P) 24) .nil .nil)) (.node (kO (hd.heap_39 P) 7) (.node (kO (hd.heap_39 P) 18) (.node (kO (hd.heap_39 P) 41) .nil .nil) .nil) (.node (mkG (subS (nthS progBody 4) 4) (Str.ofString "Pacer.wait_for")) .nil .nil))))) (.node (kO (hd.heap_39 P) 0) (.node (boot_o_4 P) (.node (boot_o_8 P) (.node ({ cls := Value.none, data := Data.fields #[] } : Obj) (.node (kO (hd.heap_39 P) 9) (.node (kO (hd.heap_39 P) 32) .nil .nil) .nil) (.node (kO (hd.heap_39 P) 20) (.node (kO (hd.heap_39 P) 43) .nil .nil) .nil)) (.node (g24 P) (.node (mkG (subS (nthS progBody 4) 1) (Str.ofString "Pacer.earn")) (.node ({ cls := Value.none, data := Data.fields #[] } : Obj) .nil .nil) .nil) (.node (kO (hd.heap_39 P) 26) .nil .nil))) (.node (v12p12 P) (.node (kO (hd.heap_39 P) 5) (.node (kO (hd.heap_39 P) 12) (.node (kO (hd.heap_39 P) 36) .nil .nil) .nil) (.node (kO (hd.heap_39 P) 23) (.node (kO (hd.heap_39 P) 46) .nil .nil) .nil)) (.node (g28 P) (.node ({ cls := Value.none, data := Data.fields #[] } : Obj) (.node (kO (hd.heap_39 P) 40) .nil .nil) .nil) (.node (kO (hd.heap_39 P) 29) .nil .nil)))) (.node (boot_o_6 P) (.node (boot_o_10 P) (.node (kO (hd.heap_39 P) 4) (.node (kO (hd.heap_39 P) 10) (.node (kO (hd.heap_39 P) 34) .nil .nil) .nil) (.node (kO (hd.heap_39 P) 22) (.node (mkG (nthS progBody 12) (Str.ofString "least_window")) .nil .nil) .nil)) (.node (g26 P) (.node (kO (hd.heap_39 P) 16) (.node (kO (hd.heap_39 P) 39) .nil .nil) .nil) (.node ({ cls := Value.none, data := Data.fields #[] } : Obj) .nil .nil))) (.node (g14 P) (.node ({ cls := Value.type "tuple", data := Data.seq #[] } : Obj) (.node (kO (hd.heap_39 P) 13) (.node (g70 P) .nil .nil) .nil) (.node (mkG (subS (nthS progBody 4) 3) (Str.ofString "Pacer.on_sent")) .nil .nil)) (.node ({ cls := Value.none, data := Data.fields #[] } : Obj) (.node (kO (hd.heap_39 P) 19) (.node (kO (hd.heap_39 P) 42) .nil .nil) .nil) (.node (kO (hd.heap_39 P) 30) .nil .nil))))))
noncomputable def tr_p13 (P : Params) : BT := (.node (boot_o_0 P) (.node (boot_o_1 P) (.node (v3p13 P) (.node (boot_o_7 P) (.node (kO (hd.heap_39 P) 2) (.node (kO (hd.heap_39 P) 8) (.node (kO (hd.heap_39 P) 31) (.node (kO (hd.heap_39 P) 72) .nil .nil) .nil) (.node (kO (hd.heap_39 P) 49) (.node (mkG (subS (nthS progBody 13) 9) (Str.ofString "NewReno.on_lost")) .nil .nil) .nil)) (.node (mkG (subS (nthS progBody 4) 2) (Str.ofString "Pacer.may_send")) (.node ({ cls := Value.none, data := Data.fields #[] } : Obj) (.node (kO (hd.heap_39 P) 83) .nil .nil) .nil) (.node (kO (hd.heap_39 P) 60) (.node (g175 P) .nil .nil) .nil))) (.node (g23 P) (.node (kO (hd.heap_39 P) 14) (.node (kO (hd.heap_39 P) 37) (.node ({ cls := Value.none, data := Data.fields #[] } : Obj) .nil .nil) .nil) (.node (mkG (subS (nthS progBody 13) 1) (Str.ofString "NewReno.may_send")) (.node (kO (hd.heap_39 P) 100) .nil .nil) .nil)) (.node (kO (hd.heap_39 P) 25) (.node (g87 P) (.node (kO (hd.heap_39 P) 89) .nil .nil) .nil) (.node (kO (hd.heap_39 P) 66) .nil .nil)))) (.node ({ cls := Value.type "tuple", data := Data.seq #[] } : Obj) (.node (mkG (nthS progBody 0) (Str.ofString "_wall")) (.node (kO (hd.heap_39 P) 11) (.node (kO (hd.heap_39 P) 35) (.node (mkG (subS (nthS progBody 13) 5) (Str.ofString "NewReno.on_discarded")) .nil .nil) .nil) (.node (kO (hd.heap_39 P) 52) (.node ({ cls := Value.none, data := Data.fields #[] } : Obj) .nil .nil) .nil)) (.node ({ cls := Value.none, data := Data.fields #[] } : Obj) (.node (kO (hd.heap_39 P) 45) (.node (kO (hd.heap_39 P) 86) .nil .nil) .nil) (.node (kO (hd.heap_39 P) 63) .nil .nil))) (.node (g27 P) (.node (kO (hd.heap_39 P) 17) (.node (mkG (nthS progBody 11) (Str.ofString "initial_window")) (.node (kO (hd.heap_39 P) 80) .nil .nil) .nil) (.node ({ cls := Value.none, data := Data.fields #[] } : Obj) (.node (kO (hd.heap_39 P) 104) .nil .nil) .nil)) (.node (kO (hd.heap_39 P) 28) (.node (g91 P) (.node (kO (hd.heap_39 P) 92) .nil .nil) .nil) (.node (kO (hd.heap_39 P) 69) .nil .nil))))) (.node (boot_o_5 P) (.node (boot_o_9 P) (.node (kO (hd.heap_39 P) 3) (.node (mkG (subS (nthS progBody 4) 0) (Str.ofString "Pacer.__init__")) (.node (kO (hd.heap_39 P) 33) (.node (kO (hd.heap_39 P) 73) .nil .nil) .nil) (.node (kO (hd.heap_39 P) 50) (.node (kO (hd.heap_39 P) 96) .nil .nil) .nil)) (.node (kO (hd.heap_39 P) 21) (.node (kO (hd.heap_39 P) 44) (.node (mkG (subS (nthS progBody 13) 7) (Str.ofString "NewReno.widen")) .nil .nil) .nil) (.node (kO (hd.heap_39 P) 62) .nil .nil))) (.node ({ cls := Value.type "tuple", data := Data.seq #[] } : Obj) (.node (kO (hd.heap_39 P) 15) (.node (kO (hd.heap_39 P) 38) (.node (kO (hd.heap_39 P) 79) .nil .nil) .nil) (.node (kO (hd.heap_39 P) 56) (.node (kO (hd.heap_39 P) 102) .nil .nil) .nil)) (.node (kO (hd.heap_39 P) 27) (.node (g89 P) (.node (kO (hd.heap_39 P) 90) .nil .nil) .nil) (.node ({ cls := Value.none, data := Data.fields #[] } : Obj) .nil .nil)))) (.node (g13 P) (.node (kO (hd.heap_39 P) 6) (.node ({ cls := Value.none, data := Data.fields #[] } : Obj) (.node (g69 P) (.node (kO (hd.heap_39 P) 76) .nil .nil) .nil) (.node (kO (hd.heap_39 P) 53) (.node (kO (hd.heap_39 P) 99) .nil .nil) .nil)) (.node (kO (hd.heap_39 P) 24) (.node ({ cls := Value.type "tuple", data := Data.seq #[] } : Obj) (.node ({ cls := Value.none, data := Data.fields #[] } : Obj) .nil .nil) .nil) (.node (mkG (subS (nthS progBody 13) 3) (Str.ofString "NewReno.in_recovery")) .nil .nil))) (.node (kO (hd.heap_39 P) 7) (.node (kO (hd.heap_39 P) 18) (.node (kO (hd.heap_39 P) 41) (.node (kO (hd.heap_39 P) 82) .nil .nil) .nil) (.node (kO (hd.heap_39 P) 59) (.node (kO (hd.heap_39 P) 106) .nil .nil) .nil)) (.node (mkG (subS (nthS progBody 4) 4) (Str.ofString "Pacer.wait_for")) (.node ({ cls := Value.none, data := Data.fields #[] } : Obj) (.node (kO (hd.heap_39 P) 93) .nil .nil) .nil) (.node (kO (hd.heap_39 P) 70) .nil .nil)))))) (.node (kO (hd.heap_39 P) 0) (.node (boot_o_4 P) (.node (boot_o_8 P) (.node ({ cls := Value.none, data := Data.fields #[] } : Obj) (.node (kO (hd.heap_39 P) 9) (.node (kO (hd.heap_39 P) 32) (.node ({ cls := Value.none, data := Data.fields #[] } : Obj) .nil .nil) .nil) (.node (mkG (subS (nthS progBody 13) 0) (Str.ofString "NewReno.__init__")) (.node (kO (hd.heap_39 P) 95) .nil .nil) .nil)) (.node (kO (hd.heap_39 P) 20) (.node (kO (hd.heap_39 P) 43) (.node (kO (hd.heap_39 P) 84) .nil .nil) .nil) (.node (kO (hd.heap_39 P) 61) .nil .nil))) (.node (g24 P) (.node (mkG (subS (nthS progBody 4) 1) (Str.ofString "Pacer.earn")) (.node ({ cls := Value.none, data := Data.fields #[] } : Obj) (.node (kO (hd.heap_39 P) 78) .nil .nil) .nil) (.node (kO (hd.heap_39 P) 55) (.node (kO (hd.heap_39 P) 101) .nil .nil) .nil)) (.node (kO (hd.heap_39 P) 26) (.node ({ cls := Value.type "tuple", data := Data.seq #[] } : Obj) (.node (mkG (subS (nthS progBody 13) 8) (Str.ofString "NewReno.on_congestion")) .nil .nil) .nil) (.node (kO (hd.heap_39 P) 67) .nil .nil)))) (.node (v12p13 P) (.node (kO (hd.heap_39 P) 5) (.node (kO (hd.heap_39 P) 12) (.node (kO (hd.heap_39 P) 36) (.node (kO (hd.heap_39 P) 75) .nil .nil) .nil) (.node ({ cls := Value.none, data := Data.fields #[] } : Obj) (.node (kO (hd.heap_39 P) 98) .nil .nil) .nil)) (.node (kO (hd.heap_39 P) 23) (.node (kO (hd.heap_39 P) 46) (.node (kO (hd.heap_39 P) 87) .nil .nil) .nil) (.node (kO (hd.heap_39 P) 64) .nil .nil))) (.node (g28 P) (.node ({ cls := Value.none, data := Data.fields #[] } : Obj) (.node (kO (hd.heap_39 P) 40) (.node (kO (hd.heap_39 P) 81) .nil .nil) .nil) (.node (kO (hd.heap_39 P) 58) (.node (kO (hd.heap_39 P) 105) .nil .nil) .nil)) (.node (kO (hd.heap_39 P) 29) (.node (kO (hd.heap_39 P) 47) (.node ({ cls := Value.none, data := Data.fields #[] } : Obj) .nil .nil) .nil) (.node (mkG (subS (nthS progBody 13) 4) (Str.ofString "NewReno.on_sent")) .nil .nil))))) (.node (boot_o_6 P) (.node (boot_o_10 P) (.node (kO (hd.heap_39 P) 4) (.node (kO (hd.heap_39 P) 10) (.node (kO (hd.heap_39 P) 34) (.node (kO (hd.heap_39 P) 74) .nil .nil) .nil) (.node (kO (hd.heap_39 P) 51) (.node (kO (hd.heap_39 P) 97) .nil .nil) .nil)) (.node (kO (hd.heap_39 P) 22) (.node (mkG (nthS progBody 12) (Str.ofString "least_window")) (.node (kO (hd.heap_39 P) 85) .nil .nil) .nil) (.node ({ cls := Value.none, data := Data.fields #[] } : Obj) .nil .nil))) (.node (g26 P) (.node (kO (hd.heap_39 P) 16) (.node (kO (hd.heap_39 P) 39) (.node (mkG (subS (nthS progBody 13) 6) (Str.ofString "NewReno.on_acked")) .nil .nil) .nil) (.node (kO (hd.heap_39 P) 57) (.node (kO (hd.heap_39 P) 103) .nil .nil) .nil)) (.node ({ cls := Value.none, data := Data.fields #[] } : Obj) (.node (g90 P) (.node (kO (hd.heap_39 P) 91) .nil .nil) .nil) (.node (kO (hd.heap_39 P) 68) .nil .nil)))) (.node (g14 P) (.node ({ cls := Value.type "tuple", data := Data.seq #[] } : Obj) (.node (kO (hd.heap_39 P) 13) (.node (g70 P) (.node (kO (hd.heap_39 P) 77) .nil .nil) .nil) (.node (kO (hd.heap_39 P) 54) (.node (mkG (subS (nthS progBody 13) 10) (Str.ofString "NewReno.on_persistent")) .nil .nil) .nil)) (.node (mkG (subS (nthS progBody 4) 3) (Str.ofString "Pacer.on_sent")) (.node (g86 P) (.node (kO (hd.heap_39 P) 88) .nil .nil) .nil) (.node (kO (hd.heap_39 P) 65) .nil .nil))) (.node ({ cls := Value.none, data := Data.fields #[] } : Obj) (.node (kO (hd.heap_39 P) 19) (.node (kO (hd.heap_39 P) 42) (.node ({ cls := Value.none, data := Data.fields #[] } : Obj) .nil .nil) .nil) (.node (mkG (subS (nthS progBody 13) 2) (Str.ofString "NewReno.is_slow_start")) (.node (g174 P) .nil .nil) .nil)) (.node (kO (hd.heap_39 P) 30) (.node (kO (hd.heap_39 P) 48) (.node (kO (hd.heap_39 P) 94) .nil .nil) .nil) (.node (kO (hd.heap_39 P) 71) .nil .nil)))))))
noncomputable def tr_p17 (P : Params) : BT := (.node (boot_o_0 P) (.node (boot_o_1 P) (.node (v3p17 P) (.node (boot_o_7 P) (.node (kO (hd.heap_39 P) 2) (.node (kO (hd.heap_39 P) 8) (.node (kO (hd.heap_39 P) 31) (.node (kO (hd.heap_39 P) 72) .nil .nil) (.node (kO (hd.heap_39 P) 113) .nil .nil)) (.node (kO (hd.heap_39 P) 49) (.node (mkG (subS (nthS progBody 13) 9) (Str.ofString "NewReno.on_lost")) .nil .nil) (.node (mkG (subS (nthS progBody 17) 4) (Str.ofString "Rtt.begin_least")) .nil .nil))) (.node (mkG (subS (nthS progBody 4) 2) (Str.ofString "Pacer.may_send")) (.node ({ cls := Value.none, data := Data.fields #[] } : Obj) (.node (kO (hd.heap_39 P) 83) .nil .nil) (.node (kO (hd.heap_39 P) 124) .nil .nil)) (.node (kO (hd.heap_39 P) 60) (.node (g175 P) .nil .nil) (.node (g239 P) .nil .nil)))) (.node (g23 P) (.node (kO (hd.heap_39 P) 14) (.node (kO (hd.heap_39 P) 37) (.node ({ cls := Value.none, data := Data.fields #[] } : Obj) .nil .nil) (.node ({ cls := Value.none, data := Data.fields #[] } : Obj) .nil .nil)) (.node (mkG (subS (nthS progBody 13) 1) (Str.ofString "NewReno.may_send")) (.node (kO (hd.heap_39 P) 100) .nil .nil) (.node (kO (hd.heap_39 P) 141) .nil .nil))) (.node (kO (hd.heap_39 P) 25) (.node (g87 P) (.node (kO (hd.heap_39 P) 89) .nil .nil) (.node (kO (hd.heap_39 P) 130) .nil .nil)) (.node (kO (hd.heap_39 P) 66) (.node ({ cls := Value.type "tuple", data := Data.seq #[] } : Obj) .nil .nil) .nil)))) (.node ({ cls := Value.type "tuple", data := Data.seq #[] } : Obj) (.node (mkG (nthS progBody 0) (Str.ofString "_wall")) (.node (kO (hd.heap_39 P) 11) (.node (kO (hd.heap_39 P) 35) (.node (mkG (subS (nthS progBody 13) 5) (Str.ofString "NewReno.on_discarded")) .nil .nil) (.node (mkG (subS (nthS progBody 17) 0) (Str.ofString "Rtt.__init__")) .nil .nil)) (.node (kO (hd.heap_39 P) 52) (.node ({ cls := Value.none, data := Data.fields #[] } : Obj) .nil .nil) (.node ({ cls := Value.none, data := Data.fields #[] } : Obj) .nil .nil))) (.node ({ cls := Value.none, data := Data.fields #[] } : Obj) (.node (kO (hd.heap_39 P) 45) (.node (kO (hd.heap_39 P) 86) .nil .nil) (.node (kO (hd.heap_39 P) 127) .nil .nil)) (.node (kO (hd.heap_39 P) 63) (.node (kO (hd.heap_39 P) 109) .nil .nil) .nil))) (.node (g27 P) (.node (kO (hd.heap_39 P) 17) (.node (mkG (nthS progBody 11) (Str.ofString "initial_window")) (.node (kO (hd.heap_39 P) 80) .nil .nil) (.node (kO (hd.heap_39 P) 121) .nil .nil)) (.node ({ cls := Value.none, data := Data.fields #[] } : Obj) (.node (kO (hd.heap_39 P) 104) .nil .nil) (.node (kO (hd.heap_39 P) 145) .nil .nil))) (.node (kO (hd.heap_39 P) 28) (.node (g91 P) (.node (kO (hd.heap_39 P) 92) .nil .nil) (.node (kO (hd.heap_39 P) 133) .nil .nil)) (.node (kO (hd.heap_39 P) 69) (.node (g187 P) .nil .nil) .nil))))) (.node (boot_o_5 P) (.node (boot_o_9 P) (.node (kO (hd.heap_39 P) 3) (.node (mkG (subS (nthS progBody 4) 0) (Str.ofString "Pacer.__init__")) (.node (kO (hd.heap_39 P) 33) (.node (kO (hd.heap_39 P) 73) .nil .nil) (.node (kO (hd.heap_39 P) 114) .nil .nil)) (.node (kO (hd.heap_39 P) 50) (.node (kO (hd.heap_39 P) 96) .nil .nil) (.node (kO (hd.heap_39 P) 137) .nil .nil))) (.node (kO (hd.heap_39 P) 21) (.node (kO (hd.heap_39 P) 44) (.node (mkG (subS (nthS progBody 13) 7) (Str.ofString "NewReno.widen")) .nil .nil) (.node (mkG (subS (nthS progBody 17) 2) (Str.ofString "Rtt.variance")) .nil .nil)) (.node (kO (hd.heap_39 P) 62) (.node ({ cls := Value.none, data := Data.fields #[] } : Obj) .nil .nil) .nil))) (.node ({ cls := Value.type "tuple", data := Data.seq #[] } : Obj) (.node (kO (hd.heap_39 P) 15) (.node (kO (hd.heap_39 P) 38) (.node (kO (hd.heap_39 P) 79) .nil .nil) (.node (kO (hd.heap_39 P) 120) .nil .nil)) (.node (kO (hd.heap_39 P) 56) (.node (kO (hd.heap_39 P) 102) .nil .nil) (.node (kO (hd.heap_39 P) 143) .nil .nil))) (.node (kO (hd.heap_39 P) 27) (.node (g89 P) (.node (kO (hd.heap_39 P) 90) .nil .nil) (.node (kO (hd.heap_39 P) 131) .nil .nil)) (.node ({ cls := Value.none, data := Data.fields #[] } : Obj) (.node (g185 P) .nil .nil) .nil)))) (.node (g13 P) (.node (kO (hd.heap_39 P) 6) (.node ({ cls := Value.none, data := Data.fields #[] } : Obj) (.node (g69 P) (.node (kO (hd.heap_39 P) 76) .nil .nil) (.node (kO (hd.heap_39 P) 117) .nil .nil)) (.node (kO (hd.heap_39 P) 53) (.node (kO (hd.heap_39 P) 99) .nil .nil) (.node (kO (hd.heap_39 P) 140) .nil .nil))) (.node (kO (hd.heap_39 P) 24) (.node ({ cls := Value.type "tuple", data := Data.seq #[] } : Obj) (.node ({ cls := Value.none, data := Data.fields #[] } : Obj) .nil .nil) (.node ({ cls := Value.none, data := Data.fields #[] } : Obj) .nil .nil)) (.node (mkG (subS (nthS progBody 13) 3) (Str.ofString "NewReno.in_recovery")) (.node (kO (hd.heap_39 P) 110) .nil .nil) .nil))) (.node (kO (hd.heap_39 P) 7) (.node (kO (hd.heap_39 P) 18) (.node (kO (hd.heap_39 P) 41) (.node (kO (hd.heap_39 P) 82) .nil .nil) (.node (kO (hd.heap_39 P) 123) .nil .nil)) (.node (kO (hd.heap_39 P) 59) (.node (kO (hd.heap_39 P) 106) .nil .nil) (.node (kO (hd.heap_39 P) 147) .nil .nil))) (.node (mkG (subS (nthS progBody 4) 4) (Str.ofString "Pacer.wait_for")) (.node ({ cls := Value.none, data := Data.fields #[] } : Obj) (.node (kO (hd.heap_39 P) 93) .nil .nil) (.node (kO (hd.heap_39 P) 134) .nil .nil)) (.node (kO (hd.heap_39 P) 70) (.node (g189 P) .nil .nil) .nil)))))) (.node (kO (hd.heap_39 P) 0) (.node (boot_o_4 P) (.node (boot_o_8 P) (.node ({ cls := Value.none, data := Data.fields #[] } : Obj) (.node (kO (hd.heap_39 P) 9) (.node (kO (hd.heap_39 P) 32) (.node ({ cls := Value.none, data := Data.fields #[] } : Obj) .nil .nil) (.node ({ cls := Value.none, data := Data.fields #[] } : Obj) .nil .nil)) (.node (mkG (subS (nthS progBody 13) 0) (Str.ofString "NewReno.__init__")) (.node (kO (hd.heap_39 P) 95) .nil .nil) (.node (kO (hd.heap_39 P) 136) .nil .nil))) (.node (kO (hd.heap_39 P) 20) (.node (kO (hd.heap_39 P) 43) (.node (kO (hd.heap_39 P) 84) .nil .nil) (.node (kO (hd.heap_39 P) 125) .nil .nil)) (.node (kO (hd.heap_39 P) 61) (.node (kO (hd.heap_39 P) 107) .nil .nil) .nil))) (.node (g24 P) (.node (mkG (subS (nthS progBody 4) 1) (Str.ofString "Pacer.earn")) (.node ({ cls := Value.none, data := Data.fields #[] } : Obj) (.node (kO (hd.heap_39 P) 78) .nil .nil) (.node (kO (hd.heap_39 P) 119) .nil .nil)) (.node (kO (hd.heap_39 P) 55) (.node (kO (hd.heap_39 P) 101) .nil .nil) (.node (kO (hd.heap_39 P) 142) .nil .nil))) (.node (kO (hd.heap_39 P) 26) (.node ({ cls := Value.type "tuple", data := Data.seq #[] } : Obj) (.node (mkG (subS (nthS progBody 13) 8) (Str.ofString "NewReno.on_congestion")) .nil .nil) (.node (mkG (subS (nthS progBody 17) 3) (Str.ofString "Rtt.sample")) .nil .nil)) (.node (kO (hd.heap_39 P) 67) (.node (g184 P) .nil .nil) .nil)))) (.node (v12p17 P) (.node (kO (hd.heap_39 P) 5) (.node (kO (hd.heap_39 P) 12) (.node (kO (hd.heap_39 P) 36) (.node (kO (hd.heap_39 P) 75) .nil .nil) (.node (kO (hd.heap_39 P) 116) .nil .nil)) (.node ({ cls := Value.none, data := Data.fields #[] } : Obj) (.node (kO (hd.heap_39 P) 98) .nil .nil) (.node (kO (hd.heap_39 P) 139) .nil .nil))) (.node (kO (hd.heap_39 P) 23) (.node (kO (hd.heap_39 P) 46) (.node (kO (hd.heap_39 P) 87) .nil .nil) (.node (kO (hd.heap_39 P) 128) .nil .nil)) (.node (kO (hd.heap_39 P) 64) (.node (mkG (nthS progBody 16) (Str.ofString "without_delay")) .nil .nil) .nil))) (.node (g28 P) (.node ({ cls := Value.none, data := Data.fields #[] } : Obj) (.node (kO (hd.heap_39 P) 40) (.node (kO (hd.heap_39 P) 81) .nil .nil) (.node (kO (hd.heap_39 P) 122) .nil .nil)) (.node (kO (hd.heap_39 P) 58) (.node (kO (hd.heap_39 P) 105) .nil .nil) (.node (kO (hd.heap_39 P) 146) .nil .nil))) (.node (kO (hd.heap_39 P) 29) (.node (kO (hd.heap_39 P) 47) (.node ({ cls := Value.none, data := Data.fields #[] } : Obj) .nil .nil) (.node ({ cls := Value.none, data := Data.fields #[] } : Obj) .nil .nil)) (.node (mkG (subS (nthS progBody 13) 4) (Str.ofString "NewReno.on_sent")) (.node (g188 P) .nil .nil) .nil))))) (.node (boot_o_6 P) (.node (boot_o_10 P) (.node (kO (hd.heap_39 P) 4) (.node (kO (hd.heap_39 P) 10) (.node (kO (hd.heap_39 P) 34) (.node (kO (hd.heap_39 P) 74) .nil .nil) (.node (kO (hd.heap_39 P) 115) .nil .nil)) (.node (kO (hd.heap_39 P) 51) (.node (kO (hd.heap_39 P) 97) .nil .nil) (.node (kO (hd.heap_39 P) 138) .nil .nil))) (.node (kO (hd.heap_39 P) 22) (.node (mkG (nthS progBody 12) (Str.ofString "least_window")) (.node (kO (hd.heap_39 P) 85) .nil .nil) (.node (kO (hd.heap_39 P) 126) .nil .nil)) (.node ({ cls := Value.none, data := Data.fields #[] } : Obj) (.node (kO (hd.heap_39 P) 108) .nil .nil) .nil))) (.node (g26 P) (.node (kO (hd.heap_39 P) 16) (.node (kO (hd.heap_39 P) 39) (.node (mkG (subS (nthS progBody 13) 6) (Str.ofString "NewReno.on_acked")) .nil .nil) (.node (mkG (subS (nthS progBody 17) 1) (Str.ofString "Rtt.smoothed")) .nil .nil)) (.node (kO (hd.heap_39 P) 57) (.node (kO (hd.heap_39 P) 103) .nil .nil) (.node (kO (hd.heap_39 P) 144) .nil .nil))) (.node ({ cls := Value.none, data := Data.fields #[] } : Obj) (.node (g90 P) (.node (kO (hd.heap_39 P) 91) .nil .nil) (.node (kO (hd.heap_39 P) 132) .nil .nil)) (.node (kO (hd.heap_39 P) 68) (.node ({ cls := Value.type "tuple", data := Data.seq #[] } : Obj) .nil .nil) .nil)))) (.node (g14 P) (.node ({ cls := Value.type "tuple", data := Data.seq #[] } : Obj) (.node (kO (hd.heap_39 P) 13) (.node (g70 P) (.node (kO (hd.heap_39 P) 77) .nil .nil) (.node (kO (hd.heap_39 P) 118) .nil .nil)) (.node (kO (hd.heap_39 P) 54) (.node (mkG (subS (nthS progBody 13) 10) (Str.ofString "NewReno.on_persistent")) .nil .nil) (.node (mkG (subS (nthS progBody 17) 5) (Str.ofString "Rtt.probe_base")) .nil .nil))) (.node (mkG (subS (nthS progBody 4) 3) (Str.ofString "Pacer.on_sent")) (.node (g86 P) (.node (kO (hd.heap_39 P) 88) .nil .nil) (.node (kO (hd.heap_39 P) 129) .nil .nil)) (.node (kO (hd.heap_39 P) 65) (.node (kO (hd.heap_39 P) 111) .nil .nil) .nil))) (.node ({ cls := Value.none, data := Data.fields #[] } : Obj) (.node (kO (hd.heap_39 P) 19) (.node (kO (hd.heap_39 P) 42) (.node ({ cls := Value.none, data := Data.fields #[] } : Obj) .nil .nil) (.node ({ cls := Value.none, data := Data.fields #[] } : Obj) .nil .nil)) (.node (mkG (subS (nthS progBody 13) 2) (Str.ofString "NewReno.is_slow_start")) (.node (g174 P) .nil .nil) (.node (g238 P) .nil .nil))) (.node (kO (hd.heap_39 P) 30) (.node (kO (hd.heap_39 P) 48) (.node (kO (hd.heap_39 P) 94) .nil .nil) (.node (kO (hd.heap_39 P) 135) .nil .nil)) (.node (kO (hd.heap_39 P) 71) (.node (kO (hd.heap_39 P) 112) .nil .nil) .nil)))))))
noncomputable def tr_fin (P : Params) : BT := (.node (boot_o_0 P) (.node (boot_o_1 P) (.node (v3fin P) (.node (boot_o_7 P) (.node (kO (hd.heap_39 P) 2) (.node (kO (hd.heap_39 P) 8) (.node (kO (hd.heap_39 P) 31) (.node (kO (hd.heap_39 P) 72) (.node ({ cls := Value.none, data := Data.fields #[] } : Obj) .nil .nil) .nil) (.node (kO (hd.heap_39 P) 113) .nil .nil)) (.node (kO (hd.heap_39 P) 49) (.node (mkG (subS (nthS progBody 13) 9) (Str.ofString "NewReno.on_lost")) .nil .nil) (.node (mkG (subS (nthS progBody 17) 4) (Str.ofString "Rtt.begin_least")) .nil .nil))) (.node (mkG (subS (nthS progBody 4) 2) (Str.ofString "Pacer.may_send")) (.node ({ cls := Value.none, data := Data.fields #[] } : Obj) (.node (kO (hd.heap_39 P) 83) (.node (kO (hd.heap_39 P) 169) .nil .nil) .nil) (.node (kO (hd.heap_39 P) 124) .nil .nil)) (.node (kO (hd.heap_39 P) 60) (.node (g175 P) .nil .nil) (.node (g239 P) .nil .nil)))) (.node (g23 P) (.node (kO (hd.heap_39 P) 14) (.node (kO (hd.heap_39 P) 37) (.node ({ cls := Value.none, data := Data.fields #[] } : Obj) (.node (mkG (nthS progBody 22) (Str.ofString "_law_waits")) .nil .nil) .nil) (.node ({ cls := Value.none, data := Data.fields #[] } : Obj) .nil .nil)) (.node (mkG (subS (nthS progBody 13) 1) (Str.ofString "NewReno.may_send")) (.node (kO (hd.heap_39 P) 100) .nil .nil) (.node (kO (hd.heap_39 P) 141) .nil .nil))) (.node (kO (hd.heap_39 P) 25) (.node (g87 P) (.node (kO (hd.heap_39 P) 89) .nil .nil) (.node (kO (hd.heap_39 P) 130) .nil .nil)) (.node (kO (hd.heap_39 P) 66) (.node ({ cls := Value.type "tuple", data := Data.seq #[] } : Obj) .nil .nil) (.node (kO (hd.heap_39 P) 153) .nil .nil))))) (.node ({ cls := Value.type "tuple", data := Data.seq #[] } : Obj) (.node (mkG (nthS progBody 0) (Str.ofString "_wall")) (.node (kO (hd.heap_39 P) 11) (.node (kO (hd.heap_39 P) 35) (.node (mkG (subS (nthS progBody 13) 5) (Str.ofString "NewReno.on_discarded")) (.node (kO (hd.heap_39 P) 161) .nil .nil) .nil) (.node (mkG (subS (nthS progBody 17) 0) (Str.ofString "Rtt.__init__")) .nil .nil)) (.node (kO (hd.heap_39 P) 52) (.node ({ cls := Value.none, data := Data.fields #[] } : Obj) .nil .nil) (.node ({ cls := Value.none, data := Data.fields #[] } : Obj) .nil .nil))) (.node ({ cls := Value.none, data := Data.fields #[] } : Obj) (.node (kO (hd.heap_39 P) 45) (.node (kO (hd.heap_39 P) 86) .nil .nil) (.node (kO (hd.heap_39 P) 127) .nil .nil)) (.node (kO (hd.heap_39 P) 63) (.node (kO (hd.heap_39 P) 109) .nil .nil) (.node (kO (hd.heap_39 P) 150) .nil .nil)))) (.node (g27 P) (.node (kO (hd.heap_39 P) 17) (.node (mkG (nthS progBody 11) (Str.ofString "initial_window")) (.node (kO (hd.heap_39 P) 80) (.node ({ cls := Value.none, data := Data.fields #[] } : Obj) .nil .nil) .nil) (.node (kO (hd.heap_39 P) 121) .nil .nil)) (.node ({ cls := Value.none, data := Data.fields #[] } : Obj) (.node (kO (hd.heap_39 P) 104) .nil .nil) (.node (kO (hd.heap_39 P) 145) .nil .nil))) (.node (kO (hd.heap_39 P) 28) (.node (g91 P) (.node (kO (hd.heap_39 P) 92) .nil .nil) (.node (kO (hd.heap_39 P) 133) .nil .nil)) (.node (kO (hd.heap_39 P) 69) (.node (g187 P) .nil .nil) (.node (mkG (nthS progBody 20) (Str.ofString "_law_left")) .nil .nil)))))) (.node (boot_o_5 P) (.node (boot_o_9 P) (.node (kO (hd.heap_39 P) 3) (.node (mkG (subS (nthS progBody 4) 0) (Str.ofString "Pacer.__init__")) (.node (kO (hd.heap_39 P) 33) (.node (kO (hd.heap_39 P) 73) (.node (kO (hd.heap_39 P) 160) .nil .nil) .nil) (.node (kO (hd.heap_39 P) 114) .nil .nil)) (.node (kO (hd.heap_39 P) 50) (.node (kO (hd.heap_39 P) 96) .nil .nil) (.node (kO (hd.heap_39 P) 137) .nil .nil))) (.node (kO (hd.heap_39 P) 21) (.node (kO (hd.heap_39 P) 44) (.node (mkG (subS (nthS progBody 13) 7) (Str.ofString "NewReno.widen")) .nil .nil) (.node (mkG (subS (nthS progBody 17) 2) (Str.ofString "Rtt.variance")) .nil .nil)) (.node (kO (hd.heap_39 P) 62) (.node ({ cls := Value.none, data := Data.fields #[] } : Obj) .nil .nil) (.node ({ cls := Value.none, data := Data.fields #[] } : Obj) .nil .nil)))) (.node ({ cls := Value.type "tuple", data := Data.seq #[] } : Obj) (.node (kO (hd.heap_39 P) 15) (.node (kO (hd.heap_39 P) 38) (.node (kO (hd.heap_39 P) 79) (.node (kO (hd.heap_39 P) 165) .nil .nil) .nil) (.node (kO (hd.heap_39 P) 120) .nil .nil)) (.node (kO (hd.heap_39 P) 56) (.node (kO (hd.heap_39 P) 102) .nil .nil) (.node (kO (hd.heap_39 P) 143) .nil .nil))) (.node (kO (hd.heap_39 P) 27) (.node (g89 P) (.node (kO (hd.heap_39 P) 90) .nil .nil) (.node (kO (hd.heap_39 P) 131) .nil .nil)) (.node ({ cls := Value.none, data := Data.fields #[] } : Obj) (.node (g185 P) .nil .nil) (.node (kO (hd.heap_39 P) 154) .nil .nil))))) (.node (g13 P) (.node (kO (hd.heap_39 P) 6) (.node ({ cls := Value.none, data := Data.fields #[] } : Obj) (.node (g69 P) (.node (kO (hd.heap_39 P) 76) (.node (kO (hd.heap_39 P) 163) .nil .nil) .nil) (.node (kO (hd.heap_39 P) 117) .nil .nil)) (.node (kO (hd.heap_39 P) 53) (.node (kO (hd.heap_39 P) 99) .nil .nil) (.node (kO (hd.heap_39 P) 140) .nil .nil))) (.node (kO (hd.heap_39 P) 24) (.node ({ cls := Value.type "tuple", data := Data.seq #[] } : Obj) (.node ({ cls := Value.none, data := Data.fields #[] } : Obj) .nil .nil) (.node ({ cls := Value.none, data := Data.fields #[] } : Obj) .nil .nil)) (.node (mkG (subS (nthS progBody 13) 3) (Str.ofString "NewReno.in_recovery")) (.node (kO (hd.heap_39 P) 110) .nil .nil) (.node (kO (hd.heap_39 P) 151) .nil .nil)))) (.node (kO (hd.heap_39 P) 7) (.node (kO (hd.heap_39 P) 18) (.node (kO (hd.heap_39 P) 41) (.node (kO (hd.heap_39 P) 82) (.node (kO (hd.heap_39 P) 168) .nil .nil) .nil) (.node (kO (hd.heap_39 P) 123) .nil .nil)) (.node (kO (hd.heap_39 P) 59) (.node (kO (hd.heap_39 P) 106) .nil .nil) (.node (kO (hd.heap_39 P) 147) .nil .nil))) (.node (mkG (subS (nthS progBody 4) 4) (Str.ofString "Pacer.wait_for")) (.node ({ cls := Value.none, data := Data.fields #[] } : Obj) (.node (kO (hd.heap_39 P) 93) .nil .nil) (.node (kO (hd.heap_39 P) 134) .nil .nil)) (.node (kO (hd.heap_39 P) 70) (.node (g189 P) .nil .nil) (.node (kO (hd.heap_39 P) 157) .nil .nil))))))) (.node (kO (hd.heap_39 P) 0) (.node (boot_o_4 P) (.node (boot_o_8 P) (.node ({ cls := Value.none, data := Data.fields #[] } : Obj) (.node (kO (hd.heap_39 P) 9) (.node (kO (hd.heap_39 P) 32) (.node ({ cls := Value.none, data := Data.fields #[] } : Obj) (.node (kO (hd.heap_39 P) 159) .nil .nil) .nil) (.node ({ cls := Value.none, data := Data.fields #[] } : Obj) .nil .nil)) (.node (mkG (subS (nthS progBody 13) 0) (Str.ofString "NewReno.__init__")) (.node (kO (hd.heap_39 P) 95) .nil .nil) (.node (kO (hd.heap_39 P) 136) .nil .nil))) (.node (kO (hd.heap_39 P) 20) (.node (kO (hd.heap_39 P) 43) (.node (kO (hd.heap_39 P) 84) (.node (kO (hd.heap_39 P) 170) .nil .nil) .nil) (.node (kO (hd.heap_39 P) 125) .nil .nil)) (.node (kO (hd.heap_39 P) 61) (.node (kO (hd.heap_39 P) 107) .nil .nil) (.node (kO (hd.heap_39 P) 148) .nil .nil)))) (.node (g24 P) (.node (mkG (subS (nthS progBody 4) 1) (Str.ofString "Pacer.earn")) (.node ({ cls := Value.none, data := Data.fields #[] } : Obj) (.node (kO (hd.heap_39 P) 78) (.node (kO (hd.heap_39 P) 164) .nil .nil) .nil) (.node (kO (hd.heap_39 P) 119) .nil .nil)) (.node (kO (hd.heap_39 P) 55) (.node (kO (hd.heap_39 P) 101) .nil .nil) (.node (kO (hd.heap_39 P) 142) .nil .nil))) (.node (kO (hd.heap_39 P) 26) (.node ({ cls := Value.type "tuple", data := Data.seq #[] } : Obj) (.node (mkG (subS (nthS progBody 13) 8) (Str.ofString "NewReno.on_congestion")) .nil .nil) (.node (mkG (subS (nthS progBody 17) 3) (Str.ofString "Rtt.sample")) .nil .nil)) (.node (kO (hd.heap_39 P) 67) (.node (g184 P) .nil .nil) (.node ({ cls := Value.none, data := Data.fields #[] } : Obj) .nil .nil))))) (.node (v12fin P) (.node (kO (hd.heap_39 P) 5) (.node (kO (hd.heap_39 P) 12) (.node (kO (hd.heap_39 P) 36) (.node (kO (hd.heap_39 P) 75) (.node (kO (hd.heap_39 P) 162) .nil .nil) .nil) (.node (kO (hd.heap_39 P) 116) .nil .nil)) (.node ({ cls := Value.none, data := Data.fields #[] } : Obj) (.node (kO (hd.heap_39 P) 98) .nil .nil) (.node (kO (hd.heap_39 P) 139) .nil .nil))) (.node (kO (hd.heap_39 P) 23) (.node (kO (hd.heap_39 P) 46) (.node (kO (hd.heap_39 P) 87) .nil .nil) (.node (kO (hd.heap_39 P) 128) .nil .nil)) (.node (kO (hd.heap_39 P) 64) (.node (mkG (nthS progBody 16) (Str.ofString "without_delay")) .nil .nil) (.node (mkG (nthS progBody 19) (Str.ofString "_law_drawn")) .nil .nil)))) (.node (g28 P) (.node ({ cls := Value.none, data := Data.fields #[] } : Obj) (.node (kO (hd.heap_39 P) 40) (.node (kO (hd.heap_39 P) 81) (.node (kO (hd.heap_39 P) 167) .nil .nil) .nil) (.node (kO (hd.heap_39 P) 122) .nil .nil)) (.node (kO (hd.heap_39 P) 58) (.node (kO (hd.heap_39 P) 105) .nil .nil) (.node (kO (hd.heap_39 P) 146) .nil .nil))) (.node (kO (hd.heap_39 P) 29) (.node (kO (hd.heap_39 P) 47) (.node ({ cls := Value.none, data := Data.fields #[] } : Obj) .nil .nil) (.node ({ cls := Value.none, data := Data.fields #[] } : Obj) .nil .nil)) (.node (mkG (subS (nthS progBody 13) 4) (Str.ofString "NewReno.on_sent")) (.node (g188 P) .nil .nil) (.node (kO (hd.heap_39 P) 156) .nil .nil)))))) (.node (boot_o_6 P) (.node (boot_o_10 P) (.node (kO (hd.heap_39 P) 4) (.node (kO (hd.heap_39 P) 10) (.node (kO (hd.heap_39 P) 34) (.node (kO (hd.heap_39 P) 74) (.node (mkG (nthS progBody 21) (Str.ofString "_law_in_order")) .nil .nil) .nil) (.node (kO (hd.heap_39 P) 115) .nil .nil)) (.node (kO (hd.heap_39 P) 51) (.node (kO (hd.heap_39 P) 97) .nil .nil) (.node (kO (hd.heap_39 P) 138) .nil .nil))) (.node (kO (hd.heap_39 P) 22) (.node (mkG (nthS progBody 12) (Str.ofString "least_window")) (.node (kO (hd.heap_39 P) 85) .nil .nil) (.node (kO (hd.heap_39 P) 126) .nil .nil)) (.node ({ cls := Value.none, data := Data.fields #[] } : Obj) (.node (kO (hd.heap_39 P) 108) .nil .nil) (.node (kO (hd.heap_39 P) 149) .nil .nil)))) (.node (g26 P) (.node (kO (hd.heap_39 P) 16) (.node (kO (hd.heap_39 P) 39) (.node (mkG (subS (nthS progBody 13) 6) (Str.ofString "NewReno.on_acked")) (.node (kO (hd.heap_39 P) 166) .nil .nil) .nil) (.node (mkG (subS (nthS progBody 17) 1) (Str.ofString "Rtt.smoothed")) .nil .nil)) (.node (kO (hd.heap_39 P) 57) (.node (kO (hd.heap_39 P) 103) .nil .nil) (.node (kO (hd.heap_39 P) 144) .nil .nil))) (.node ({ cls := Value.none, data := Data.fields #[] } : Obj) (.node (g90 P) (.node (kO (hd.heap_39 P) 91) .nil .nil) (.node (kO (hd.heap_39 P) 132) .nil .nil)) (.node (kO (hd.heap_39 P) 68) (.node ({ cls := Value.type "tuple", data := Data.seq #[] } : Obj) .nil .nil) (.node (kO (hd.heap_39 P) 155) .nil .nil))))) (.node (g14 P) (.node ({ cls := Value.type "tuple", data := Data.seq #[] } : Obj) (.node (kO (hd.heap_39 P) 13) (.node (g70 P) (.node (kO (hd.heap_39 P) 77) (.node ({ cls := Value.none, data := Data.fields #[] } : Obj) .nil .nil) .nil) (.node (kO (hd.heap_39 P) 118) .nil .nil)) (.node (kO (hd.heap_39 P) 54) (.node (mkG (subS (nthS progBody 13) 10) (Str.ofString "NewReno.on_persistent")) .nil .nil) (.node (mkG (subS (nthS progBody 17) 5) (Str.ofString "Rtt.probe_base")) .nil .nil))) (.node (mkG (subS (nthS progBody 4) 3) (Str.ofString "Pacer.on_sent")) (.node (g86 P) (.node (kO (hd.heap_39 P) 88) .nil .nil) (.node (kO (hd.heap_39 P) 129) .nil .nil)) (.node (kO (hd.heap_39 P) 65) (.node (kO (hd.heap_39 P) 111) .nil .nil) (.node (kO (hd.heap_39 P) 152) .nil .nil)))) (.node ({ cls := Value.none, data := Data.fields #[] } : Obj) (.node (kO (hd.heap_39 P) 19) (.node (kO (hd.heap_39 P) 42) (.node ({ cls := Value.none, data := Data.fields #[] } : Obj) (.node (mkG (nthS progBody 23) (Str.ofString "law")) .nil .nil) .nil) (.node ({ cls := Value.none, data := Data.fields #[] } : Obj) .nil .nil)) (.node (mkG (subS (nthS progBody 13) 2) (Str.ofString "NewReno.is_slow_start")) (.node (g174 P) .nil .nil) (.node (g238 P) .nil .nil))) (.node (kO (hd.heap_39 P) 30) (.node (kO (hd.heap_39 P) 48) (.node (kO (hd.heap_39 P) 94) .nil .nil) (.node (kO (hd.heap_39 P) 135) .nil .nil)) (.node (kO (hd.heap_39 P) 71) (.node (kO (hd.heap_39 P) 112) .nil .nil) (.node (kO (hd.heap_39 P) 158) .nil .nil))))))))
noncomputable def hp_pre (P : Params) : Heap := { objs := #[(boot_o_0 P), (boot_o_1 P), (kO (hd.heap_39 P) 0), (v3block P), (boot_o_4 P), (boot_o_5 P), (boot_o_6 P), (boot_o_7 P), (boot_o_8 P), (boot_o_9 P), (boot_o_10 P), ({ cls := Value.type "tuple", data := Data.seq #[] } : Obj), (v12block P), (g13 P), (g14 P)] }
noncomputable def hp_fin (P : Params) : Heap := { objs := #[(boot_o_0 P), (boot_o_1 P), (kO (hd.heap_39 P) 0), (v3fin P), (boot_o_4 P), (boot_o_5 P), (boot_o_6 P), (boot_o_7 P), (boot_o_8 P), (boot_o_9 P), (boot_o_10 P), ({ cls := Value.type "tuple", data := Data.seq #[] } : Obj), (v12fin P), (g13 P), (g14 P), (kO (hd.heap_39 P) 2), ({ cls := Value.none, data := Data.fields #[] } : Obj), (kO (hd.heap_39 P) 3), (kO (hd.heap_39 P) 4), (mkG (nthS progBody 0) (Str.ofString "_wall")), (kO (hd.heap_39 P) 5), (kO (hd.heap_39 P) 6), ({ cls := Value.type "tuple", data := Data.seq #[] } : Obj), (g23 P), (g24 P), ({ cls := Value.type "tuple", data := Data.seq #[] } : Obj), (g26 P), (g27 P), (g28 P), (kO (hd.heap_39 P) 7), ({ cls := Value.none, data := Data.fields #[] } : Obj), (kO (hd.heap_39 P) 8), (kO (hd.heap_39 P) 9), (mkG (subS (nthS progBody 4) 0) (Str.ofString "Pacer.__init__")), (kO (hd.heap_39 P) 10), (kO (hd.heap_39 P) 11), (kO (hd.heap_39 P) 12), ({ cls := Value.none, data := Data.fields #[] } : Obj), (kO (hd.heap_39 P) 13), (kO (hd.heap_39 P) 14), (mkG (subS (nthS progBody 4) 1) (Str.ofString "Pacer.earn")), (kO (hd.heap_39 P) 15), (kO (hd.heap_39 P) 16), (kO (hd.heap_39 P) 17), ({ cls := Value.none, data := Data.fields #[] } : Obj), (kO (hd.heap_39 P) 18), (kO (hd.heap_39 P) 19), (mkG (subS (nthS progBody 4) 2) (Str.ofString "Pacer.may_send")), (kO (hd.heap_39 P) 20), (kO (hd.heap_39 P) 21), (kO (hd.heap_39 P) 22), ({ cls := Value.none, data := Data.fields #[] } : Obj), (kO (hd.heap_39 P) 23), (kO (hd.heap_39 P) 24), (mkG (subS (nthS progBody 4) 3) (Str.ofString "Pacer.on_sent")), (kO (hd.heap_39 P) 25), (kO (hd.heap_39 P) 26), (kO (hd.heap_39 P) 27), ({ cls := Value.none, data := Data.fields #[] } : Obj), (kO (hd.heap_39 P) 28), (kO (hd.heap_39 P) 29), (mkG (subS (nthS progBody 4) 4) (Str.ofString "Pacer.wait_for")), (kO (hd.heap_39 P) 30), (kO (hd.heap_39 P) 31), (kO (hd.heap_39 P) 32), (kO (hd.heap_39 P) 33), (kO (hd.heap_39 P) 34), (kO (hd.heap_39 P) 35), (kO (hd.heap_39 P) 36), (g69 P), (g70 P), (kO (hd.heap_39 P) 37), ({ cls := Value.none, data := Data.fields #[] } : Obj), (kO (hd.heap_39 P) 38), (kO (hd.heap_39 P) 39), (mkG (nthS progBody 11) (Str.ofString "initial_window")), (kO (hd.heap_39 P) 40), (kO (hd.heap_39 P) 41), (kO (hd.heap_39 P) 42), ({ cls := Value.none, data := Data.fields #[] } : Obj), (kO (hd.heap_39 P) 43), (kO (hd.heap_39 P) 44), (mkG (nthS progBody 12) (Str.ofString "least_window")), (kO (hd.heap_39 P) 45), (kO (hd.heap_39 P) 46), ({ cls := Value.type "tuple", data := Data.seq #[] } : Obj), (g86 P), (g87 P), ({ cls := Value.type "tuple", data := Data.seq #[] } : Obj), (g89 P), (g90 P), (g91 P), (kO (hd.heap_39 P) 47), ({ cls := Value.none, data := Data.fields #[] } : Obj), (kO (hd.heap_39 P) 48), (kO (hd.heap_39 P) 49), (mkG (subS (nthS progBody 13) 0) (Str.ofString "NewReno.__init__")), (kO (hd.heap_39 P) 50), (kO (hd.heap_39 P) 51), (kO (hd.heap_39 P) 52), ({ cls := Value.none, data := Data.fields #[] } : Obj), (kO (hd.heap_39 P) 53), (kO (hd.heap_39 P) 54), (mkG (subS (nthS progBody 13) 1) (Str.ofString "NewReno.may_send")), (kO (hd.heap_39 P) 55), (kO (hd.heap_39 P) 56), (kO (hd.heap_39 P) 57), ({ cls := Value.none, data := Data.fields #[] } : Obj), (kO (hd.heap_39 P) 58), (kO (hd.heap_39 P) 59), (mkG (subS (nthS progBody 13) 2) (Str.ofString "NewReno.is_slow_start")), (kO (hd.heap_39 P) 60), (kO (hd.heap_39 P) 61), (kO (hd.heap_39 P) 62), ({ cls := Value.none, data := Data.fields #[] } : Obj), (kO (hd.heap_39 P) 63), (kO (hd.heap_39 P) 64), (mkG (subS (nthS progBody 13) 3) (Str.ofString "NewReno.in_recovery")), (kO (hd.heap_39 P) 65), (kO (hd.heap_39 P) 66), (kO (hd.heap_39 P) 67), ({ cls := Value.none, data := Data.fields #[] } : Obj), (kO (hd.heap_39 P) 68), (kO (hd.heap_39 P) 69), (mkG (subS (nthS progBody 13) 4) (Str.ofString "NewReno.on_sent")), (kO (hd.heap_39 P) 70), (kO (hd.heap_39 P) 71), (kO (hd.heap_39 P) 72), ({ cls := Value.none, data := Data.fields #[] } : Obj), (kO (hd.heap_39 P) 73), (kO (hd.heap_39 P) 74), (mkG (subS (nthS progBody 13) 5) (Str.ofString "NewReno.on_discarded")), (kO (hd.heap_39 P) 75), (kO (hd.heap_39 P) 76), (kO (hd.heap_39 P) 77), ({ cls := Value.none, data := Data.fields #[] } : Obj), (kO (hd.heap_39 P) 78), (kO (hd.heap_39 P) 79), (mkG (subS (nthS progBody 13) 6) (Str.ofString "NewReno.on_acked")), (kO (hd.heap_39 P) 80), (kO (hd.heap_39 P) 81), (kO (hd.heap_39 P) 82), ({ cls := Value.none, data := Data.fields #[] } : Obj), (kO (hd.heap_39 P) 83), (kO (hd.heap_39 P) 84), (mkG (subS (nthS progBody 13) 7) (Str.ofString "NewReno.widen")), (kO (hd.heap_39 P) 85), (kO (hd.heap_39 P) 86), (kO (hd.heap_39 P) 87), ({ cls := Value.none, data := Data.fields #[] } : Obj), (kO (hd.heap_39 P) 88), (kO (hd.heap_39 P) 89), (mkG (subS (nthS progBody 13) 8) (Str.ofString "NewReno.on_congestion")), (kO (hd.heap_39 P) 90), (kO (hd.heap_39 P) 91), (kO (hd.heap_39 P) 92), ({ cls := Value.none, data := Data.fields #[] } : Obj), (kO (hd.heap_39 P) 93), (kO (hd.heap_39 P) 94), (mkG (subS (nthS progBody 13) 9) (Str.ofString "NewReno.on_lost")), (kO (hd.heap_39 P) 95), (kO (hd.heap_39 P) 96), (kO (hd.heap_39 P) 97), ({ cls := Value.none, data := Data.fields #[] } : Obj), (kO (hd.heap_39 P) 98), (kO (hd.heap_39 P) 99), (mkG (subS (nthS progBody 13) 10) (Str.ofString "NewReno.on_persistent")), (kO (hd.heap_39 P) 100), (kO (hd.heap_39 P) 101), (kO (hd.heap_39 P) 102), (kO (hd.heap_39 P) 103), (kO (hd.heap_39 P) 104), (kO (hd.heap_39 P) 105), (kO (hd.heap_39 P) 106), (g174 P), (g175 P), (kO (hd.heap_39 P) 107), ({ cls := Value.none, data := Data.fields #[] } : Obj), (kO (hd.heap_39 P) 108), (kO (hd.heap_39 P) 109), (mkG (nthS progBody 16) (Str.ofString "without_delay")), (kO (hd.heap_39 P) 110), (kO (hd.heap_39 P) 111), ({ cls := Value.type "tuple", data := Data.seq #[] } : Obj), (g184 P), (g185 P), ({ cls := Value.type "tuple", data := Data.seq #[] } : Obj), (g187 P), (g188 P), (g189 P), (kO (hd.heap_39 P) 112), (kO (hd.heap_39 P) 113), ({ cls := Value.none, data := Data.fields #[] } : Obj), (kO (hd.heap_39 P) 114), (kO (hd.heap_39 P) 115), (mkG (subS (nthS progBody 17) 0) (Str.ofString "Rtt.__init__")), (kO (hd.heap_39 P) 116), (kO (hd.heap_39 P) 117), (kO (hd.heap_39 P) 118), ({ cls := Value.none, data := Data.fields #[] } : Obj), (kO (hd.heap_39 P) 119), (kO (hd.heap_39 P) 120), (mkG (subS (nthS progBody 17) 1) (Str.ofString "Rtt.smoothed")), (kO (hd.heap_39 P) 121), (kO (hd.heap_39 P) 122), (kO (hd.heap_39 P) 123), ({ cls := Value.none, data := Data.fields #[] } : Obj), (kO (hd.heap_39 P) 124), (kO (hd.heap_39 P) 125), (mkG (subS (nthS progBody 17) 2) (Str.ofString "Rtt.variance")), (kO (hd.heap_39 P) 126), (kO (hd.heap_39 P) 127), (kO (hd.heap_39 P) 128), ({ cls := Value.none, data := Data.fields #[] } : Obj), (kO (hd.heap_39 P) 129), (kO (hd.heap_39 P) 130), (mkG (subS (nthS progBody 17) 3) (Str.ofString "Rtt.sample")), (kO (hd.heap_39 P) 131), (kO (hd.heap_39 P) 132), (kO (hd.heap_39 P) 133), ({ cls := Value.none, data := Data.fields #[] } : Obj), (kO (hd.heap_39 P) 134), (kO (hd.heap_39 P) 135), (mkG (subS (nthS progBody 17) 4) (Str.ofString "Rtt.begin_least")), (kO (hd.heap_39 P) 136), (kO (hd.heap_39 P) 137), (kO (hd.heap_39 P) 138), ({ cls := Value.none, data := Data.fields #[] } : Obj), (kO (hd.heap_39 P) 139), (kO (hd.heap_39 P) 140), (mkG (subS (nthS progBody 17) 5) (Str.ofString "Rtt.probe_base")), (kO (hd.heap_39 P) 141), (kO (hd.heap_39 P) 142), (kO (hd.heap_39 P) 143), (kO (hd.heap_39 P) 144), (kO (hd.heap_39 P) 145), (kO (hd.heap_39 P) 146), (kO (hd.heap_39 P) 147), (g238 P), (g239 P), (kO (hd.heap_39 P) 148), ({ cls := Value.none, data := Data.fields #[] } : Obj), (kO (hd.heap_39 P) 149), (kO (hd.heap_39 P) 150), (mkG (nthS progBody 19) (Str.ofString "_law_drawn")), (kO (hd.heap_39 P) 151), (kO (hd.heap_39 P) 152), (kO (hd.heap_39 P) 153), ({ cls := Value.none, data := Data.fields #[] } : Obj), (kO (hd.heap_39 P) 154), (kO (hd.heap_39 P) 155), (mkG (nthS progBody 20) (Str.ofString "_law_left")), (kO (hd.heap_39 P) 156), (kO (hd.heap_39 P) 157), (kO (hd.heap_39 P) 158), ({ cls := Value.none, data := Data.fields #[] } : Obj), (kO (hd.heap_39 P) 159), (kO (hd.heap_39 P) 160), (mkG (nthS progBody 21) (Str.ofString "_law_in_order")), (kO (hd.heap_39 P) 161), (kO (hd.heap_39 P) 162), (kO (hd.heap_39 P) 163), ({ cls := Value.none, data := Data.fields #[] } : Obj), (mkG (nthS progBody 22) (Str.ofString "_law_waits")), (kO (hd.heap_39 P) 164), (kO (hd.heap_39 P) 165), (kO (hd.heap_39 P) 166), ({ cls := Value.none, data := Data.fields #[] } : Obj), (kO (hd.heap_39 P) 167), (kO (hd.heap_39 P) 168), (mkG (nthS progBody 23) (Str.ofString "law")), (kO (hd.heap_39 P) 169), (kO (hd.heap_39 P) 170)] }
noncomputable def sts_0 : List Stmt := takeX 5 (dropX 0 progBody)
noncomputable def sts_1 : List Stmt := takeX 8 (dropX 5 progBody)
noncomputable def sts_2 : List Stmt := takeX 1 (dropX 13 progBody)
noncomputable def sts_3 : List Stmt := takeX 4 (dropX 14 progBody)
noncomputable def sts_4 : List Stmt := takeX 6 (dropX 18 progBody)
noncomputable def bodX : List Stmt := sts_0 ++ (sts_1 ++ (sts_2 ++ (sts_3 ++ (sts_4 ++ []))))
noncomputable def envX0 : Env := { scope := (PySem.Challenge.rw_sj0111_01.row.prog).main.scope, locals := mainNs, globals := mainNs, cells := [], code := .ref 13, frame := some 14 }
noncomputable abbrev annX : Option Value := some (.ref 6)
noncomputable def codX : Code := .body bodX envX0
set_option maxHeartbeats 0 in
theorem pc_pre (w : World) (os : OsState) : topGo treeTable PySem.Challenge.rw_sj0111_01.row.prog w 11 annX 12 ⟨boot_heap w.params, #[], boot_drawn, boot_toks, os⟩ (topStub PySem.Challenge.rw_sj0111_01.row.prog) = some (⟨hp_pre w.params, #[], {}, 187, os⟩, ⟨denote treeTable codX, codX, ({ line := 0, col := 0, endLine := 0, endCol := 0 } : Pos), [topFrame (⟨0, 0, 0, 0⟩ : Pos)]⟩) := by kernel_rfl
set_option maxHeartbeats 0 in
theorem pc_block (w : World) (os : OsState) : segRun treeTable PySem.Challenge.rw_sj0111_01.row.prog w 11 annX 1 1 ⟨hp_pre w.params, #[], {}, 187, os⟩ (blockOf bodX envX0 codX ({ line := 0, col := 0, endLine := 0, endCol := 0 } : Pos) [topFrame (⟨0, 0, 0, 0⟩ : Pos)]) = some (.next, SharedT.abs ⟨tr_block w.params, 15, {}, #[], {}, 187, os⟩, codX, ({ line := 0, col := 0, endLine := 0, endCol := 0 } : Pos)) := by kernel_rfl
set_option maxHeartbeats 0 in
theorem pc_0 (w : World) (os : OsState) : segRunT treeTable PySem.Challenge.rw_sj0111_01.row.prog w 11 annX 1 420 ⟨tr_block w.params, 15, {}, #[], {}, 187, os⟩ (piecesOf sts_0 envX0 codX ({ line := 0, col := 0, endLine := 0, endCol := 0 } : Pos) [topFrame (⟨0, 0, 0, 0⟩ : Pos)]) = some (.next, ⟨tr_p4 w.params, 71, {}, #[], {}, 274, os⟩, codX, ({ line := 7, col := 0, endLine := 37, endCol := 43 } : Pos)) := by kernel_rfl
set_option maxHeartbeats 0 in
theorem pc_1 (w : World) (os : OsState) : segRunT treeTable PySem.Challenge.rw_sj0111_01.row.prog w 11 annX 1 113 ⟨tr_p4 w.params, 71, {}, #[], {}, 274, os⟩ (piecesOf sts_1 envX0 codX ({ line := 7, col := 0, endLine := 37, endCol := 43 } : Pos) [topFrame (⟨0, 0, 0, 0⟩ : Pos)]) = some (.next, ⟨tr_p12 w.params, 85, {}, #[], {}, 300, os⟩, codX, ({ line := 46, col := 0, endLine := 47, endCol := 35 } : Pos)) := by kernel_rfl
set_option maxHeartbeats 0 in
theorem pc_2 (w : World) (os : OsState) : segRunT treeTable PySem.Challenge.rw_sj0111_01.row.prog w 11 annX 1 554 ⟨tr_p12 w.params, 85, {}, #[], {}, 300, os⟩ (piecesOf sts_2 envX0 codX ({ line := 46, col := 0, endLine := 47, endCol := 35 } : Pos) [topFrame (⟨0, 0, 0, 0⟩ : Pos)]) = some (.next, ⟨tr_p13 w.params, 176, {}, #[], {}, 420, os⟩, codX, ({ line := 48, col := 0, endLine := 100, endCol := 16 } : Pos)) := by kernel_rfl
set_option maxHeartbeats 0 in
theorem pc_3 (w : World) (os : OsState) : segRunT treeTable PySem.Challenge.rw_sj0111_01.row.prog w 11 annX 1 439 ⟨tr_p13 w.params, 176, {}, #[], {}, 420, os⟩ (piecesOf sts_3 envX0 codX ({ line := 48, col := 0, endLine := 100, endCol := 16 } : Pos) [topFrame (⟨0, 0, 0, 0⟩ : Pos)]) = some (.next, ⟨tr_p17 w.params, 240, {}, #[], {}, 508, os⟩, codX, ({ line := 105, col := 0, endLine := 141, endCol := 16 } : Pos)) := by kernel_rfl
set_option maxHeartbeats 0 in
theorem pc_4 (w : World) (os : OsState) : segRunT treeTable PySem.Challenge.rw_sj0111_01.row.prog w 11 annX 1 175 ⟨tr_p17 w.params, 240, {}, #[], {}, 508, os⟩ (piecesOf sts_4 envX0 codX ({ line := 105, col := 0, endLine := 141, endCol := 16 } : Pos) [topFrame (⟨0, 0, 0, 0⟩ : Pos)]) = some (.next, ⟨tr_fin w.params, 273, {}, #[], {}, 567, os⟩, codX, ({ line := 166, col := 0, endLine := 199, endCol := 37 } : Pos)) := by kernel_rfl
set_option maxHeartbeats 0 in
theorem pc_fin (w : World) (os : OsState) : topRun treeTable PySem.Challenge.rw_sj0111_01.row.prog w 11 annX 2 (SharedT.abs ⟨tr_fin w.params, 273, {}, #[], {}, 567, os⟩) ⟨doneF .next, codX, ({ line := 166, col := 0, endLine := 199, endCol := 37 } : Pos), [topFrame (⟨0, 0, 0, 0⟩ : Pos)]⟩ = some ⟨hp_fin w.params, #[], {}, 567, os⟩ := by kernel_rfl
set_option maxHeartbeats 0 in
theorem run_all (w : World) (os : OsState) : topRun treeTable PySem.Challenge.rw_sj0111_01.row.prog w 11 annX (12 + (1 + (420 + (113 + (554 + (439 + (175 + 2))))))) ⟨boot_heap w.params, #[], boot_drawn, boot_toks, os⟩ (topStub PySem.Challenge.rw_sj0111_01.row.prog) = some ⟨hp_fin w.params, #[], {}, 567, os⟩ :=
  go_top (pc_pre w os) (piece_block (pc_block w os) (piece_app (segRun_of (pc_0 w os)) (piece_app (segRun_of (pc_1 w os)) (piece_app (segRun_of (pc_2 w os)) (piece_app (segRun_of (pc_3 w os)) (piece_app (segRun_of (pc_4 w os)) (piece_nil (pc_fin w os))))))))
noncomputable abbrev xtX : Shared → Bool := fun s => xlAt Mine.hd.view_39 [] s && recOk (RowW.records PySem.Challenge.rw_sj0111_01.row.toRowW) s
noncomputable abbrev hkX := kHook Mine.hd.heap_39 AS as_K
set_option maxHeartbeats 0 in
theorem sz_all (w : World) : ((boot_heap w.params).isNs mainGlobals && (#[] : Array GenState).size == 0, (boot_heap w.params).objs.size, (boot_heap w.params).nsMap mainGlobals "__annotations__") = (true, 11, annX) := by kernel_rfl
set_option maxHeartbeats 0 in
theorem lk3 (w : World) (os : OsState) : Hook.obs hkX ⟨hp_fin w.params, #[], {}, 567, os⟩ = Hook.val hkX w := by kernel_rfl
set_option maxHeartbeats 0 in
theorem op_all (w : World) : (fencedOpening treeTable PySem.Challenge.rw_sj0111_01.row.prog w 3518).map (fun s => (s.heap, s.gens, s.drawn, s.toks)) = some (boot_heap w.params, #[], boot_drawn, boot_toks) := boot_open (by kernel_rfl) (by rfl) (fun s => by kernel_rfl) w
set_option maxHeartbeats 0 in
theorem hl_39 : LeftO PySem.Challenge.rw_sj0111_01.row.prog Mine.hd.view_39 [] xtX (Hook.obs hkX) (Hook.val hkX) 3518 :=
  LeftO.of_pieces op_all sz_all run_all (by rfl) (fun w => funext fun os => looks_pair (by kernel_rfl) (looks_pair (by kernel_rfl) (lk3 w os)))
end Mine
end
open PySem PySem.W PyProof.Rows PySem.Calls
namespace Mine
section
theorem news2 {h₀ h : Heap} {L : Addr} {p q : Addr × Obj} {news : List (Addr × Obj)} (N : News h₀ L h news) (h1 : p ∈ news) (h2 : q ∈ news) : News h₀ L h (p :: q :: news) := fun r hr => by
  rcases List.mem_cons.mp hr with rfl | hr
  · exact N _ h1
  · rcases List.mem_cons.mp hr with rfl | hr
    · exact N _ h2
    · exact N _ hr
theorem news2_out {h₀ h : Heap} {L : Addr} {p q : Addr × Obj} {news : List (Addr × Obj)} (N : News h₀ L h (p :: q :: news)) : News h₀ L h news := fun r hr => N r (.tail _ (.tail _ hr))
theorem upd_in {h₀ h : Heap} {L d : Addr} {o : Obj} {y : Addr × Obj} {news : List (Addr × Obj)} {f : Obj → List (Addr × Obj)} (N : News h₀ L h news) (U : UpdF d o news f) (hy : y ∈ news) (hne : y.1 ≠ d) :
    ∃ rest, OwnOff rest [d] ∧ News h₀ L h ((d, o) :: y :: rest) ∧ ∀ h' o', News h₀ L h' ((d, o') :: y :: rest) → News h₀ L h' (f o') := by
  obtain ⟨pre, post, rfl, hf, a, b⟩ := U.split
  refine ⟨pre ++ post, ?_, ?_, ?_⟩
  · intro p hp c hc
    rw [List.mem_singleton.mp hc]
    exact (List.mem_append.mp hp).elim (a p) (b p)
  · intro p hp
    rcases List.mem_cons.mp hp with rfl | hp
    · exact N _ (List.mem_append.mpr (.inr (.head _)))
    · rcases List.mem_cons.mp hp with rfl | hp
      · exact N _ hy
      · exact N _ (List.mem_append.mpr ((List.mem_append.mp hp).imp id (.tail _)))
  · intro h' o' N' p hp
    rw [hf] at hp
    rcases List.mem_append.mp hp with hp | hp
    · exact N' p (.tail _ (.tail _ (List.mem_append.mpr (.inl hp))))
    · rcases List.mem_cons.mp hp with rfl | hp
      · exact N' _ (.head _)
      · exact N' p (.tail _ (.tail _ (List.mem_append.mpr (.inr hp))))
end
section
noncomputable abbrev pacerD (w : World) (k1 k2 k3 k4 : Tok) (burst : Int) (tb : Tok) (left : Int) (tl : Tok) (rst : Int) (tr : Tok) (seen : Int) (ts : Tok) : Obj :=
  dictOf [⟨PyData.keyHash w.params (Str.ofString "burst"), .str (Str.ofString "burst") k1, .int burst tb⟩,
    ⟨PyData.keyHash w.params (Str.ofString "left"), .str (Str.ofString "left") k2, .int left tl⟩,
    ⟨PyData.keyHash w.params (Str.ofString "rest"), .str (Str.ofString "rest") k3, .int rst tr⟩,
    ⟨PyData.keyHash w.params (Str.ofString "seen_at"), .str (Str.ofString "seen_at") k4, .int seen ts⟩] 4
noncomputable def bot (sm : Int) : Int := 4 * (if 1 > sm then 1 else sm)
noncomputable def earnW (rst window sm dt : Int) : Int := (if bot sm - 1 < rst then bot sm - 1 else rst) + 5 * window * dt
noncomputable def earnL (burst left rst window sm dt : Int) : Int := if burst ≤ left + (earnW rst window sm dt).fdiv (bot sm) then burst else left + (earnW rst window sm dt).fdiv (bot sm)
noncomputable def earnR (burst left rst window sm dt : Int) : Int := if burst ≤ left + (earnW rst window sm dt).fdiv (bot sm) then 0 else (earnW rst window sm dt).fmod (bot sm)
set_option maxHeartbeats 4000000 in
theorem earn_1 {w : World} {mean : ExcName → Option Value} {mg mb : Str → Option Value} {dp un : Nat} {gd : Option (List Code)} {cn : Str} {cs : Scope} {a : Addr} {ccd : Value} {cl : List (Str × Addr)} {outer : List Env} {A₀ : Around} {base h₀ : Heap} {L : Addr} {m : Str → Option Value} {s : Shared} {Q E : Value → Shared → Prop}
    (B : Below A₀ base outer h₀) (F : Fr h₀ L s.heap m) (X : (Mine.hd.heap_39 w.params).In h₀) (T : Top Mine.hd.view_39 (looseW Mine.hd.view_39 []) mean mg mb h₀) (hk : cs.kind = .function)
    {x dx : Addr} {k1 k2 k3 k4 tb tl tr ts tw tm tn : Tok} {burst left rst seen window sm now : Int} {news : List (Addr × Obj)}
    (N : News h₀ L s.heap ((dx, pacerD w k1 k2 k3 k4 burst tb left tl rst tr seen ts) :: (x, instObj 66 dx) :: news)) (off : OwnOff news [dx]) (hx : @Ne Nat dx x)
    (hw : 0 ≤ window ∧ window ≤ 1000000) (hs : 0 ≤ sm ∧ sm ≤ 1000000)
    (hdp : dp + 1 < recursionLimit) (hu : un + 8 < cLine)
    (ret : ∀ tl tr ts h' tk', Fr h₀ L h' m → News h₀ L h' ((dx, pacerD w k1 k2 k3 k4 burst tb (earnL burst left rst window sm (now - seen)) tl (earnR burst left rst window sm (now - seen)) tr now ts) :: (x, instObj 66 dx) :: news) →
      Q .none { s with heap := h', toks := tk' }) :
    wpAny (model PySem.Challenge.rw_sj0111_01.row.toRowW.prog w) (ktrTop dp un gd cn cs L a ccd cl outer) (call (.ref 42) [.ref x, .int window tw, .int sm tm, .int now tn]) Q E s := by
  revert X; k_fill; intro X
  have ret' : ∀ {l r : Int} {tl tr ts : Tok} {h' : Heap} {tk' : Nat}, l = earnL burst left rst window sm (now - seen) → r = earnR burst left rst window sm (now - seen) → Fr h₀ L h' m → News h₀ L h' ((dx, pacerD w k1 k2 k3 k4 burst tb l tl r tr now ts) :: (x, instObj 66 dx) :: news) →
      Q .none { s with heap := h', toks := tk' } := by
    intro l r tl tr ts h' tk' e1 e2 F N; subst e1; subst e2; exact ret tl tr ts h' tk' F N
  clear ret
  refine wpAny_call ?_
  k_dflt cell_enter
  k_steps
  all_goals (refine' ret' ?e1 ?e2 ?F ?N; (case F => k_asm); (case N => k_asm); (case e1 => (first | exact (if_pos (by assumption)).symm | exact (if_neg (by assumption)).symm)); (case e2 => (first | exact (if_pos (by assumption)).symm | exact (if_neg (by assumption)).symm)))
end
section
noncomputable abbrev boxO (l : Addr) (k : Int) (t : Tok) (n : Nat) : Obj := W.listOf #[.ref l, .int k t] n
set_option maxHeartbeats 4000000 in
theorem drawn_1 {w : World} {mean : ExcName → Option Value} {mg mb : Str → Option Value} {dp un : Nat} {gd : Option (List Code)} {cn : Str} {cs : Scope} {a : Addr} {ccd : Value} {cl : List (Str × Addr)} {outer : List Env} {A₀ : Around} {base h₀ : Heap} {L : Addr} {m : Str → Option Value} {s : Shared} {Q E : Value → Shared → Prop}
    (B : Below A₀ base outer h₀) (F : Fr h₀ L s.heap m) (X : (Mine.hd.heap_39 w.params).In h₀) (T : Top Mine.hd.view_39 (looseW Mine.hd.view_39 []) mean mg mb h₀) (hk : cs.kind = .function)
    {b l : Addr} {k many : Int} {t tm : Tok} {nb c : Nat} {vs : List Value} {ns : List Int} {news : List (Addr × Obj)}
    (N : News h₀ L s.heap ((b, boxO l k t nb) :: (l, W.listOf vs.toArray c) :: news)) (off : OwnOff news [b]) (hx : @Ne Nat b l)
    (hi : IntsAre vs ns) (hlen : ns.length ≤ 48) (hk0 : 0 ≤ k ∧ k ≤ 100000) (hm : 1 ≤ many ∧ many ≤ 100000)
    (hdp : dp + 1 < recursionLimit) (hu : un + 8 < cLine)
    (ret : ∀ r t t' nb' h' tk', 0 ≤ r → r < many → Fr h₀ L h' m → News h₀ L h' ((b, boxO l (k + 1) t' nb') :: (l, W.listOf vs.toArray c) :: news) →
      Q (.int r t) { s with heap := h', toks := tk' }) :
    wpAny (model PySem.Challenge.rw_sj0111_01.row.toRowW.prog w) (ktrTop dp un gd cn cs L a ccd cl outer) (call (.ref 246) [.ref b, .int many tm]) Q E s := by
  revert X; k_fill; intro X
  refine wpAny_call ?_
  k_dflt cell_enter
  k_steps
  all_goals (refine' ret _ _ _ _ _ _ ?e1 ?e2 ?F ?N; (case F => k_asm); (case N => k_asm); (case e1 => exact Int.fmod_nonneg_of_pos _ (by omega)); (case e2 => exact Int.fmod_lt_of_pos _ (by omega)))
theorem drawn_c {w : World} {mean : ExcName → Option Value} {mg mb : Str → Option Value} {dp un : Nat} {gd : Option (List Code)} {cn : Str} {cs : Scope} {a : Addr} {ccd : Value} {cl : List (Str × Addr)} {outer : List Env} {A₀ : Around} {base h₀ : Heap} {L : Addr} {m : Str → Option Value} {s : Shared} {Q E : Value → Shared → Prop}
    (B : Below A₀ base outer h₀) (F : Fr h₀ L s.heap m) (X : (Mine.hd.heap_39 w.params).In h₀) (T : Top Mine.hd.view_39 (looseW Mine.hd.view_39 []) mean mg mb h₀) (hk : cs.kind = .function)
    {b l : Addr} {k many : Int} {t tm : Tok} {nb c : Nat} {vs : List Value} {ns : List Int} {news : List (Addr × Obj)} {f : Obj → List (Addr × Obj)}
    (N : News h₀ L s.heap news) (hy : (l, W.listOf vs.toArray c) ∈ news) (hx : @Ne Nat b l) (U : UpdF b (boxO l k t nb) news f)
    (hi : IntsAre vs ns) (hlen : ns.length ≤ 48) (hk0 : 0 ≤ k ∧ k ≤ 100000) (hm : 1 ≤ many ∧ many ≤ 100000)
    (hdp : dp + 1 < recursionLimit) (hu : un + 8 < cLine)
    (ret : ∀ r t t' nb' h' tk', 0 ≤ r → r < many → Fr h₀ L h' m → News h₀ L h' (f (boxO l (k + 1) t' nb')) → Q (.int r t) { s with heap := h', toks := tk' }) :
    wpAny (model PySem.Challenge.rw_sj0111_01.row.toRowW.prog w) (ktrTop dp un gd cn cs L a ccd cl outer) (call (.ref 246) [.ref b, .int many tm]) Q E s := by
  obtain ⟨rest, off, N1, back⟩ := upd_in N U hy (Ne.symm hx)
  exact drawn_1 B F X T hk N1 off hx hi hlen hk0 hm hdp hu (fun r t t' nb' h' tk' a b F' N' => ret r t t' nb' h' tk' a b F' (back _ _ N'))
end
section
theorem tup_le_tree {prog : Program} {w : World} {A : Around} {E : Value → Shared → Prop} {s : Shared} {a b : Addr} {p q p' q' : Int} {t u t' u' : Tok} {P : Fin → Shared → Prop}
    (hx : IsTup s.heap a #[.int p t, .int q u]) (hy : IsTup s.heap b #[.int p' t', .int q' u']) (h : P (.done (.ret (.bool (decide (p < p' ∨ (p = p' ∧ q ≤ q')))))) s) :
    wpAny (model prog w) A (Builtin.«tuple.__le__» ⟨[.ref a, .ref b], []⟩) P E s := by
  have hTb : s.TypeIs (.ref b) "tuple" := by obtain ⟨o, ho, hc, _⟩ := hy; exact ⟨o, ho, hc⟩
  obtain ⟨oa, hoa, _, na, hda⟩ := hx
  obtain ⟨ob, hob, _, nb, hdb⟩ := hy
  show wpAny _ _ (isInstance (.ref b) (.type "tuple") >>= _) _ _ s
  refine wpAny_bind (wpAny_isInstance hTb isSubtype_tuple_tuple ?_)
  simp only [Bool.not_true, Bool.false_eq_true, if_false]
  refine wpAny_bind (wpAny_tupleItemsOf hoa hda ?_)
  refine wpAny_bind (wpAny_tupleItemsOf hob hdb ?_)
  refine wpAny_bind ?_
  show wpAny _ _ (forIn [((Value.int p t, Value.int p' t') : Value × Value), (Value.int q u, Value.int q' u')] _ _) _ _ s
  simp only [List.forIn_cons, List.forIn_nil]
  refine wpAny_bind (wpAny_bind (wpAny_eqBool_int ?_))
  by_cases h1 : p = p'
  · subst h1
    simp only [beq_self_eq_true, Bool.not_true, Bool.false_eq_true, if_false]
    refine wpAny_pure (wpAny_bind (wpAny_bind (wpAny_eqBool_int ?_)))
    by_cases h2 : q = q'
    · subst h2
      simp only [beq_self_eq_true, Bool.not_true, Bool.false_eq_true, if_false]
      refine wpAny_pure (wpAny_pure ?_)
      show wpAny (model prog w) A (pure (Fin.done (.ret (.bool (decide (2 ≤ 2)))))) P E s
      refine wpAny_pure ?_
      simpa using h
    · have h3 : (q == q') = false := by simpa using h2
      simp only [h3, Bool.not_false, if_true]
      refine wpAny_bind (wpAny_rule (wpAny_bind ?_))
      refine PyProof.Rows.le_int ?_
      refine wpAny_bind (wpAny_pure (wpAny_pure (wpAny_pure (wpAny_pure ?_))))
      simpa using h
  · have h3 : (p == p') = false := by simpa using h1
    simp only [h3, Bool.not_false, if_true]
    refine wpAny_bind (wpAny_rule (wpAny_bind ?_))
    refine PyProof.Rows.le_int ?_
    refine wpAny_bind (wpAny_pure (wpAny_pure (wpAny_pure (wpAny_pure ?_))))
    have h4 : decide (p ≤ p') = decide (p < p' ∨ (p = p' ∧ q ≤ q')) := by
      apply decide_eq_decide.mpr
      omega
    rw [h4]
    exact h
theorem tup_le {prog : Program} {w : World} {A : Around} {E : Value → Shared → Prop} {s : Shared} {a b : Addr} {p q p' q' : Int} {t u t' u' : Tok} {Q : Value → Shared → Prop}
    (hx : IsTup s.heap a #[.int p t, .int q u]) (hy : IsTup s.heap b #[.int p' t', .int q' u']) (hu : A.units < cLine) (h : Q (.bool (decide (p < p' ∨ (p = p' ∧ q ≤ q')))) s) :
    wpAny (model prog w) A (compareOp .LtE (.ref a) (.ref b)) Q E s := by
  have hTa : s.TypeIs (.ref a) "tuple" := by obtain ⟨o, ho, hc, _⟩ := hx; exact ⟨o, ho, hc⟩
  have hTb : s.TypeIs (.ref b) "tuple" := by obtain ⟨o, ho, hc, _⟩ := hy; exact ⟨o, ho, hc⟩
  exact cmp_ofLtE (wpAny_richCompare_same_room (op := .LtE) hTa hTb F.slot_tuple_le
      (wpAny_call_entry F.slot_tuple_le hTa F.entry_tuple_le (tup_le_tree hx hy ⟨_, rfl, (fun e => nomatch e), h⟩) (F.args_tuple_le_2 _ _)) hu)
end
section
theorem enter_all {prog : Program} {w : World} {A A₀ : Around} {s : Shared} {K : Frag} {L : Addr} {h₀ base : Heap} {m mg mb : Str → Option Value} {p : Program} {loose : List Str} {mean : ExcName → Option Value}
    {env : Env} {outer : List Env} {R : Result → Shared → Prop} {name qual : Str} {params : Arguments} {body : List Stmt} {scope : Scope} {dV kV doc pm cdv ct oc : Value} {an od : Option Addr} {osl : Array (Option Value)} {f : Addr} {args : Args} {binds : List (Str × Value)}
    (B : Below A₀ base outer h₀) (F : Fr h₀ L s.heap m) (X₀ : K.In h₀) (T : Top p loose mean mg mb h₀) (hA : A.frames = some (env :: outer)) (hf : env.frame = some L) (hke : env.scope.kind = .function)
    (ho : K.lookup f = some ⟨oc, od, .func (fnOf name qual params body scope dV kV doc pm an cdv ct), osl⟩) (hcd : codeIn K cdv qual = true) (hroom : A.depth < recursionLimit)
    (hbind : BindsTo s (fnOf name qual params body scope dV kV doc pm an cdv ct) args binds) (hloc : ∀ y ∈ binds, scope.names.lookup y.1 = some .local)
    (h : ∀ g L' h₁, (∀ b o, s.heap.get? b = some o → g.get? b = some o) → Fr h₀ L g m → Fr g L' h₁ (fun y => binds.reverse.lookup y) → News g L' h₁ [] → Below A base (env :: outer) g → K.In g → Top p loose mean mg mb g →
      wpAny (model prog w) (A.deeper (envOf qual scope L' f cdv)) (execs body (envOf qual scope L' f cdv))
        (fun fl s' => LeaveK h₀ L m g R (match fl with | .ret v => v | _ => .none) s')
        (fun e s' => wpAny (model prog w) (A.deeper (envOf qual scope L' f cdv)) (leaving (envOf qual scope L' f cdv) e) (fun _ s'' => R (.error e) s'') (fun e' s'' => R (.error e') s'') s')
        { s with heap := h₁, toks := s.toks + binds.length })
    (hcell : ∀ x ∈ scope.names, x.2 ≠ .cell) (hco : scope.isCoroutine = false) (hgen : scope.isGenerator = false) (hk : scope.kind = .function) : codeAny (model prog w) A (.call (.ref f) args) R s := by
  obtain ⟨FG, BG, st, lv⟩ := groundX (R := R) B F News.nil hA hf hke
  refine codeAny_call_def (fd := fnOf name qual params body scope dV kV doc pm an cdv ct) (body := body) (binds := binds) hroom ((X₀.keeps F.keep) _ _ ho) rfl (T.nolimit.keeps F.keep) (codeRec_of (X₀.keeps F.keep) hcd) rfl hbind hcell hloc (fun h₁ hns hk₁ => ?_) hco hgen hk
  exact wpAny_mono (h _ s.heap.objs.size h₁ (fun b o e => hideAll_get _ e List.not_mem_nil) FG ⟨hns, fun b o e => hk₁ b o (of_hideAll _ e), Nat.le_of_eq (hideAll_size _ _)⟩ News.nil BG (X₀.keeps st) (T.keeps st)) (fun fl s' hl => lv _ _ hl) fun _ _ y => y
theorem enter_allC {prog : Program} {w : World} {A A₀ : Around} {s : Shared} {K : Frag} {L : Addr} {h₀ base : Heap} {m mg mb : Str → Option Value} {p : Program} {loose : List Str} {mean : ExcName → Option Value}
    {env : Env} {outer : List Env} {R : Result → Shared → Prop} {name qual : Str} {params : Arguments} {body : List Stmt} {scope : Scope} {dV kV doc pm cdv ct oc : Value} {an od : Option Addr} {osl : Array (Option Value)} {f : Addr} {args : Args} {binds : List (Str × Value)}
    (B : Below A₀ base outer h₀) (F : Fr h₀ L s.heap m) (X₀ : K.In h₀) (T : Top p loose mean mg mb h₀) (hA : A.frames = some (env :: outer)) (hf : env.frame = some L) (hke : env.scope.kind = .function)
    (ho : K.lookup f = some ⟨oc, od, .func (fnOf name qual params body scope dV kV doc pm an cdv ct), osl⟩) (hcd : codeIn K cdv qual = true) (hroom : A.depth < recursionLimit)
    (hbind : BindsTo s (fnOf name qual params body scope dV kV doc pm an cdv ct) args binds) (hkind : (binds.all fun y => scope.names.lookup y.1 == some .local || scope.names.lookup y.1 == some .cell) = true)
    (hnd : ((cellsFrom 0 scope.names []).map (·.1)).Nodup)
    (h : ∀ g L' h₁ tk cells, (∀ b o, s.heap.get? b = some o → g.get? b = some o) → Fr h₀ L g m → Fr g L' h₁ (bindL (envOfC qual scope L' f cdv).kindOf binds fun _ => none) → News g L' h₁ cells →
      CellsAre (bindC (envOfC qual scope L' f cdv).kindOf binds fun _ => none) (cellsFrom (L' + 1) scope.names []) cells → Below A base (env :: outer) g → K.In g → Top p loose mean mg mb g →
      wpAny (model prog w) (A.deeper (envOfC qual scope L' f cdv)) (execs body (envOfC qual scope L' f cdv))
        (fun fl s' => LeaveK h₀ L m g R (match fl with | .ret v => v | _ => .none) s')
        (fun e s' => wpAny (model prog w) (A.deeper (envOfC qual scope L' f cdv)) (leaving (envOfC qual scope L' f cdv) e) (fun _ s'' => R (.error e) s'') (fun e' s'' => R (.error e') s'') s')
        { s with heap := h₁, toks := tk })
    (hco : scope.isCoroutine = false) (hgen : scope.isGenerator = false) (hk : scope.kind = .function) : codeAny (model prog w) A (.call (.ref f) args) R s := by
  obtain ⟨FG, BG, st, lv⟩ := groundX (R := R) B F News.nil hA hf hke
  refine codeAny_call_function hroom ((X₀.keeps F.keep) _ _ ho) rfl hco hgen rfl (codeRec_of (X₀.keeps F.keep) hcd) (hbind _ _ _ _ ?_)
  refine wpAny_newFunctionEnv_cells hk (kindsX hkind _) fun env' he s' x => ?_
  subst he
  refine ⟨(T.nolimit.keeps F.keep).keeps x.toInCall.keep, codeAny_func ?_⟩
  obtain ⟨h₁, tk, rfl, _⟩ := x.done
  have hk₁ := x.toInCall.keep
  obtain ⟨cells, NC, Y⟩ := Cl.news (h₀ := s.heap) (Nat.le_refl _) fun n c hm => ⟨x.cell n c (lookup_of_mem_nodup (cellsFrom_names scope.names 0 (s.heap.objs.size + 1) [] [] rfl ▸ hnd) hm), x.above n c hm⟩
  refine wpAny_mono (h _ s.heap.objs.size h₁ tk cells (fun b o e => hideAll_get _ e List.not_mem_nil) FG ⟨x.toInCall.ns, fun b o e => hk₁ b o (of_hideAll _ e), Nat.le_of_eq (hideAll_size _ _)⟩ (fun p hp => ?_) Y BG (X₀.keeps st) (T.keeps st)) (fun fl s' hl => lv _ _ hl) fun _ _ y => y
  refine ⟨(NC p hp).1, (NC p hp).2.1, Option.eq_none_iff_forall_ne_some.mpr fun o q => ?_⟩
  have z := of_hideAll _ q
  rw [(NC p hp).2.2] at z
  cases z
theorem back_all {h₀ g h h' : Heap} {L : Addr} {news : List (Addr × Obj)} (N : News h₀ L h news) (hg : ∀ b o, h.get? b = some o → g.get? b = some o) (k : ∀ b o, g.get? b = some o → h'.get? b = some o) : News h₀ L h' news :=
  fun q hq => ⟨k _ _ (hg _ _ (N q hq).1), (N q hq).2⟩
theorem leaveK_rest {h₀ g : Heap} {L L' : Addr} {m m' : Str → Option Value} {news' : List (Addr × Obj)} {R : Result → Shared → Prop} {v : Value} {s' : Shared} (F' : Fr g L' s'.heap m') (N' : News g L' s'.heap news')
    (k : (∀ b o, g.get? b = some o → s'.heap.get? b = some o) → Fr h₀ L s'.heap m → News h₀ L s'.heap news' → R (.ok (.ret v)) s') : LeaveK h₀ L m g R v s' := leaveK_ F' N' (k F'.keep)
theorem lt_room {a b n k : Nat} (h : a + n < b) (hk : k ≤ n) : a + k < b := Nat.lt_of_le_of_lt (Nat.add_le_add_left hk a) h
theorem news_both {h₀ h : Heap} {L : Addr} {p : Addr × Obj} {news : List (Addr × Obj)} (N : News h₀ L h [p]) (M : News h₀ L h news) : News h₀ L h (p :: news) := fun q hq => by
  rcases List.mem_cons.mp hq with rfl | hq
  · exact N _ (.head _)
  · exact M _ hq
theorem isList_g {g h : Heap} {L l : Addr} {m : Str → Option Value} {items : Array Value} (F : Fr g L h m) (hl : g.IsList l items) : h.IsList l items := hl.at fun o e => F.keep l o e
theorem instAt_g {g h : Heap} {L : Addr} {m : Str → Option Value} {x C dx : Addr} {od : Obj} (F : Fr g L h m) (hx : g.get? x = some (instObj C dx)) (hd : g.get? dx = some od) : InstAt h x (instObj C dx) C (some od) :=
  ⟨F.keep _ _ hx, rfl, rfl, F.keep _ _ hd⟩
end
section
noncomputable abbrev rttD (w : World) (k1 k2 k3 k4 k5 k6 : Tok) (latest : Int) (tl : Tok) (least : Int) (te : Tok) (s8 : Int) (t8 : Tok) (v4 : Int) (t4 : Tok) (fst : Int) (tf : Tok) : Obj :=
  dictOf [⟨PyData.keyHash w.params (Str.ofString "since"), .str (Str.ofString "since") k1, .none⟩,
    ⟨PyData.keyHash w.params (Str.ofString "latest"), .str (Str.ofString "latest") k2, .int latest tl⟩,
    ⟨PyData.keyHash w.params (Str.ofString "least"), .str (Str.ofString "least") k3, .int least te⟩,
    ⟨PyData.keyHash w.params (Str.ofString "smoothed8"), .str (Str.ofString "smoothed8") k4, .int s8 t8⟩,
    ⟨PyData.keyHash w.params (Str.ofString "variance4"), .str (Str.ofString "variance4") k5, .int v4 t4⟩,
    ⟨PyData.keyHash w.params (Str.ofString "first_at"), .str (Str.ofString "first_at") k6, .int fst tf⟩] 6
set_option maxHeartbeats 8000000 in
theorem smoothed_1 {w : World} {mean : ExcName → Option Value} {mg mb : Str → Option Value} {dp un : Nat} {gd : Option (List Code)} {cn : Str} {cs : Scope} {a : Addr} {ccd : Value} {cl : List (Str × Addr)} {outer : List Env} {A₀ : Around} {base h₀ : Heap} {L : Addr} {m : Str → Option Value} {s : Shared} {Q E : Value → Shared → Prop}
    (B : Below A₀ base outer h₀) (F : Fr h₀ L s.heap m) (X : (Mine.hd.heap_39 w.params).In h₀) (T : Top Mine.hd.view_39 (looseW Mine.hd.view_39 []) mean mg mb h₀) (hk : cs.kind = .function)
   {x dx : Addr} {k1 k2 k3 k4 k5 k6 tl te t8 t4 tf : Tok} {latest least s8 v4 fst : Int} {news : List (Addr × Obj)} 
    (N : News h₀ L s.heap ((dx, rttD w k1 k2 k3 k4 k5 k6 latest tl least te s8 t8 v4 t4 fst tf) :: (x, instObj 235 dx) :: news)) 
    (hdp : dp + 3 < recursionLimit) (hu : un + 24 < cLine)
    (ret : ∀ t h' tk', Fr h₀ L h' m → News h₀ L h' ((dx, rttD w k1 k2 k3 k4 k5 k6 latest tl least te s8 t8 v4 t4 fst tf) :: (x, instObj 235 dx) :: news) → Q (.int (s8.fdiv 8) t) { s with heap := h', toks := tk' }) :
    wpAny (model PySem.Challenge.rw_sj0111_01.row.toRowW.prog w) (ktrTop dp un gd cn cs L a ccd cl outer) (call (.ref 204) [.ref x]) Q E s := by
  revert X; k_fill; intro X
  refine wpAny_call ?_
  k_dflt cell_enter
  repeat' (first | ((with_reducible show wpAny _ _ (call (Value.ref _) _) _ _ _); first | ((with_reducible show wpAny _ _ (call (Value.ref _) _) _ _ _); (k_here; k_dflt (refine wpAny_call ?_; (refine' code_def ?k1 ?k2 ?k3 ?k4 ?k5 ?kA ?kF ?kK ?k6 ?k7 ?k8 ?k9 ?kB ?_ ?c2 ?c3 ?c4 ?c5; (case kA => exact rfl); (case kF => exact rfl); (case kK => first | exact rfl | assumption); (case k1 => k_asm); (case k2 => k_asm); (case k3 => k_asm); (case k4 => k_asm); (case k5 => k_asm); (case k6 => k_is); (case k7 => k_is); (case k8 => ktr_room); (case k9 => exact BindsTo.of_eq rfl); (case c5 => decide); (case kB => exact locs rfl); (case c2 => exact rfl); (case c3 => exact rfl); (case c4 => exact rfl); k_whole; intro g' L' h' FG' F' N' B' X' T'; (try dsimp only); (try k_lift B'); (try k_fold)))))) | (k_unfold; (try dsimp only)) | (k_end; wrow_close) | walk1 | (dsimp only; walk1) | (leave1; try dsimp only) | fail "no step")
  all_goals (refine' ret _ _ _ ?F ?N; (case F => k_asm); (case N => k_asm))
set_option maxHeartbeats 8000000 in
theorem sample_1 {w : World} {mean : ExcName → Option Value} {mg mb : Str → Option Value} {dp un : Nat} {gd : Option (List Code)} {cn : Str} {cs : Scope} {a : Addr} {ccd : Value} {cl : List (Str × Addr)} {outer : List Env} {A₀ : Around} {base h₀ : Heap} {L : Addr} {m : Str → Option Value} {s : Shared} {Q E : Value → Shared → Prop}
    (B : Below A₀ base outer h₀) (F : Fr h₀ L s.heap m) (X : (Mine.hd.heap_39 w.params).In h₀) (T : Top Mine.hd.view_39 (looseW Mine.hd.view_39 []) mean mg mb h₀) (hk : cs.kind = .function)
   {x dx : Addr} {k1 k2 k3 k4 k5 k6 tl te t8 t4 tf : Tok} {latest least s8 v4 fst : Int} {news : List (Addr × Obj)} {tm tn tz : Tok} {lat now : Int}
    (N : News h₀ L s.heap ((dx, rttD w k1 k2 k3 k4 k5 k6 latest tl least te s8 t8 v4 t4 fst tf) :: (x, instObj 235 dx) :: news)) (off : OwnOff news [dx]) (hx : @Ne Nat dx x)
    (hdp : dp + 3 < recursionLimit) (hu : un + 24 < cLine)
    (ret : ∀ (latest' least' v4' : Int) (tl te t8 t4 : Tok) h' tk', Fr h₀ L h' m → News h₀ L h' ((dx, rttD w k1 k2 k3 k4 k5 k6 latest' tl least' te (s8 - s8.fdiv 8 + lat) t8 v4' t4 fst tf) :: (x, instObj 235 dx) :: news) → Q .none { s with heap := h', toks := tk' }) :
    wpAny (model PySem.Challenge.rw_sj0111_01.row.toRowW.prog w) (ktrTop dp un gd cn cs L a ccd cl outer) (call (.ref 218) [.ref x, .int lat tz, .int 0 tm, .none, .int now tn]) Q E s := by
  revert X; k_fill; intro X
  have ret' : ∀ {latest' least' v4' s8' : Int} {tl te t8 t4 : Tok} {h' tk'}, s8' = s8 - s8.fdiv 8 + lat → Fr h₀ L h' m → News h₀ L h' ((dx, rttD w k1 k2 k3 k4 k5 k6 latest' tl least' te s8' t8 v4' t4 fst tf) :: (x, instObj 235 dx) :: news) → Q .none { s with heap := h', toks := tk' } := by
    intro latest' least' v4' s8' tl te t8 t4 h' tk' e F N; subst e; exact ret _ _ _ _ _ _ _ _ _ F N
  clear ret
  refine wpAny_call ?_
  k_dflt cell_enter
  repeat' (first | ((with_reducible show wpAny _ _ (call (Value.ref _) _) _ _ _); first | ((with_reducible show wpAny _ _ (call (Value.ref _) _) _ _ _); (k_here; k_dflt (refine wpAny_call ?_; (refine' code_def ?k1 ?k2 ?k3 ?k4 ?k5 ?kA ?kF ?kK ?k6 ?k7 ?k8 ?k9 ?kB ?_ ?c2 ?c3 ?c4 ?c5; (case kA => exact rfl); (case kF => exact rfl); (case kK => first | exact rfl | assumption); (case k1 => k_asm); (case k2 => k_asm); (case k3 => k_asm); (case k4 => k_asm); (case k5 => k_asm); (case k6 => k_is); (case k7 => k_is); (case k8 => ktr_room); (case k9 => exact BindsTo.of_eq rfl); (case c5 => decide); (case kB => exact locs rfl); (case c2 => exact rfl); (case c3 => exact rfl); (case c4 => exact rfl); k_whole; intro g' L' h' FG' F' N' B' X' T'; (try dsimp only); (try k_lift B'); (try k_fold)))))) | (k_unfold; (try dsimp only)) | (k_end; wrow_close) | walk1 | (dsimp only; walk1) | (leave1; try dsimp only) | fail "no step")
  all_goals (refine' ret' ?e ?F ?N; (case F => k_asm); (case N => k_asm); (case e => first | rfl | omega | (split <;> omega)))
theorem smoothed_c {w : World} {mean : ExcName → Option Value} {mg mb : Str → Option Value} {dp un : Nat} {gd : Option (List Code)} {cn : Str} {cs : Scope} {a : Addr} {ccd : Value} {cl : List (Str × Addr)} {outer : List Env} {A₀ : Around} {base h₀ : Heap} {L : Addr} {m : Str → Option Value} {s : Shared} {Q E : Value → Shared → Prop}
    (B : Below A₀ base outer h₀) (F : Fr h₀ L s.heap m) (X : (Mine.hd.heap_39 w.params).In h₀) (T : Top Mine.hd.view_39 (looseW Mine.hd.view_39 []) mean mg mb h₀) (hk : cs.kind = .function)
   {x dx : Addr} {k1 k2 k3 k4 k5 k6 tl te t8 t4 tf : Tok} {latest least s8 v4 fst : Int} {news : List (Addr × Obj)} 
    (N : News h₀ L s.heap news) (hy : (x, instObj 235 dx) ∈ news) (hd : (dx, (rttD w k1 k2 k3 k4 k5 k6 latest tl least te s8 t8 v4 t4 fst tf)) ∈ news) (hdp : dp + 3 < recursionLimit) (hu : un + 24 < cLine)
    (ret : ∀ v t h' tk', v = s8.fdiv 8 → Fr h₀ L h' m → News h₀ L h' news → Q (.int v t) { s with heap := h', toks := tk' }) :
    wpAny (model PySem.Challenge.rw_sj0111_01.row.toRowW.prog w) (ktrTop dp un gd cn cs L a ccd cl outer) (call (.ref 204) [.ref x]) Q E s :=
  smoothed_1 B F X T hk (news2 N hd hy) hdp hu (fun t h' tk' F' N' => ret _ t h' tk' rfl F' (news2_out N'))
theorem sample_c {w : World} {mean : ExcName → Option Value} {mg mb : Str → Option Value} {dp un : Nat} {gd : Option (List Code)} {cn : Str} {cs : Scope} {a : Addr} {ccd : Value} {cl : List (Str × Addr)} {outer : List Env} {A₀ : Around} {base h₀ : Heap} {L : Addr} {m : Str → Option Value} {s : Shared} {Q E : Value → Shared → Prop}
    (B : Below A₀ base outer h₀) (F : Fr h₀ L s.heap m) (X : (Mine.hd.heap_39 w.params).In h₀) (T : Top Mine.hd.view_39 (looseW Mine.hd.view_39 []) mean mg mb h₀) (hk : cs.kind = .function)
   {x dx : Addr} {k1 k2 k3 k4 k5 k6 tl te t8 t4 tf : Tok} {latest least s8 v4 fst : Int} {news : List (Addr × Obj)} {tm tn tz : Tok} {lat now : Int} {f : Obj → List (Addr × Obj)}
    (N : News h₀ L s.heap news) (hy : (x, instObj 235 dx) ∈ news) (hx : @Ne Nat dx x) (U : UpdF dx (rttD w k1 k2 k3 k4 k5 k6 latest tl least te s8 t8 v4 t4 fst tf) news f) (hdp : dp + 3 < recursionLimit) (hu : un + 24 < cLine)
    (ret : ∀ (latest' least' s8' v4' : Int) (tl te t8 t4 : Tok) h' tk', s8' = s8 - s8.fdiv 8 + lat → Fr h₀ L h' m → News h₀ L h' (f (rttD w k1 k2 k3 k4 k5 k6 latest' tl least' te s8' t8 v4' t4 fst tf)) → Q .none { s with heap := h', toks := tk' }) :
    wpAny (model PySem.Challenge.rw_sj0111_01.row.toRowW.prog w) (ktrTop dp un gd cn cs L a ccd cl outer) (call (.ref 218) [.ref x, .int lat tz, .int 0 tm, .none, .int now tn]) Q E s := by
  obtain ⟨rest, off, N1, back⟩ := upd_in N U hy (Ne.symm hx)
  exact sample_1 B F X T hk N1 off hx hdp hu (fun a b d tl te t8 t4 h' tk' F' N' => ret a b _ d tl te t8 t4 h' tk' rfl F' (back _ _ N'))
end
section
noncomputable def lastOf : List Stmt → Stmt
  | [x] => x
  | _ :: r => lastOf r
  | [] => .Pass ⟨0, 0, 0, 0⟩
noncomputable def bodyOf : Stmt → List Stmt
  | .FunctionDef _ _ b _ _ _ _ _ _ _ => b
  | .For _ _ b _ _ => b
  | _ => []
noncomputable def scopeOf : Stmt → Scope
  | .FunctionDef _ _ _ _ _ _ s _ _ _ => s
  | _ => { kind := .module, names := [], isGenerator := false, isCoroutine := false }
noncomputable def takeS : Nat → List Stmt → List Stmt
  | n + 1, x :: r => x :: takeS n r
  | _, _ => []
noncomputable def dropS : Nat → List Stmt → List Stmt
  | 0, l => l
  | n + 1, _ :: r => dropS n r
  | _, [] => []
noncomputable def headS : List Stmt → Stmt
  | x :: _ => x
  | [] => .Pass ⟨0, 0, 0, 0⟩
noncomputable def lawDef : Stmt := lastOf PySem.Challenge.pw_sj0111_01.main.body
noncomputable def lawBody : List Stmt := bodyOf lawDef
noncomputable def lawScope : Scope := scopeOf lawDef
noncomputable def forBody : List Stmt := bodyOf (headS (dropS 7 lawBody))
theorem fr_kst {h₀ h : Heap} {L : Addr} {m : Str → Option Value} {ps : List (Str × Value)} (F : Fr h₀ L h m) (hp : ∀ p ∈ ps, m p.1 = some p.2) : Fr h₀ L h (kstB m ps) := by
  have e : kstB m ps = m := funext fun z => kstB_eq hp (fun _ => rfl)
  rw [e]; exact F
theorem menu_dt {n : Nat} : 0 ≤ ([0, 1, 9, 400, 60] : List Int).getD n 0 ∧ ([0, 1, 9, 400, 60] : List Int).getD n 0 ≤ 400 := by
  rcases n with _ | _ | _ | _ | _ | n <;> simp
end
section
local macro_rules | `(tactic| k_inst) => `(tactic| (refine' instAt_g ?kf ?kx ?kd; (case kf => k_asm); (case kx => assumption); (case kd => assumption)))
noncomputable abbrev tupO (a : Int) (t : Tok) (b : Int) (u : Tok) : Obj := { cls := .type "tuple", data := .seq #[.int a t, .int b u] }
noncomputable def waitV (left rst size window sm : Int) : Int := if size ≤ left then 0 else ((size - left) * bot sm - (if bot sm - 1 < rst then bot sm - 1 else rst) + 5 * (if 1 > window then 1 else window) - 1).fdiv (5 * (if 1 > window then 1 else window))
set_option maxHeartbeats 4000000 in
theorem left_u {w : World} {mean : ExcName → Option Value} {mg mb : Str → Option Value} {dp un : Nat} {gd : Option (List Code)} {cn : Str} {cs : Scope} {a : Addr} {ccd : Value} {cl : List (Str × Addr)} {outer : List Env} {A₀ : Around} {base h₀ : Heap} {L : Addr} {m : Str → Option Value} {s : Shared} {Q E : Value → Shared → Prop}
    (B : Below A₀ base outer h₀) (F : Fr h₀ L s.heap m) (X : (Mine.hd.heap_39 w.params).In h₀) (T : Top Mine.hd.view_39 (looseW Mine.hd.view_39 []) mean mg mb h₀) (hk : cs.kind = .function)
   {x dx : Addr} {k1 k2 k3 k4 tb tl tr ts : Tok} {burst left rst seen : Int} {news : List (Addr × Obj)} {more : Int} {tm : Tok}
    (hx : s.heap.get? x = some (instObj 66 dx)) (hd : s.heap.get? dx = some (pacerD w k1 k2 k3 k4 burst tb left tl rst tr seen ts)) (N : News h₀ L s.heap news) (hdp : dp + 1 < recursionLimit) 
    (ret : ∀ D t h' tk', Fr h₀ L h' m → News h₀ L h' ((D, tupO (left + more) t rst tr) :: news) → Q (.ref D) { s with heap := h', toks := tk' }) :
    wpAny (model PySem.Challenge.rw_sj0111_01.row.toRowW.prog w) (ktrTop dp un gd cn cs L a ccd cl outer) (call (.ref 253) [.ref x, .int more tm]) Q E s := by
  revert X; k_fill; intro X
  refine wpAny_call ?_
  refine' enter_all ?k1 ?k2 ?k3 ?k5 ?kA ?kF ?kK ?k6 ?k7 ?k8 ?k9 ?kB ?_ ?c5 ?c2 ?c3 ?c4
  (case kA => exact rfl); (case kF => exact rfl); (case kK => assumption); (case k1 => exact B); (case k2 => exact F); (case k3 => exact X); (case k5 => exact T)
  k_dflt (case k6 => k_is)
  k_dflt (case k7 => k_is)
  (case k8 => exact Nat.lt_of_le_of_lt (Nat.le_add_right _ _) hdp)
  k_dflt (case k9 => exact BindsTo.of_eq rfl)
  k_dflt (case kB => exact locs rfl)
  (case c5 => decide); (case c2 => exact rfl); (case c3 => exact rfl); (case c4 => exact rfl)
  intro g L' h₁ hg FG' F' N' B' X' T'
  dsimp only
  k_fold
  have hx' := hg _ _ hx
  have hd' := hg _ _ hd
  clear F hx hd X T B
  repeat' (first | (k_dflt (refine' leaveK_rest ?k1 ?k2 ?_; (case k1 => k_asm); (case k2 => k_asm); k_whole); intro kG kF kN; dsimp only) | (k_unfold; (try dsimp only)) | (k_end; wrow_close) | walk1 | (dsimp only; walk1) | (leave1; try dsimp only) | fail "no step")
  refine' ret _ _ _ _ ?F (news_both ?N (back_all N hg ?G))
  (case F => k_asm)
  (case N => k_asm)
  (case G => assumption)
set_option maxHeartbeats 4000000 in
theorem may_u {w : World} {mean : ExcName → Option Value} {mg mb : Str → Option Value} {dp un : Nat} {gd : Option (List Code)} {cn : Str} {cs : Scope} {a : Addr} {ccd : Value} {cl : List (Str × Addr)} {outer : List Env} {A₀ : Around} {base h₀ : Heap} {L : Addr} {m : Str → Option Value} {s : Shared} {Q E : Value → Shared → Prop}
    (B : Below A₀ base outer h₀) (F : Fr h₀ L s.heap m) (X : (Mine.hd.heap_39 w.params).In h₀) (T : Top Mine.hd.view_39 (looseW Mine.hd.view_39 []) mean mg mb h₀) (hk : cs.kind = .function)
   {x dx : Addr} {k1 k2 k3 k4 tb tl tr ts : Tok} {burst left rst seen : Int} {news : List (Addr × Obj)} {size : Int} {tz : Tok}
    (hx : s.heap.get? x = some (instObj 66 dx)) (hd : s.heap.get? dx = some (pacerD w k1 k2 k3 k4 burst tb left tl rst tr seen ts)) (N : News h₀ L s.heap news) (hdp : dp + 1 < recursionLimit) 
    (ret : ∀ h' tk', Fr h₀ L h' m → News h₀ L h' news → Q (.bool (decide (size ≤ left))) { s with heap := h', toks := tk' }) :
    wpAny (model PySem.Challenge.rw_sj0111_01.row.toRowW.prog w) (ktrTop dp un gd cn cs L a ccd cl outer) (call (.ref 49) [.ref x, .int size tz]) Q E s := by
  revert X; k_fill; intro X
  refine wpAny_call ?_
  refine' enter_all ?k1 ?k2 ?k3 ?k5 ?kA ?kF ?kK ?k6 ?k7 ?k8 ?k9 ?kB ?_ ?c5 ?c2 ?c3 ?c4
  (case kA => exact rfl); (case kF => exact rfl); (case kK => assumption); (case k1 => exact B); (case k2 => exact F); (case k3 => exact X); (case k5 => exact T)
  k_dflt (case k6 => k_is)
  k_dflt (case k7 => k_is)
  (case k8 => exact Nat.lt_of_le_of_lt (Nat.le_add_right _ _) hdp)
  k_dflt (case k9 => exact BindsTo.of_eq rfl)
  k_dflt (case kB => exact locs rfl)
  (case c5 => decide); (case c2 => exact rfl); (case c3 => exact rfl); (case c4 => exact rfl)
  intro g L' h₁ hg FG' F' N' B' X' T'
  dsimp only
  k_fold
  have hx' := hg _ _ hx
  have hd' := hg _ _ hd
  clear F hx hd X T B
  repeat' (first | (k_dflt (refine' leaveK_rest ?k1 ?k2 ?_; (case k1 => k_asm); (case k2 => k_asm); k_whole); intro kG kF kN; dsimp only) | (k_unfold; (try dsimp only)) | (k_end; wrow_close) | walk1 | (dsimp only; walk1) | (leave1; try dsimp only) | fail "no step")
  refine' ret _ _ ?F (back_all N hg ?G)
  (case F => k_asm)
  (case G => assumption)
set_option maxHeartbeats 4000000 in
theorem wait_u {w : World} {mean : ExcName → Option Value} {mg mb : Str → Option Value} {dp un : Nat} {gd : Option (List Code)} {cn : Str} {cs : Scope} {a : Addr} {ccd : Value} {cl : List (Str × Addr)} {outer : List Env} {A₀ : Around} {base h₀ : Heap} {L : Addr} {m : Str → Option Value} {s : Shared} {Q E : Value → Shared → Prop}
    (B : Below A₀ base outer h₀) (F : Fr h₀ L s.heap m) (X : (Mine.hd.heap_39 w.params).In h₀) (T : Top Mine.hd.view_39 (looseW Mine.hd.view_39 []) mean mg mb h₀) (hk : cs.kind = .function)
   {x dx : Addr} {k1 k2 k3 k4 tb tl tr ts : Tok} {burst left rst seen : Int} {news : List (Addr × Obj)} {size window sm : Int} {tz tw tm : Tok}
    (hx : s.heap.get? x = some (instObj 66 dx)) (hd : s.heap.get? dx = some (pacerD w k1 k2 k3 k4 burst tb left tl rst tr seen ts)) (N : News h₀ L s.heap news) (hdp : dp + 1 < recursionLimit) (hw : 0 ≤ window ∧ window ≤ 1000000) (hs : 0 ≤ sm ∧ sm ≤ 1000000)
    (ret : ∀ v t h' tk', v = waitV left rst size window sm → Fr h₀ L h' m → News h₀ L h' news → Q (.int v t) { s with heap := h', toks := tk' }) :
    wpAny (model PySem.Challenge.rw_sj0111_01.row.toRowW.prog w) (ktrTop dp un gd cn cs L a ccd cl outer) (call (.ref 63) [.ref x, .int size tz, .int window tw, .int sm tm]) Q E s := by
  revert X; k_fill; intro X
  refine wpAny_call ?_
  refine' enter_all ?k1 ?k2 ?k3 ?k5 ?kA ?kF ?kK ?k6 ?k7 ?k8 ?k9 ?kB ?_ ?c5 ?c2 ?c3 ?c4
  (case kA => exact rfl); (case kF => exact rfl); (case kK => assumption); (case k1 => exact B); (case k2 => exact F); (case k3 => exact X); (case k5 => exact T)
  k_dflt (case k6 => k_is)
  k_dflt (case k7 => k_is)
  (case k8 => exact Nat.lt_of_le_of_lt (Nat.le_add_right _ _) hdp)
  k_dflt (case k9 => exact BindsTo.of_eq rfl)
  k_dflt (case kB => exact locs rfl)
  (case c5 => decide); (case c2 => exact rfl); (case c3 => exact rfl); (case c4 => exact rfl)
  intro g L' h₁ hg FG' F' N' B' X' T'
  dsimp only
  k_fold
  have hx' := hg _ _ hx
  have hd' := hg _ _ hd
  clear F hx hd X T B
  repeat' (first | (k_dflt (refine' leaveK_rest ?k1 ?k2 ?_; (case k1 => k_asm); (case k2 => k_asm); k_whole); intro kG kF kN; dsimp only) | (k_unfold; (try dsimp only)) | (k_end; wrow_close) | walk1 | (dsimp only; walk1) | (leave1; try dsimp only) | fail "no step")
  all_goals (refine' ret _ _ _ _ ?e ?F (back_all N hg ?G); (case F => k_asm); (case G => assumption); (case e => (first | exact (if_pos (by assumption)).symm | exact (if_neg (by omega)).symm)))
end
section
set_option maxHeartbeats 4000000 in
theorem sent_1 {w : World} {mean : ExcName → Option Value} {mg mb : Str → Option Value} {dp un : Nat} {gd : Option (List Code)} {cn : Str} {cs : Scope} {a : Addr} {ccd : Value} {cl : List (Str × Addr)} {outer : List Env} {A₀ : Around} {base h₀ : Heap} {L : Addr} {m : Str → Option Value} {s : Shared} {Q E : Value → Shared → Prop}
    (B : Below A₀ base outer h₀) (F : Fr h₀ L s.heap m) (X : (Mine.hd.heap_39 w.params).In h₀) (T : Top Mine.hd.view_39 (looseW Mine.hd.view_39 []) mean mg mb h₀) (hk : cs.kind = .function)
   {x dx : Addr} {k1 k2 k3 k4 tb tl tr ts : Tok} {burst left rst seen : Int} {news : List (Addr × Obj)} {tz : Tok} {size : Int}
    (N : News h₀ L s.heap ((dx, pacerD w k1 k2 k3 k4 burst tb left tl rst tr seen ts) :: (x, instObj 66 dx) :: news)) (off : OwnOff news [dx]) (hx : @Ne Nat dx x)
    (hdp : dp + 1 < recursionLimit) (hu : un + 8 < cLine)
    (ret : ∀ tl h' tk', Fr h₀ L h' m → News h₀ L h' ((dx, pacerD w k1 k2 k3 k4 burst tb (left - size) tl rst tr seen ts) :: (x, instObj 66 dx) :: news) → Q .none { s with heap := h', toks := tk' }) :
    wpAny (model PySem.Challenge.rw_sj0111_01.row.toRowW.prog w) (ktrTop dp un gd cn cs L a ccd cl outer) (call (.ref 56) [.ref x, .int size tz]) Q E s := by
  revert X; k_fill; intro X
  refine wpAny_call ?_
  k_dflt cell_enter
  k_steps
  all_goals (refine' ret _ _ _ ?F ?N; (case F => k_asm); (case N => k_asm))
theorem sent_c {w : World} {mean : ExcName → Option Value} {mg mb : Str → Option Value} {dp un : Nat} {gd : Option (List Code)} {cn : Str} {cs : Scope} {a : Addr} {ccd : Value} {cl : List (Str × Addr)} {outer : List Env} {A₀ : Around} {base h₀ : Heap} {L : Addr} {m : Str → Option Value} {s : Shared} {Q E : Value → Shared → Prop}
    (B : Below A₀ base outer h₀) (F : Fr h₀ L s.heap m) (X : (Mine.hd.heap_39 w.params).In h₀) (T : Top Mine.hd.view_39 (looseW Mine.hd.view_39 []) mean mg mb h₀) (hk : cs.kind = .function)
   {x dx : Addr} {k1 k2 k3 k4 tb tl tr ts : Tok} {burst left rst seen : Int} {news : List (Addr × Obj)} {tz : Tok} {size : Int}{f : Obj → List (Addr × Obj)}
    (N : News h₀ L s.heap news) (hy : (x, instObj 66 dx) ∈ news) (hx : @Ne Nat dx x) (U : UpdF dx (pacerD w k1 k2 k3 k4 burst tb left tl rst tr seen ts) news f) (hdp : dp + 1 < recursionLimit) (hu : un + 8 < cLine)
    (ret : ∀ tl h' tk', Fr h₀ L h' m → News h₀ L h' (f (pacerD w k1 k2 k3 k4 burst tb (left - size) tl rst tr seen ts)) → Q .none { s with heap := h', toks := tk' }) :
    wpAny (model PySem.Challenge.rw_sj0111_01.row.toRowW.prog w) (ktrTop dp un gd cn cs L a ccd cl outer) (call (.ref 56) [.ref x, .int size tz]) Q E s := by
  obtain ⟨rest, off, N1, back⟩ := upd_in N U hy (Ne.symm hx)
  exact sent_1 B F X T hk N1 off hx hdp hu (fun tl h' tk' F' N' => ret tl h' tk' F' (back _ _ N'))
theorem earn_c {w : World} {mean : ExcName → Option Value} {mg mb : Str → Option Value} {dp un : Nat} {gd : Option (List Code)} {cn : Str} {cs : Scope} {a : Addr} {ccd : Value} {cl : List (Str × Addr)} {outer : List Env} {A₀ : Around} {base h₀ : Heap} {L : Addr} {m : Str → Option Value} {s : Shared} {Q E : Value → Shared → Prop}
    (B : Below A₀ base outer h₀) (F : Fr h₀ L s.heap m) (X : (Mine.hd.heap_39 w.params).In h₀) (T : Top Mine.hd.view_39 (looseW Mine.hd.view_39 []) mean mg mb h₀) (hk : cs.kind = .function)
   {x dx : Addr} {k1 k2 k3 k4 tb tl tr ts : Tok} {burst left rst seen : Int} {news : List (Addr × Obj)} {tw tm tn : Tok} {window sm now : Int}{f : Obj → List (Addr × Obj)}
    (N : News h₀ L s.heap news) (hy : (x, instObj 66 dx) ∈ news) (hx : @Ne Nat dx x) (U : UpdF dx (pacerD w k1 k2 k3 k4 burst tb left tl rst tr seen ts) news f) (hw : 0 ≤ window ∧ window ≤ 1000000) (hs : 0 ≤ sm ∧ sm ≤ 1000000) (hdp : dp + 1 < recursionLimit) (hu : un + 8 < cLine)
    (ret : ∀ l r tl tr ts h' tk', l = earnL burst left rst window sm (now - seen) → r = earnR burst left rst window sm (now - seen) → Fr h₀ L h' m → News h₀ L h' (f (pacerD w k1 k2 k3 k4 burst tb l tl r tr now ts)) → Q .none { s with heap := h', toks := tk' }) :
    wpAny (model PySem.Challenge.rw_sj0111_01.row.toRowW.prog w) (ktrTop dp un gd cn cs L a ccd cl outer) (call (.ref 42) [.ref x, .int window tw, .int sm tm, .int now tn]) Q E s := by
  obtain ⟨rest, off, N1, back⟩ := upd_in N U hy (Ne.symm hx)
  exact earn_1 B F X T hk N1 off hx hw hs hdp hu (fun tl tr ts h' tk' F' N' => ret _ _ tl tr ts h' tk' rfl rfl F' (back _ _ N'))
noncomputable def TwinOk (b l r w sm size : Int) : Prop := ∀ t, 0 ≤ t → (size ≤ earnL b l r w sm t ↔ waitV l r size w sm ≤ t)
theorem twin_fact {b l r w sm size l' t : Int} (h : TwinOk b l r w sm size) (e : l' = earnL b l r w sm t) : 0 ≤ t → (size ≤ l' ↔ waitV l r size w sm ≤ t) := fun ht => e ▸ h t ht
end
section
local macro_rules | `(tactic| k_inst) => `(tactic| (refine' instAt_g ?kf ?kx ?kd; (case kf => k_asm); (case kx => assumption); (case kd => assumption)))
noncomputable abbrev renoD (w : World) (k1 k2 k3 k4 k5 k6 : Tok) (td : Tok) (window : Int) (tw : Tok) (thr rec : Value) (flight : Int) (tf : Tok) (credit : Int) (tc : Tok) : Obj :=
  dictOf [⟨PyData.keyHash w.params (Str.ofString "datagram"), .str (Str.ofString "datagram") k1, .int 12 td⟩,
    ⟨PyData.keyHash w.params (Str.ofString "window"), .str (Str.ofString "window") k2, .int window tw⟩,
    ⟨PyData.keyHash w.params (Str.ofString "threshold"), .str (Str.ofString "threshold") k3, thr⟩,
    ⟨PyData.keyHash w.params (Str.ofString "recovery_at"), .str (Str.ofString "recovery_at") k4, rec⟩,
    ⟨PyData.keyHash w.params (Str.ofString "in_flight"), .str (Str.ofString "in_flight") k5, .int flight tf⟩,
    ⟨PyData.keyHash w.params (Str.ofString "credit"), .str (Str.ofString "credit") k6, .int credit tc⟩] 6
noncomputable def NoneOrInt (v : Value) : Prop := v = .none ∨ ∃ (i : Int) (t : Tok), v = .int i t
theorem cong_ar {x : Int} (h : 24 ≤ x) : 24 ≤ (if 2 * 12 > (x * 1).fdiv 2 then 2 * 12 else (x * 1).fdiv 2) ∧ (if 2 * 12 > (x * 1).fdiv 2 then 2 * 12 else (x * 1).fdiv 2) ≤ x := by
  rw [Int.fdiv_eq_ediv_of_nonneg _ (by decide)]
  split <;> omega
theorem cong_cr {x : Int} (h : 24 ≤ x) : 0 ≤ (0 : Int) ∧ 0 < (if 2 * 12 > (x * 1).fdiv 2 then 2 * 12 else (x * 1).fdiv 2) := by
  have := cong_ar h
  omega
theorem widen_ar {x c z : Int} (h : 24 ≤ x) (hc : 0 ≤ c ∧ c < x) (hz : 0 ≤ z) :
    (x ≤ x + (c + 12 * z).fdiv x ∧ x + (c + 12 * z).fdiv x ≤ x + z) ∧ (0 ≤ c + 12 * z - (c + 12 * z).fdiv x * x ∧ c + 12 * z - (c + 12 * z).fdiv x * x < x + (c + 12 * z).fdiv x) := by
  rw [Int.fdiv_eq_ediv_of_nonneg _ (by omega)]
  have h1 := Int.ediv_nonneg (show 0 ≤ c + 12 * z by omega) (show 0 ≤ x by omega)
  have h2 := Int.emod_nonneg (c + 12 * z) (show x ≠ 0 by omega)
  have h3 := Int.emod_lt_of_pos (c + 12 * z) (show 0 < x by omega)
  have h4 := Int.emod_add_mul_ediv (c + 12 * z) x
  have h5 : (c + 12 * z) / x ≤ z := by
    refine Int.le_of_lt_add_one ((Int.ediv_lt_iff_lt_mul (by omega)).mpr ?_)
    have h6 : z * 12 ≤ z * x := Int.mul_le_mul_of_nonneg_left (by omega) hz
    rw [Int.add_mul]
    omega
  rw [Int.mul_comm x] at h4
  generalize (c + 12 * z) / x = q at *
  generalize q * x = p at *
  omega
theorem bad1 {P C : Prop} {b : Bool} (e : P → b = false) (a : b = true) (h : P) : C := by rw [e h] at a; cases a
theorem bad2 {P C : Prop} {b : Bool} (e : P → b = true) (a : b = false) (h : P) : C := by rw [e h] at a; cases a
theorem slow_ar {x c z : Int} (hc : 0 ≤ c ∧ c < x) (hz : 0 ≤ z ∧ z ≤ 1000000) : (x ≤ x + z ∧ x + z ≤ x + z) ∧ (0 ≤ c ∧ c < x + z) := by omega
theorem same_ar {x z : Int} (hz : 0 ≤ z ∧ z ≤ 1000000) : x ≤ x ∧ x ≤ x + z := by omega
set_option maxHeartbeats 8000000 in
theorem inrec_u {w : World} {mean : ExcName → Option Value} {mg mb : Str → Option Value} {dp un : Nat} {gd : Option (List Code)} {cn : Str} {cs : Scope} {a : Addr} {ccd : Value} {cl : List (Str × Addr)} {outer : List Env} {A₀ : Around} {base h₀ : Heap} {L : Addr} {m : Str → Option Value} {s : Shared} {Q E : Value → Shared → Prop}
    (B : Below A₀ base outer h₀) (F : Fr h₀ L s.heap m) (X : (Mine.hd.heap_39 w.params).In h₀) (T : Top Mine.hd.view_39 (looseW Mine.hd.view_39 []) mean mg mb h₀) (hk : cs.kind = .function)
   {x dx : Addr} {k1 k2 k3 k4 k5 k6 td tw tf tc : Tok} {window flight credit : Int} {thr rec : Value} {news : List (Addr × Obj)} {sent : Int} {tz : Tok}
    (hx : s.heap.get? x = some (instObj 171 dx)) (hd : s.heap.get? dx = some (renoD w k1 k2 k3 k4 k5 k6 td window tw thr rec flight tf credit tc)) (N : News h₀ L s.heap news) (hdp : dp + 1 < recursionLimit) (hr : NoneOrInt rec)
    (ret : ∀ b h' tk', (rec = .none → b = false) → Fr h₀ L h' m → News h₀ L h' news → Q (.bool b) { s with heap := h', toks := tk' }) :
    wpAny (model PySem.Challenge.rw_sj0111_01.row.toRowW.prog w) (ktrTop dp un gd cn cs L a ccd cl outer) (call (.ref 119) [.ref x, .int sent tz]) Q E s := by
  revert X; k_fill; intro X
  rcases hr with rfl | ⟨_, _, rfl⟩
  all_goals refine wpAny_call ?_
  all_goals (
    refine' enter_all ?k1 ?k2 ?k3 ?k5 ?kA ?kF ?kK ?k6 ?k7 ?k8 ?k9 ?kB ?_ ?c5 ?c2 ?c3 ?c4
    (case kA => exact rfl); (case kF => exact rfl); (case kK => assumption); (case k1 => exact B); (case k2 => exact F); (case k3 => exact X); (case k5 => exact T)
    k_dflt (case k6 => k_is)
    k_dflt (case k7 => k_is)
    (case k8 => exact Nat.lt_of_le_of_lt (Nat.le_add_right _ _) hdp)
    k_dflt (case k9 => exact BindsTo.of_eq rfl)
    k_dflt (case kB => exact locs rfl)
    (case c5 => decide); (case c2 => exact rfl); (case c3 => exact rfl); (case c4 => exact rfl)
    intro g L' h₁ hg FG' F' N' B' X' T'
    dsimp only
    k_fold
    have hx' := hg _ _ hx
    have hd' := hg _ _ hd
    clear F hx hd X T B
    repeat' (first | ((with_reducible show LeaveK _ _ _ _ _ _ _); k_dflt (refine' leaveK_rest ?k1 ?k2 ?_; (case k1 => k_asm); (case k2 => k_asm); k_whole); intro kG kF kN; dsimp only) | (k_unfold; (try dsimp only)) | (k_end; wrow_close) | walk1 | (dsimp only; walk1) | (leave1; try dsimp only) | (dsimp only; with_reducible show LeaveK _ _ _ _ _ _ _) | fail "no step"))
  all_goals (refine' ret _ _ _ ?e ?F (back_all N hg ?G); (case F => k_asm); (case G => assumption); (case e => first | exact fun _ => rfl | (intro e; cases e)))
set_option maxHeartbeats 8000000 in
theorem slow_u {w : World} {mean : ExcName → Option Value} {mg mb : Str → Option Value} {dp un : Nat} {gd : Option (List Code)} {cn : Str} {cs : Scope} {a : Addr} {ccd : Value} {cl : List (Str × Addr)} {outer : List Env} {A₀ : Around} {base h₀ : Heap} {L : Addr} {m : Str → Option Value} {s : Shared} {Q E : Value → Shared → Prop}
    (B : Below A₀ base outer h₀) (F : Fr h₀ L s.heap m) (X : (Mine.hd.heap_39 w.params).In h₀) (T : Top Mine.hd.view_39 (looseW Mine.hd.view_39 []) mean mg mb h₀) (hk : cs.kind = .function)
   {x dx : Addr} {k1 k2 k3 k4 k5 k6 td tw tf tc : Tok} {window flight credit : Int} {thr rec : Value} {news : List (Addr × Obj)} 
    (hx : s.heap.get? x = some (instObj 171 dx)) (hd : s.heap.get? dx = some (renoD w k1 k2 k3 k4 k5 k6 td window tw thr rec flight tf credit tc)) (N : News h₀ L s.heap news) (hdp : dp + 1 < recursionLimit) (ht : NoneOrInt thr)
    (ret : ∀ b h' tk', (thr = .none → b = true) → Fr h₀ L h' m → News h₀ L h' news → Q (.bool b) { s with heap := h', toks := tk' }) :
    wpAny (model PySem.Challenge.rw_sj0111_01.row.toRowW.prog w) (ktrTop dp un gd cn cs L a ccd cl outer) (call (.ref 112) [.ref x]) Q E s := by
  revert X; k_fill; intro X
  rcases ht with rfl | ⟨_, _, rfl⟩
  all_goals refine wpAny_call ?_
  all_goals (
    refine' enter_all ?k1 ?k2 ?k3 ?k5 ?kA ?kF ?kK ?k6 ?k7 ?k8 ?k9 ?kB ?_ ?c5 ?c2 ?c3 ?c4
    (case kA => exact rfl); (case kF => exact rfl); (case kK => assumption); (case k1 => exact B); (case k2 => exact F); (case k3 => exact X); (case k5 => exact T)
    k_dflt (case k6 => k_is)
    k_dflt (case k7 => k_is)
    (case k8 => exact Nat.lt_of_le_of_lt (Nat.le_add_right _ _) hdp)
    k_dflt (case k9 => exact BindsTo.of_eq rfl)
    k_dflt (case kB => exact locs rfl)
    (case c5 => decide); (case c2 => exact rfl); (case c3 => exact rfl); (case c4 => exact rfl)
    intro g L' h₁ hg FG' F' N' B' X' T'
    dsimp only
    k_fold
    have hx' := hg _ _ hx
    have hd' := hg _ _ hd
    clear F hx hd X T B
    repeat' (first | ((with_reducible show LeaveK _ _ _ _ _ _ _); k_dflt (refine' leaveK_rest ?k1 ?k2 ?_; (case k1 => k_asm); (case k2 => k_asm); k_whole); intro kG kF kN; dsimp only) | (k_unfold; (try dsimp only)) | (k_end; wrow_close) | walk1 | (dsimp only; walk1) | (leave1; try dsimp only) | (dsimp only; with_reducible show LeaveK _ _ _ _ _ _ _) | fail "no step"))
  all_goals (refine' ret _ _ _ ?e ?F (back_all N hg ?G); (case F => k_asm); (case G => assumption); (case e => first | exact fun _ => rfl | (intro e; cases e)))
set_option maxHeartbeats 8000000 in
theorem rsent_1 {w : World} {mean : ExcName → Option Value} {mg mb : Str → Option Value} {dp un : Nat} {gd : Option (List Code)} {cn : Str} {cs : Scope} {a : Addr} {ccd : Value} {cl : List (Str × Addr)} {outer : List Env} {A₀ : Around} {base h₀ : Heap} {L : Addr} {m : Str → Option Value} {s : Shared} {Q E : Value → Shared → Prop}
    (B : Below A₀ base outer h₀) (F : Fr h₀ L s.heap m) (X : (Mine.hd.heap_39 w.params).In h₀) (T : Top Mine.hd.view_39 (looseW Mine.hd.view_39 []) mean mg mb h₀) (hk : cs.kind = .function)
   {x dx : Addr} {k1 k2 k3 k4 k5 k6 td tw tf tc : Tok} {window flight credit : Int} {thr rec : Value} {news : List (Addr × Obj)} {tz : Tok} {size : Int}
    (N : News h₀ L s.heap ((dx, (renoD w k1 k2 k3 k4 k5 k6 td window tw thr rec flight tf credit tc)) :: (x, instObj 171 dx) :: news)) (off : OwnOff news [dx]) (hxx : @Ne Nat x dx) (hdp : dp + 3 < recursionLimit) 
    (ret : ∀ tf h' tk', Fr h₀ L h' m → News h₀ L h' ((dx, (renoD w k1 k2 k3 k4 k5 k6 td window tw thr rec (flight + size) tf credit tc)) :: (x, instObj 171 dx) :: news) → Q .none { s with heap := h', toks := tk' }) :
    wpAny (model PySem.Challenge.rw_sj0111_01.row.toRowW.prog w) (ktrTop dp un gd cn cs L a ccd cl outer) (call (.ref 126) [.ref x, .int size tz]) Q E s := by
  revert X; k_fill; intro X
  refine wpAny_call ?_
  k_dflt (refine' code_def ?k1 ?k2 ?k3 ?k4 ?k5 ?kA ?kF ?kK ?k6 ?k7 ?k8 ?k9 ?kB ?_ ?c2 ?c3 ?c4 ?c5; (case kA => exact rfl); (case kF => exact rfl); (case kK => assumption); (case k1 => exact B); (case k2 => exact F); (case k3 => exact X); (case k4 => exact N); (case k5 => exact T); (case k6 => k_is); (case k7 => k_is); (case k8 => exact Nat.lt_of_le_of_lt (Nat.le_add_right _ _) hdp); (case k9 => exact BindsTo.of_eq rfl); (case c5 => decide); (case kB => exact locs rfl); (case c2 => exact rfl); (case c3 => exact rfl); (case c4 => exact rfl); k_whole)
  intro g' L' h' FG' F' N' B' X' T'
  dsimp only
  k_fold
  clear F N X T B
  repeat' (first | ((with_reducible show LeaveK _ _ _ _ _ _ _); k_dflt (refine' leaveK_rest ?k1 ?k2 ?_; (case k1 => k_asm); (case k2 => k_asm); k_whole); intro kG kF kN; dsimp only) | (k_unfold; (try dsimp only)) | (k_end; wrow_close) | walk1 | (dsimp only; walk1) | (leave1; try dsimp only) | (dsimp only; with_reducible show LeaveK _ _ _ _ _ _ _) | fail "no step")
  all_goals (refine' ret _ _ _ ?F ?N; (case F => k_asm); (case N => k_asm))
set_option maxHeartbeats 8000000 in
theorem widen_1 {w : World} {mean : ExcName → Option Value} {mg mb : Str → Option Value} {dp un : Nat} {gd : Option (List Code)} {cn : Str} {cs : Scope} {a : Addr} {ccd : Value} {cl : List (Str × Addr)} {outer : List Env} {A₀ : Around} {base h₀ : Heap} {L : Addr} {m : Str → Option Value} {s : Shared} {Q E : Value → Shared → Prop}
    (B : Below A₀ base outer h₀) (F : Fr h₀ L s.heap m) (X : (Mine.hd.heap_39 w.params).In h₀) (T : Top Mine.hd.view_39 (looseW Mine.hd.view_39 []) mean mg mb h₀) (hk : cs.kind = .function)
   {x dx : Addr} {k1 k2 k3 k4 k5 k6 td tw tf tc : Tok} {window flight credit : Int} {thr rec : Value} {news : List (Addr × Obj)} {tz : Tok} {size : Int}
    (N : News h₀ L s.heap ((dx, (renoD w k1 k2 k3 k4 k5 k6 td window tw thr rec flight tf credit tc)) :: (x, instObj 171 dx) :: news)) (off : OwnOff news [dx]) (hxx : @Ne Nat x dx) (hw : 24 ≤ window ∧ window ≤ 1000000) (hc : 0 ≤ credit ∧ credit < window) (hz : 0 ≤ size) (hdp : dp + 1 < recursionLimit)
    (ret : ∀ tw tc h' tk', Fr h₀ L h' m → News h₀ L h' ((dx, (renoD w k1 k2 k3 k4 k5 k6 td (window + (credit + 12 * size).fdiv window) tw thr rec flight tf (credit + 12 * size - (credit + 12 * size).fdiv window * window) tc)) :: (x, instObj 171 dx) :: news) → Q .none { s with heap := h', toks := tk' }) :
    wpAny (model PySem.Challenge.rw_sj0111_01.row.toRowW.prog w) (ktrTop dp un gd cn cs L a ccd cl outer) (call (.ref 147) [.ref x, .int size tz]) Q E s := by
  revert X; k_fill; intro X
  refine wpAny_call ?_
  k_dflt (refine' code_def ?k1 ?k2 ?k3 ?k4 ?k5 ?kA ?kF ?kK ?k6 ?k7 ?k8 ?k9 ?kB ?_ ?c2 ?c3 ?c4 ?c5; (case kA => exact rfl); (case kF => exact rfl); (case kK => assumption); (case k1 => exact B); (case k2 => exact F); (case k3 => exact X); (case k4 => exact N); (case k5 => exact T); (case k6 => k_is); (case k7 => k_is); (case k8 => exact Nat.lt_of_le_of_lt (Nat.le_add_right _ _) hdp); (case k9 => exact BindsTo.of_eq rfl); (case c5 => decide); (case kB => exact locs rfl); (case c2 => exact rfl); (case c3 => exact rfl); (case c4 => exact rfl); k_whole)
  intro g' L' h' FG' F' N' B' X' T'
  dsimp only
  k_fold
  clear F N X T B
  repeat' (first | ((with_reducible show LeaveK _ _ _ _ _ _ _); k_dflt (refine' leaveK_rest ?k1 ?k2 ?_; (case k1 => k_asm); (case k2 => k_asm); k_whole); intro kG kF kN; dsimp only) | (k_unfold; (try dsimp only)) | (k_end; wrow_close) | walk1 | (dsimp only; walk1) | (leave1; try dsimp only) | (dsimp only; with_reducible show LeaveK _ _ _ _ _ _ _) | fail "no step")
  all_goals (refine' ret _ _ _ _ ?F ?N; (case F => k_asm); (case N => k_asm))
set_option maxHeartbeats 8000000 in
theorem cong_1 {w : World} {mean : ExcName → Option Value} {mg mb : Str → Option Value} {dp un : Nat} {gd : Option (List Code)} {cn : Str} {cs : Scope} {a : Addr} {ccd : Value} {cl : List (Str × Addr)} {outer : List Env} {A₀ : Around} {base h₀ : Heap} {L : Addr} {m : Str → Option Value} {s : Shared} {Q E : Value → Shared → Prop}
    (B : Below A₀ base outer h₀) (F : Fr h₀ L s.heap m) (X : (Mine.hd.heap_39 w.params).In h₀) (T : Top Mine.hd.view_39 (looseW Mine.hd.view_39 []) mean mg mb h₀) (hk : cs.kind = .function)
   {x dx : Addr} {k1 k2 k3 k4 k5 k6 td tw tf tc : Tok} {window flight credit : Int} {thr rec : Value} {news : List (Addr × Obj)} {tz tn : Tok} {sent now : Int}
    (N : News h₀ L s.heap ((dx, (renoD w k1 k2 k3 k4 k5 k6 td window tw thr rec flight tf credit tc)) :: (x, instObj 171 dx) :: news)) (off : OwnOff news [dx]) (hxx : @Ne Nat x dx) (ht : NoneOrInt thr) (hr : NoneOrInt rec) (hw : 24 ≤ window ∧ window ≤ 1000000) (hc : 0 ≤ credit ∧ credit < window) (hdp : dp + 3 < recursionLimit) 
    (ret : ∀ (window' credit' : Int) (thr' rec' : Value) (tw tc : Tok) h' tk', 24 ≤ window' ∧ window' ≤ window → 0 ≤ credit' ∧ credit' < window' → NoneOrInt thr' → NoneOrInt rec' → Fr h₀ L h' m → News h₀ L h' ((dx, (renoD w k1 k2 k3 k4 k5 k6 td window' tw thr' rec' flight tf credit' tc)) :: (x, instObj 171 dx) :: news) → Q .none { s with heap := h', toks := tk' }) :
    wpAny (model PySem.Challenge.rw_sj0111_01.row.toRowW.prog w) (ktrTop dp un gd cn cs L a ccd cl outer) (call (.ref 154) [.ref x, .int sent tz, .int now tn]) Q E s := by
  revert X; k_fill; intro X
  refine wpAny_call ?_
  k_dflt (refine' code_def ?k1 ?k2 ?k3 ?k4 ?k5 ?kA ?kF ?kK ?k6 ?k7 ?k8 ?k9 ?kB ?_ ?c2 ?c3 ?c4 ?c5; (case kA => exact rfl); (case kF => exact rfl); (case kK => assumption); (case k1 => exact B); (case k2 => exact F); (case k3 => exact X); (case k4 => exact N); (case k5 => exact T); (case k6 => k_is); (case k7 => k_is); (case k8 => exact Nat.lt_of_le_of_lt (Nat.le_add_right _ _) hdp); (case k9 => exact BindsTo.of_eq rfl); (case c5 => decide); (case kB => exact locs rfl); (case c2 => exact rfl); (case c3 => exact rfl); (case c4 => exact rfl); k_whole)
  intro g' L' h' FG' F' N' B' X' T'
  dsimp only
  k_fold
  clear F N X T B
  repeat' (first | ((with_reducible show LeaveK _ _ _ _ _ _ _); k_dflt (refine' leaveK_rest ?k1 ?k2 ?_; (case k1 => k_asm); (case k2 => k_asm); k_whole); intro kG kF kN; dsimp only) | (k_here; (with_reducible show wpAny _ _ (call (Value.ref 119) _) _ _ _); k_dflt (refine' inrec_u ?k1 ?k2 ?k3 ?k4 ?k5 ?kx ?kd ?kN ?kr ?kh ?_; (case k1 => k_asm); (case k2 => k_asm); (case k3 => k_asm); (case k4 => k_asm); (case k5 => first | exact rfl | assumption); (case kx => exact News.get (by k_asm) (by k_mem)); (case kd => exact News.get (by k_asm) (by k_mem)); (case kN => k_asm); (case kr => first | (refine lt_room (by assumption) ?_; decide) | ktr_room); (case kh => assumption); k_whole); intro b' h' tk' e' F' N'; (try k_sweep)) | (k_here; (with_reducible show wpAny _ _ (call (Value.ref _) _) _ _ _); k_dflt (refine wpAny_call ?_; (refine' code_def ?k1 ?k2 ?k3 ?k4 ?k5 ?kA ?kF ?kK ?k6 ?k7 ?k8 ?k9 ?kB ?_ ?c2 ?c3 ?c4 ?c5; (case kA => exact rfl); (case kF => exact rfl); (case kK => first | exact rfl | assumption); (case k1 => k_asm); (case k2 => k_asm); (case k3 => k_asm); (case k4 => k_asm); (case k5 => k_asm); (case k6 => k_is); (case k7 => k_is); (case k8 => first | (refine lt_room (by assumption) ?_; decide) | ktr_room); (case k9 => exact BindsTo.of_eq rfl); (case c5 => decide); (case kB => exact locs rfl); (case c2 => exact rfl); (case c3 => exact rfl); (case c4 => exact rfl); k_whole; intro g' L' h' FG' F' N' B' X' T'; (try dsimp only); (try k_fold)))) | (k_unfold; (try dsimp only)) | (k_end; wrow_close) | walk1 | (dsimp only; walk1) | (leave1; try dsimp only) | (dsimp only; with_reducible show LeaveK _ _ _ _ _ _ _) | fail "no step")
  all_goals (refine' ret _ _ _ _ _ _ _ _ ?e1 ?e2 ?e3 ?e4 ?F ?N; (case F => k_asm); (case N => k_asm); (case e1 => first | exact cong_ar hw.1 | exact ⟨hw.1, Int.le_refl _⟩); (case e2 => first | exact cong_cr hw.1 | exact hc); (case e3 => first | assumption | exact Or.inr ⟨_, _, rfl⟩); (case e4 => first | assumption | exact Or.inr ⟨_, _, rfl⟩))
set_option maxHeartbeats 8000000 in
theorem acked_1 {w : World} {mean : ExcName → Option Value} {mg mb : Str → Option Value} {dp un : Nat} {gd : Option (List Code)} {cn : Str} {cs : Scope} {a : Addr} {ccd : Value} {cl : List (Str × Addr)} {outer : List Env} {A₀ : Around} {base h₀ : Heap} {L : Addr} {m : Str → Option Value} {s : Shared} {Q E : Value → Shared → Prop}
    (B : Below A₀ base outer h₀) (F : Fr h₀ L s.heap m) (X : (Mine.hd.heap_39 w.params).In h₀) (T : Top Mine.hd.view_39 (looseW Mine.hd.view_39 []) mean mg mb h₀) (hk : cs.kind = .function)
   {x dx : Addr} {k1 k2 k3 k4 k5 k6 td tw tf tc : Tok} {window flight credit : Int} {thr rec : Value} {news : List (Addr × Obj)} {tz tq tn tm : Tok} {size sent now sm : Int}
    (N : News h₀ L s.heap ((dx, (renoD w k1 k2 k3 k4 k5 k6 td window tw thr rec flight tf credit tc)) :: (x, instObj 171 dx) :: news)) (off : OwnOff news [dx]) (hxx : @Ne Nat x dx) (ht : NoneOrInt thr) (hr : NoneOrInt rec) (hw : 24 ≤ window ∧ window ≤ 1000000) (hc : 0 ≤ credit ∧ credit < window) (hz : 0 ≤ size ∧ size ≤ 1000000) (hdp : dp + 3 < recursionLimit) 
    (ret : ∀ (window' credit' : Int) (tw tf tc : Tok) h' tk', window ≤ window' ∧ window' ≤ window + size → 0 ≤ credit' ∧ credit' < window' → (thr = .none → rec = .none → window' = window + size) → Fr h₀ L h' m → News h₀ L h' ((dx, (renoD w k1 k2 k3 k4 k5 k6 td window' tw thr rec (flight - size) tf credit' tc)) :: (x, instObj 171 dx) :: news) → Q .none { s with heap := h', toks := tk' }) :
    wpAny (model PySem.Challenge.rw_sj0111_01.row.toRowW.prog w) (ktrTop dp un gd cn cs L a ccd cl outer) (call (.ref 140) [.ref x, .int size tz, .int sent tq, .bool true, .int now tn, .int sm tm]) Q E s := by
  revert X; k_fill; intro X
  refine wpAny_call ?_
  k_dflt (refine' code_def ?k1 ?k2 ?k3 ?k4 ?k5 ?kA ?kF ?kK ?k6 ?k7 ?k8 ?k9 ?kB ?_ ?c2 ?c3 ?c4 ?c5; (case kA => exact rfl); (case kF => exact rfl); (case kK => assumption); (case k1 => exact B); (case k2 => exact F); (case k3 => exact X); (case k4 => exact N); (case k5 => exact T); (case k6 => k_is); (case k7 => k_is); (case k8 => exact Nat.lt_of_le_of_lt (Nat.le_add_right _ _) hdp); (case k9 => exact BindsTo.of_eq rfl); (case c5 => decide); (case kB => exact locs rfl); (case c2 => exact rfl); (case c3 => exact rfl); (case c4 => exact rfl); k_whole)
  intro g' L' h' FG' F' N' B' X' T'
  dsimp only
  k_fold
  clear F N X T B
  repeat' (first | ((with_reducible show LeaveK _ _ _ _ _ _ _); k_dflt (refine' leaveK_rest ?k1 ?k2 ?_; (case k1 => k_asm); (case k2 => k_asm); k_whole); intro kG kF kN; dsimp only) | (k_here; (with_reducible show wpAny _ _ (call (Value.ref 119) _) _ _ _); k_dflt (refine' inrec_u ?k1 ?k2 ?k3 ?k4 ?k5 ?kx ?kd ?kN ?kr ?kh ?_; (case k1 => k_asm); (case k2 => k_asm); (case k3 => k_asm); (case k4 => k_asm); (case k5 => first | exact rfl | assumption); (case kx => exact News.get (by k_asm) (by k_mem)); (case kd => exact News.get (by k_asm) (by k_mem)); (case kN => k_asm); (case kr => first | (refine lt_room (by assumption) ?_; decide) | ktr_room); (case kh => assumption); k_whole); intro b' h' tk' e' F' N'; (try k_sweep)) | (k_here; (with_reducible show wpAny _ _ (call (Value.ref 112) _) _ _ _); k_dflt (refine' slow_u ?k1 ?k2 ?k3 ?k4 ?k5 ?kx ?kd ?kN ?kr ?kh ?_; (case k1 => k_asm); (case k2 => k_asm); (case k3 => k_asm); (case k4 => k_asm); (case k5 => first | exact rfl | assumption); (case kx => exact News.get (by k_asm) (by k_mem)); (case kd => exact News.get (by k_asm) (by k_mem)); (case kN => k_asm); (case kr => first | (refine lt_room (by assumption) ?_; decide) | ktr_room); (case kh => assumption); k_whole); intro b' h' tk' e' F' N'; (try k_sweep)) | (k_here; (with_reducible show wpAny _ _ (call (Value.ref 147) _) _ _ _); k_dflt (refine' widen_1 ?k1 ?k2 ?k3 ?k4 ?k5 ?kN ?ko ?kx ?kw ?kc ?kz ?kr ?_; (case k1 => k_asm); (case k2 => k_asm); (case k3 => k_asm); (case k4 => k_asm); (case k5 => first | exact rfl | assumption); (case kN => k_asm); (case ko => assumption); (case kx => assumption); (case kw => assumption); (case kc => assumption); (case kz => exact hz.1); (case kr => first | (refine lt_room (by assumption) ?_; decide) | ktr_room); k_whole); intro tw' tc' h' tk' F' N'; (try k_sweep)) | (k_unfold; (try dsimp only)) | (k_end; wrow_close) | walk1 | (dsimp only; walk1) | (leave1; try dsimp only) | (dsimp only; with_reducible show LeaveK _ _ _ _ _ _ _) | fail "no step")
  all_goals (refine' ret _ _ _ _ _ _ _ ?e1 ?e2 ?e3 ?F ?N; (case F => k_asm); (case N => k_asm); (case e1 => first | exact (widen_ar hw.1 hc hz.1).1 | exact (slow_ar hc hz).1 | exact same_ar hz); (case e2 => first | exact (widen_ar hw.1 hc hz.1).2 | exact (slow_ar hc hz).2 | exact hc); (case e3 => first | exact fun _ _ => rfl | exact fun _ e2 => bad1 (by assumption) (by assumption) e2 | exact fun e1 _ => bad2 (by assumption) (by assumption) e1))
theorem rsent_c {w : World} {mean : ExcName → Option Value} {mg mb : Str → Option Value} {dp un : Nat} {gd : Option (List Code)} {cn : Str} {cs : Scope} {a : Addr} {ccd : Value} {cl : List (Str × Addr)} {outer : List Env} {A₀ : Around} {base h₀ : Heap} {L : Addr} {m : Str → Option Value} {s : Shared} {Q E : Value → Shared → Prop}
    (B : Below A₀ base outer h₀) (F : Fr h₀ L s.heap m) (X : (Mine.hd.heap_39 w.params).In h₀) (T : Top Mine.hd.view_39 (looseW Mine.hd.view_39 []) mean mg mb h₀) (hk : cs.kind = .function)
   {x dx : Addr} {k1 k2 k3 k4 k5 k6 td tw tf tc : Tok} {window flight credit : Int} {thr rec : Value} {news : List (Addr × Obj)} {f : Obj → List (Addr × Obj)} {tz : Tok} {size : Int}
    (N : News h₀ L s.heap news) (hy : (x, instObj 171 dx) ∈ news) (hx : @Ne Nat x dx) (U : UpdF dx (renoD w k1 k2 k3 k4 k5 k6 td window tw thr rec flight tf credit tc) news f) (hdp : dp + 3 < recursionLimit) 
    (ret : ∀ tf h' tk', Fr h₀ L h' m → News h₀ L h' (f (renoD w k1 k2 k3 k4 k5 k6 td window tw thr rec (flight + size) tf credit tc)) → Q .none { s with heap := h', toks := tk' }) :
    wpAny (model PySem.Challenge.rw_sj0111_01.row.toRowW.prog w) (ktrTop dp un gd cn cs L a ccd cl outer) (call (.ref 126) [.ref x, .int size tz]) Q E s := by
  obtain ⟨rest, off, N1, back⟩ := upd_in N U hy hx
  exact rsent_1 B F X T hk N1 off hx hdp (fun tf h' tk' F' N' => ret tf h' tk' F' (back _ _ N'))
theorem cong_c {w : World} {mean : ExcName → Option Value} {mg mb : Str → Option Value} {dp un : Nat} {gd : Option (List Code)} {cn : Str} {cs : Scope} {a : Addr} {ccd : Value} {cl : List (Str × Addr)} {outer : List Env} {A₀ : Around} {base h₀ : Heap} {L : Addr} {m : Str → Option Value} {s : Shared} {Q E : Value → Shared → Prop}
    (B : Below A₀ base outer h₀) (F : Fr h₀ L s.heap m) (X : (Mine.hd.heap_39 w.params).In h₀) (T : Top Mine.hd.view_39 (looseW Mine.hd.view_39 []) mean mg mb h₀) (hk : cs.kind = .function)
   {x dx : Addr} {k1 k2 k3 k4 k5 k6 td tw tf tc : Tok} {window flight credit : Int} {thr rec : Value} {news : List (Addr × Obj)} {f : Obj → List (Addr × Obj)} {tz tn : Tok} {sent now : Int}
    (N : News h₀ L s.heap news) (hy : (x, instObj 171 dx) ∈ news) (hx : @Ne Nat x dx) (U : UpdF dx (renoD w k1 k2 k3 k4 k5 k6 td window tw thr rec flight tf credit tc) news f) (ht : NoneOrInt thr) (hr : NoneOrInt rec) (hw : 24 ≤ window ∧ window ≤ 1000000) (hc : 0 ≤ credit ∧ credit < window) (hdp : dp + 3 < recursionLimit) 
    (ret : ∀ (window' credit' : Int) (thr' rec' : Value) (tw tc : Tok) h' tk', 24 ≤ window' ∧ window' ≤ window → 0 ≤ credit' ∧ credit' < window' → NoneOrInt thr' → NoneOrInt rec' → Fr h₀ L h' m → News h₀ L h' (f (renoD w k1 k2 k3 k4 k5 k6 td window' tw thr' rec' flight tf credit' tc)) → Q .none { s with heap := h', toks := tk' }) :
    wpAny (model PySem.Challenge.rw_sj0111_01.row.toRowW.prog w) (ktrTop dp un gd cn cs L a ccd cl outer) (call (.ref 154) [.ref x, .int sent tz, .int now tn]) Q E s := by
  obtain ⟨rest, off, N1, back⟩ := upd_in N U hy hx
  exact cong_1 B F X T hk N1 off hx ht hr hw hc hdp (fun a b c d tw tc h' tk' e1 e2 e3 e4 F' N' => ret a b c d tw tc h' tk' e1 e2 e3 e4 F' (back _ _ N'))
theorem acked_c {w : World} {mean : ExcName → Option Value} {mg mb : Str → Option Value} {dp un : Nat} {gd : Option (List Code)} {cn : Str} {cs : Scope} {a : Addr} {ccd : Value} {cl : List (Str × Addr)} {outer : List Env} {A₀ : Around} {base h₀ : Heap} {L : Addr} {m : Str → Option Value} {s : Shared} {Q E : Value → Shared → Prop}
    (B : Below A₀ base outer h₀) (F : Fr h₀ L s.heap m) (X : (Mine.hd.heap_39 w.params).In h₀) (T : Top Mine.hd.view_39 (looseW Mine.hd.view_39 []) mean mg mb h₀) (hk : cs.kind = .function)
   {x dx : Addr} {k1 k2 k3 k4 k5 k6 td tw tf tc : Tok} {window flight credit : Int} {thr rec : Value} {news : List (Addr × Obj)} {f : Obj → List (Addr × Obj)} {tz tq tn tm : Tok} {size sent now sm : Int}
    (N : News h₀ L s.heap news) (hy : (x, instObj 171 dx) ∈ news) (hx : @Ne Nat x dx) (U : UpdF dx (renoD w k1 k2 k3 k4 k5 k6 td window tw thr rec flight tf credit tc) news f) (ht : NoneOrInt thr) (hr : NoneOrInt rec) (hw : 24 ≤ window ∧ window ≤ 1000000) (hc : 0 ≤ credit ∧ credit < window) (hz : 0 ≤ size ∧ size ≤ 1000000) (hdp : dp + 3 < recursionLimit) 
    (ret : ∀ (window' credit' : Int) (tw tf tc : Tok) h' tk', window ≤ window' ∧ window' ≤ window + size → 0 ≤ credit' ∧ credit' < window' → (thr = .none → rec = .none → window' = window + size) → Fr h₀ L h' m → News h₀ L h' (f (renoD w k1 k2 k3 k4 k5 k6 td window' tw thr rec (flight - size) tf credit' tc)) → Q .none { s with heap := h', toks := tk' }) :
    wpAny (model PySem.Challenge.rw_sj0111_01.row.toRowW.prog w) (ktrTop dp un gd cn cs L a ccd cl outer) (call (.ref 140) [.ref x, .int size tz, .int sent tq, .bool true, .int now tn, .int sm tm]) Q E s := by
  obtain ⟨rest, off, N1, back⟩ := upd_in N U hy hx
  exact acked_1 B F X T hk N1 off hx ht hr hw hc hz hdp (fun a b tw tf tc h' tk' e1 e2 e3 F' N' => ret a b tw tf tc h' tk' e1 e2 e3 F' (back _ _ N'))
end
section
noncomputable def Lex (a b c d : Int) : Prop := a < c ∨ (a = c ∧ b ≤ d)
theorem tup_le_c {prog : Program} {w : World} {A : Around} {E : Value → Shared → Prop} {s : Shared} {h₀ : Heap} {L : Addr} {news : List (Addr × Obj)} {a b : Addr} {p q p' q' : Int} {t u t' u' : Tok} {Q : Value → Shared → Prop}
    (N : News h₀ L s.heap news) (hx : (a, tupO p t q u) ∈ news) (hy : (b, tupO p' t' q' u') ∈ news) (hu : A.units < cLine) (hl : Lex p q p' q') (h : Q (.bool true) s) :
    wpAny (model prog w) A (compareOp .LtE (.ref a) (.ref b)) Q E s := tup_le (News.isTup N hx) (News.isTup N hy) hu (by rw [decide_eq_true (show p < p' ∨ (p = p' ∧ q ≤ q') from hl)]; exact h)
theorem lex0 {a b c d : Int} (h : Lex a b c d) : Lex (a + 0) b (c + 0) d := by rw [Int.add_zero, Int.add_zero]; exact h
theorem lex1 {a b c d : Int} (h : Lex a b c d) : Lex (a + 0) b c d := by rw [Int.add_zero]; exact h
local macro_rules | `(tactic| k_inst) => `(tactic| (refine' instAt_g ?kf ?kx ?kd; (case kf => k_asm); (case kx => assumption); (case kd => assumption)))
set_option maxHeartbeats 8000000 in
theorem order_u {w : World} {mean : ExcName → Option Value} {mg mb : Str → Option Value} {dp un : Nat} {gd : Option (List Code)} {cn : Str} {cs : Scope} {a : Addr} {ccd : Value} {cl : List (Str × Addr)} {outer : List Env} {A₀ : Around} {base h₀ : Heap} {L : Addr} {m : Str → Option Value} {s : Shared} {Q E : Value → Shared → Prop}
    (B : Below A₀ base outer h₀) (F : Fr h₀ L s.heap m) (X : (Mine.hd.heap_39 w.params).In h₀) (T : Top Mine.hd.view_39 (looseW Mine.hd.view_39 []) mean mg mb h₀) (hk : cs.kind = .function)
   {pl x0 x1 x2 x3 d0 d1 d2 d3 : Addr} {c : Nat} {k10 k20 k30 k40 tb0 tl0 tr0 ts0 k11 k21 k31 k41 tb1 tl1 tr1 ts1 k12 k22 k32 k42 tb2 tl2 tr2 ts2 k13 k23 k33 k43 tb3 tl3 tr3 ts3 tm : Tok} {b0 b1 b2 b3 l0 l1 l2 l3 r0 r1 r2 r3 s0 s1 s2 s3 more : Int} {news : List (Addr × Obj)}
    (hpl : s.heap.get? pl = some (W.listOf #[.ref x0, .ref x1, .ref x2, .ref x3] c)) (hx0 : s.heap.get? x0 = some (instObj 66 d0)) (hd0 : s.heap.get? d0 = some (pacerD w k10 k20 k30 k40 b0 tb0 l0 tl0 r0 tr0 s0 ts0)) (hx1 : s.heap.get? x1 = some (instObj 66 d1)) (hd1 : s.heap.get? d1 = some (pacerD w k11 k21 k31 k41 b1 tb1 l1 tl1 r1 tr1 s1 ts1)) (hx2 : s.heap.get? x2 = some (instObj 66 d2)) (hd2 : s.heap.get? d2 = some (pacerD w k12 k22 k32 k42 b2 tb2 l2 tl2 r2 tr2 s2 ts2)) (hx3 : s.heap.get? x3 = some (instObj 66 d3)) (hd3 : s.heap.get? d3 = some (pacerD w k13 k23 k33 k43 b3 tb3 l3 tl3 r3 tr3 s3 ts3))
    (N : News h₀ L s.heap news)
    (h01 : Lex l0 r0 l1 r1) (h12 : Lex l1 r1 l2 r2) (h21 : Lex l2 r2 (l1 + more) r1) (h13 : Lex l1 r1 l3 r3) (h10 : Lex l1 r1 (l0 + more) r0)
    (hdp : dp + 3 < recursionLimit) (hu : un + 24 < cLine)
    (ret : ∀ h' tk', Fr h₀ L h' m → News h₀ L h' news → Q (.bool true) { s with heap := h', toks := tk' }) :
    wpAny (model PySem.Challenge.rw_sj0111_01.row.toRowW.prog w) (ktrTop dp un gd cn cs L a ccd cl outer) (call (.ref 260) [.ref pl, .int more tm]) Q E s := by
  revert X; k_fill; intro X
  refine wpAny_call ?_
  refine' enter_all ?k1 ?k2 ?k3 ?k5 ?kA ?kF ?kK ?k6 ?k7 ?k8 ?k9 ?kB ?_ ?c5 ?c2 ?c3 ?c4
  (case kA => exact rfl); (case kF => exact rfl); (case kK => assumption); (case k1 => exact B); (case k2 => exact F); (case k3 => exact X); (case k5 => exact T)
  k_dflt (case k6 => k_is)
  k_dflt (case k7 => k_is)
  (case k8 => exact Nat.lt_of_le_of_lt (Nat.le_add_right _ _) hdp)
  k_dflt (case k9 => exact BindsTo.of_eq rfl)
  k_dflt (case kB => exact locs rfl)
  (case c5 => decide); (case c2 => exact rfl); (case c3 => exact rfl); (case c4 => exact rfl)
  intro g L' h₁ hg FG' F' N' B' X' T'
  dsimp only
  k_fold
  have hpl' : g.IsList pl #[.ref x0, .ref x1, .ref x2, .ref x3] := ⟨_, hg _ _ hpl, rfl, _, rfl⟩
  have hx0' := hg _ _ hx0
  have hd0' := hg _ _ hd0
  have hx1' := hg _ _ hx1
  have hd1' := hg _ _ hd1
  have hx2' := hg _ _ hx2
  have hd2' := hg _ _ hd2
  have hx3' := hg _ _ hx3
  have hd3' := hg _ _ hd3
  have hdp' : (dp + 1) + 2 < recursionLimit := hdp
  clear F X T B hpl hx0 hd0 hx1 hd1 hx2 hd2 hx3 hd3
  have ret' : ∀ {v : Bool} {h' tk'}, v = true → Fr h₀ L h' m → News h₀ L h' news → Q (.bool v) { s with heap := h', toks := tk' } := by
    intro v h' tk' e F N; subst e; exact ret h' tk' F N
  clear ret
  replace h01 := lex0 h01
  replace h12 := lex0 h12
  replace h21 := lex1 h21
  replace h13 := lex0 h13
  replace h10 := lex1 h10
  repeat' (first | ((with_reducible show wpAny _ _ (call (Value.ref _) _) _ _ _); first | ((with_reducible show wpAny _ _ (call (Value.ref 253) _) _ _ _); k_here; k_dflt (refine' left_u ?k1 ?k2 ?k3 ?k4 ?k5 ?kx ?kd ?kN ?kr ?_; (case k1 => k_asm); (case k2 => k_asm); (case k3 => k_asm); (case k4 => k_asm); (case k5 => first | exact rfl | assumption); (case kx => (refine' Fr.keep ?kff _ _ ?khh; (case kff => k_asm); (case khh => assumption))); (case kd => (refine' Fr.keep ?kff _ _ ?khh; (case kff => k_asm); (case khh => assumption))); (case kN => k_asm); (case kr => first | (refine lt_room (by assumption) ?_; decide) | ktr_room); k_whole); intro D' t' h' tk' F' N'; (try k_sweep))) | ((with_reducible show wpAny _ _ (testChain _ _ _ _) _ _ _); (k_here; dsimp only [evalEach, markedEach]; first | refine test_link ?_ | refine test_last ?_)) | ((with_reducible show wpAny _ _ (compareOp _ _ _) _ _ _); (k_here; k_dflt (refine' tup_le_c ?k1 ?k2 ?k3 ?k4 ?k5 ?_; (case k1 => k_asm); (case k2 => k_mem); (case k3 => k_mem); (case k4 => first | (refine lt_room (by assumption) ?_; decide) | ktr_units); (case k5 => assumption); k_whole))) | ((with_reducible show wpAny _ _ (assign (Expr.Tuple _ _ _) _ (Value.ref _)) _ _ _); k_here; k_dflt (refine' kun_list ?k1 ?k2 ?k3 ?k4 ?k5 ?k6 ?_; (case k1 => k_asm); (case k2 => k_asm); (case k3 => (refine' isList_g ?kff ?kll; (case kff => k_asm); (case kll => assumption))); (case k4 => exact rfl); (case k5 => exact rfl); (case k6 => exact rfl); k_whole); intro h' F' N'; (try k_sweep)) | (k_dflt (refine' leaveK_rest ?k1 ?k2 ?_; (case k1 => k_asm); (case k2 => k_asm); k_whole); intro kG kF kN; dsimp only) | (k_unfold; (try dsimp only)) | (k_end; wrow_close) | walk1 | (dsimp only; walk1) | (leave1; try dsimp only) | fail "no step")
  refine' ret' ?e ?F (back_all N hg ?G)
  (case F => k_asm)
  (case G => assumption)
  (case e => rfl)
theorem order_c {w : World} {mean : ExcName → Option Value} {mg mb : Str → Option Value} {dp un : Nat} {gd : Option (List Code)} {cn : Str} {cs : Scope} {a : Addr} {ccd : Value} {cl : List (Str × Addr)} {outer : List Env} {A₀ : Around} {base h₀ : Heap} {L : Addr} {m : Str → Option Value} {s : Shared} {Q E : Value → Shared → Prop}
    (B : Below A₀ base outer h₀) (F : Fr h₀ L s.heap m) (X : (Mine.hd.heap_39 w.params).In h₀) (T : Top Mine.hd.view_39 (looseW Mine.hd.view_39 []) mean mg mb h₀) (hk : cs.kind = .function)
   {pl x0 x1 x2 x3 d0 d1 d2 d3 : Addr} {c : Nat} {k10 k20 k30 k40 tb0 tl0 tr0 ts0 k11 k21 k31 k41 tb1 tl1 tr1 ts1 k12 k22 k32 k42 tb2 tl2 tr2 ts2 k13 k23 k33 k43 tb3 tl3 tr3 ts3 tm : Tok} {b0 b1 b2 b3 l0 l1 l2 l3 r0 r1 r2 r3 s0 s1 s2 s3 more : Int} {news : List (Addr × Obj)}
    (N : News h₀ L s.heap news) (hs : ∀ p ∈ ([(pl, W.listOf #[.ref x0, .ref x1, .ref x2, .ref x3] c), (x0, instObj 66 d0), (d0, pacerD w k10 k20 k30 k40 b0 tb0 l0 tl0 r0 tr0 s0 ts0), (x1, instObj 66 d1), (d1, pacerD w k11 k21 k31 k41 b1 tb1 l1 tl1 r1 tr1 s1 ts1), (x2, instObj 66 d2), (d2, pacerD w k12 k22 k32 k42 b2 tb2 l2 tl2 r2 tr2 s2 ts2), (x3, instObj 66 d3), (d3, pacerD w k13 k23 k33 k43 b3 tb3 l3 tl3 r3 tr3 s3 ts3)] : List (Addr × Obj)), p ∈ news)
    (h01 : Lex l0 r0 l1 r1) (h12 : Lex l1 r1 l2 r2) (h21 : Lex l2 r2 (l1 + more) r1) (h13 : Lex l1 r1 l3 r3) (h10 : Lex l1 r1 (l0 + more) r0)
    (hdp : dp + 3 < recursionLimit) (hu : un + 24 < cLine)
    (ret : ∀ h' tk', Fr h₀ L h' m → News h₀ L h' news → Q (.bool true) { s with heap := h', toks := tk' }) :
    wpAny (model PySem.Challenge.rw_sj0111_01.row.toRowW.prog w) (ktrTop dp un gd cn cs L a ccd cl outer) (call (.ref 260) [.ref pl, .int more tm]) Q E s := by
  have z : ∀ p ∈ ([(pl, W.listOf #[.ref x0, .ref x1, .ref x2, .ref x3] c), (x0, instObj 66 d0), (d0, pacerD w k10 k20 k30 k40 b0 tb0 l0 tl0 r0 tr0 s0 ts0), (x1, instObj 66 d1), (d1, pacerD w k11 k21 k31 k41 b1 tb1 l1 tl1 r1 tr1 s1 ts1), (x2, instObj 66 d2), (d2, pacerD w k12 k22 k32 k42 b2 tb2 l2 tl2 r2 tr2 s2 ts2), (x3, instObj 66 d3), (d3, pacerD w k13 k23 k33 k43 b3 tb3 l3 tl3 r3 tr3 s3 ts3)] : List (Addr × Obj)), s.heap.get? p.1 = some p.2 := fun p hp => (N p (hs p hp)).1
  simp only [List.forall_mem_cons] at z
  obtain ⟨z1, z2, z3, z4, z5, z6, z7, z8, z9, _⟩ := z
  exact order_u B F X T hk z1 z2 z3 z4 z5 z6 z7 z8 z9 N h01 h12 h21 h13 h10 hdp hu ret
end
section
theorem may_c {w : World} {mean : ExcName → Option Value} {mg mb : Str → Option Value} {dp un : Nat} {gd : Option (List Code)} {cn : Str} {cs : Scope} {a : Addr} {ccd : Value} {cl : List (Str × Addr)} {outer : List Env} {A₀ : Around} {base h₀ : Heap} {L : Addr} {m : Str → Option Value} {s : Shared} {Q E : Value → Shared → Prop}
    (B : Below A₀ base outer h₀) (F : Fr h₀ L s.heap m) (X : (Mine.hd.heap_39 w.params).In h₀) (T : Top Mine.hd.view_39 (looseW Mine.hd.view_39 []) mean mg mb h₀) (hk : cs.kind = .function)
   {x dx : Addr} {k1 k2 k3 k4 tb tl tr ts : Tok} {burst left rst seen : Int} {news : List (Addr × Obj)} {tz : Tok} {size : Int}
    (N : News h₀ L s.heap news) (hy : (x, instObj 66 dx) ∈ news) (hd : (dx, (pacerD w k1 k2 k3 k4 burst tb left tl rst tr seen ts)) ∈ news) (hdp : dp + 1 < recursionLimit) (hu : un + 8 < cLine)
    (ret : ∀ h' tk', Fr h₀ L h' m → News h₀ L h' news → Q (.bool (decide (size ≤ left))) { s with heap := h', toks := tk' }) :
    wpAny (model PySem.Challenge.rw_sj0111_01.row.toRowW.prog w) (ktrTop dp un gd cn cs L a ccd cl outer) (call (.ref 49) [.ref x, .int size tz]) Q E s :=
  may_u B F X T hk (N _ hy).1 (N _ hd).1 N hdp ret
end
section
theorem fresh_ne2 {led : List (Addr × Obj)} {d x a : Addr} {o : Obj} (k : @LT.lt Nat instLTNat d x) (h : ∀ p ∈ led, p.1 < d) (m : (a, o) ∈ led) : @Ne Nat a x := Nat.ne_of_lt (Nat.lt_trans (h _ m) k)
theorem fresh_ne2' {led : List (Addr × Obj)} {d x a : Addr} {o : Obj} (k : @LT.lt Nat instLTNat d x) (h : ∀ p ∈ led, p.1 < d) (m : (a, o) ∈ led) : @Ne Nat x a := Nat.ne_of_gt (Nat.lt_trans (h _ m) k)
theorem fresh_lt2 {led : List (Addr × Obj)} {d x a : Addr} {o : Obj} (k : @LT.lt Nat instLTNat d x) (h : ∀ p ∈ led, p.1 < d) (m : (a, o) ∈ led) : @LT.lt Nat instLTNat a x := Nat.lt_trans (h _ m) k
local macro_rules | `(tactic| k_lt $h:ident) => `(tactic| skip)
local macro_rules | `(tactic| k_ne) => `(tactic| (refine neN ?_; (try dsimp only); first | assumption | exact Ne.symm (by assumption) | exact Nat.ne_of_lt (by assumption) | exact Nat.ne_of_gt (by assumption) | (refine' at_ne (by assumption) _ _ ?ha ?hb ?kk; (case ha => first | exact (rfl : nthN _ 0 = _) | exact (rfl : nthN _ 1 = _) | exact (rfl : nthN _ 2 = _) | exact (rfl : nthN _ 3 = _) | exact (rfl : nthN _ 4 = _) | exact (rfl : nthN _ 5 = _) | exact (rfl : nthN _ 6 = _) | exact (rfl : nthN _ 7 = _) | exact (rfl : nthN _ 8 = _) | exact (rfl : nthN _ 9 = _) | exact (rfl : nthN _ 10 = _) | exact (rfl : nthN _ 11 = _) | exact (rfl : nthN _ 12 = _) | exact (rfl : nthN _ 13 = _) | exact (rfl : nthN _ 14 = _) | exact (rfl : nthN _ 15 = _) | exact (rfl : nthN _ 16 = _) | exact (rfl : nthN _ 17 = _) | fail "ne"); (case hb => first | exact (rfl : nthN _ 0 = _) | exact (rfl : nthN _ 1 = _) | exact (rfl : nthN _ 2 = _) | exact (rfl : nthN _ 3 = _) | exact (rfl : nthN _ 4 = _) | exact (rfl : nthN _ 5 = _) | exact (rfl : nthN _ 6 = _) | exact (rfl : nthN _ 7 = _) | exact (rfl : nthN _ 8 = _) | exact (rfl : nthN _ 9 = _) | exact (rfl : nthN _ 10 = _) | exact (rfl : nthN _ 11 = _) | exact (rfl : nthN _ 12 = _) | exact (rfl : nthN _ 13 = _) | exact (rfl : nthN _ 14 = _) | exact (rfl : nthN _ 15 = _) | exact (rfl : nthN _ 16 = _) | exact (rfl : nthN _ 17 = _) | fail "ne"); (case kk => exact rfl)) | exact fresh_ne (by assumption) (by k_mem) | exact fresh_ne' (by assumption) (by k_mem) | exact fresh_ne2 (by assumption) (by assumption) (by k_mem) | exact fresh_ne2' (by assumption) (by assumption) (by k_mem) | omega))
section
set_option maxHeartbeats 8000000 in
theorem pacer_new {w : World} {mean : ExcName → Option Value} {mg mb : Str → Option Value} {dp un : Nat} {gd : Option (List Code)} {cn : Str} {cs : Scope} {a : Addr} {ccd : Value} {cl : List (Str × Addr)} {outer : List Env} {A₀ : Around} {base h₀ : Heap} {L : Addr} {m : Str → Option Value} {s : Shared} {Q E : Value → Shared → Prop}
    (B : Below A₀ base outer h₀) (F : Fr h₀ L s.heap m) (X : (Mine.hd.heap_39 w.params).In h₀) (T : Top Mine.hd.view_39 (looseW Mine.hd.view_39 []) mean mg mb h₀) (hk : cs.kind = .function)
   {news : List (Addr × Obj)} {tb tn : Tok} {burst now : Int}
    (N : News h₀ L s.heap news) (hdp : dp + 3 < recursionLimit) (hu : un + 24 < cLine)
    (ret : ∀ (x d : Addr) (k1 k2 k3 k4 tl tr : Tok) h' tk', (∀ p ∈ news, p.1 < d) → @LT.lt Nat instLTNat d x → Fr h₀ L h' m → News h₀ L h' ((x, instObj 66 d) :: (d, pacerD w k1 k2 k3 k4 burst tb burst tl 0 tr now tn) :: news) → Q (.ref x) { s with heap := h', toks := tk' }) :
    wpAny (model PySem.Challenge.rw_sj0111_01.row.toRowW.prog w) (ktrTop dp un gd cn cs L a ccd cl outer) (call (.ref 66) [.int burst tb, .int now tn]) Q E s := by
  revert X; k_fill; intro X
  repeat' (first | ((with_reducible show wpAny _ _ (call (Value.ref _) _) _ _ _); first | ((with_reducible show wpAny _ _ (call (Value.ref _) _) _ _ _); (k_here; k_dflt ((refine' call_cls ?k1 ?k2 ?k3 ?k4 ?k5 ?k6 ?_; (case k1 => k_asm); (case k2 => k_asm); (case k3 => k_asm); (case k4 => k_is); (case k5 => k_is); (case k6 => k_is); k_whole; intro x' d' h' F' N' l1 l2; (try k_lt l1); (try k_lt2 l2); (try k_sweep)); (refine' code_def ?k1 ?k2 ?k3 ?k4 ?k5 ?kA ?kF ?kK ?k6 ?k7 ?k8 ?k9 ?kB ?_ ?c2 ?c3 ?c4 ?c5; (case kA => exact rfl); (case kF => exact rfl); (case kK => first | exact rfl | assumption); (case k1 => k_asm); (case k2 => k_asm); (case k3 => k_asm); (case k4 => k_asm); (case k5 => k_asm); (case k6 => k_is); (case k7 => k_is); (case k8 => ktr_room); (case k9 => first | exact BindsTo.of_eq rfl | exact binds_K (by k_in) rfl (by k_is) rfl rfl rfl); (case c5 => decide); (case kB => exact locs rfl); (case c2 => exact rfl); (case c3 => exact rfl); (case c4 => exact rfl); k_whole; intro g' L' h' FG' F' N' B' X' T'; (try dsimp only); (try k_lift B'); (try k_fold))))) | ((with_reducible show wpAny _ _ (call (Value.ref _) _) _ _ _); (k_here; k_dflt (refine wpAny_call ?_; (refine' code_def ?k1 ?k2 ?k3 ?k4 ?k5 ?kA ?kF ?kK ?k6 ?k7 ?k8 ?k9 ?kB ?_ ?c2 ?c3 ?c4 ?c5; (case kA => exact rfl); (case kF => exact rfl); (case kK => first | exact rfl | assumption); (case k1 => k_asm); (case k2 => k_asm); (case k3 => k_asm); (case k4 => k_asm); (case k5 => k_asm); (case k6 => k_is); (case k7 => k_is); (case k8 => ktr_room); (case k9 => exact BindsTo.of_eq rfl); (case c5 => decide); (case kB => exact locs rfl); (case c2 => exact rfl); (case c3 => exact rfl); (case c4 => exact rfl); k_whole; intro g' L' h' FG' F' N' B' X' T'; (try dsimp only); (try k_lift B'); (try k_fold)))))) | (k_unfold; (try dsimp only)) | (k_end; wrow_close) | walk1 | (dsimp only; walk1) | (leave1; try dsimp only) | fail "no step")
  all_goals (try dsimp only)
  refine' ret _ _ _ _ _ _ _ _ _ _ ?l1 ?l2 ?F ?N; (case F => k_asm); (case N => k_asm); (case l1 => assumption); (case l2 => assumption)
set_option maxHeartbeats 8000000 in
theorem reno_new {w : World} {mean : ExcName → Option Value} {mg mb : Str → Option Value} {dp un : Nat} {gd : Option (List Code)} {cn : Str} {cs : Scope} {a : Addr} {ccd : Value} {cl : List (Str × Addr)} {outer : List Env} {A₀ : Around} {base h₀ : Heap} {L : Addr} {m : Str → Option Value} {s : Shared} {Q E : Value → Shared → Prop}
    (B : Below A₀ base outer h₀) (F : Fr h₀ L s.heap m) (X : (Mine.hd.heap_39 w.params).In h₀) (T : Top Mine.hd.view_39 (looseW Mine.hd.view_39 []) mean mg mb h₀) (hk : cs.kind = .function)
   {news : List (Addr × Obj)} {td : Tok}
    (N : News h₀ L s.heap news) (hdp : dp + 3 < recursionLimit) (hu : un + 24 < cLine)
    (ret : ∀ (x d : Addr) (k1 k2 k3 k4 k5 k6 tw tf tc : Tok) h' tk', (∀ p ∈ news, p.1 < d) → @LT.lt Nat instLTNat d x → Fr h₀ L h' m → News h₀ L h' ((x, instObj 171 d) :: (d, renoD w k1 k2 k3 k4 k5 k6 td 120 tw .none .none 0 tf 0 tc) :: news) → Q (.ref x) { s with heap := h', toks := tk' }) :
    wpAny (model PySem.Challenge.rw_sj0111_01.row.toRowW.prog w) (ktrTop dp un gd cn cs L a ccd cl outer) (call (.ref 171) [.int 12 td]) Q E s := by
  revert X; k_fill; intro X
  repeat' (first | ((with_reducible show wpAny _ _ (call (Value.ref _) _) _ _ _); first | ((with_reducible show wpAny _ _ (call (Value.ref _) _) _ _ _); (k_here; k_dflt ((refine' call_cls ?k1 ?k2 ?k3 ?k4 ?k5 ?k6 ?_; (case k1 => k_asm); (case k2 => k_asm); (case k3 => k_asm); (case k4 => k_is); (case k5 => k_is); (case k6 => k_is); k_whole; intro x' d' h' F' N' l1 l2; (try k_lt l1); (try k_lt2 l2); (try k_sweep)); (refine' code_def ?k1 ?k2 ?k3 ?k4 ?k5 ?kA ?kF ?kK ?k6 ?k7 ?k8 ?k9 ?kB ?_ ?c2 ?c3 ?c4 ?c5; (case kA => exact rfl); (case kF => exact rfl); (case kK => first | exact rfl | assumption); (case k1 => k_asm); (case k2 => k_asm); (case k3 => k_asm); (case k4 => k_asm); (case k5 => k_asm); (case k6 => k_is); (case k7 => k_is); (case k8 => ktr_room); (case k9 => first | exact BindsTo.of_eq rfl | exact binds_K (by k_in) rfl (by k_is) rfl rfl rfl); (case c5 => decide); (case kB => exact locs rfl); (case c2 => exact rfl); (case c3 => exact rfl); (case c4 => exact rfl); k_whole; intro g' L' h' FG' F' N' B' X' T'; (try dsimp only); (try k_lift B'); (try k_fold))))) | ((with_reducible show wpAny _ _ (call (Value.ref _) _) _ _ _); (k_here; k_dflt (refine wpAny_call ?_; (refine' code_def ?k1 ?k2 ?k3 ?k4 ?k5 ?kA ?kF ?kK ?k6 ?k7 ?k8 ?k9 ?kB ?_ ?c2 ?c3 ?c4 ?c5; (case kA => exact rfl); (case kF => exact rfl); (case kK => first | exact rfl | assumption); (case k1 => k_asm); (case k2 => k_asm); (case k3 => k_asm); (case k4 => k_asm); (case k5 => k_asm); (case k6 => k_is); (case k7 => k_is); (case k8 => ktr_room); (case k9 => exact BindsTo.of_eq rfl); (case c5 => decide); (case kB => exact locs rfl); (case c2 => exact rfl); (case c3 => exact rfl); (case c4 => exact rfl); k_whole; intro g' L' h' FG' F' N' B' X' T'; (try dsimp only); (try k_lift B'); (try k_fold)))))) | (k_unfold; (try dsimp only)) | (k_end; wrow_close) | walk1 | (dsimp only; walk1) | (leave1; try dsimp only) | fail "no step")
  all_goals (try dsimp only)
  refine' ret _ _ _ _ _ _ _ _ _ _ _ _ _ ?l1 ?l2 ?F ?N; (case F => k_asm); (case N => k_asm); (case l1 => assumption); (case l2 => assumption)
noncomputable abbrev rttN (w : World) (k1 k2 k3 k4 k5 k6 : Tok) (tl : Tok) (te : Tok) (t8 : Tok) (t4 : Tok) : Obj :=
  dictOf [⟨PyData.keyHash w.params (Str.ofString "since"), .str (Str.ofString "since") k1, .none⟩,
    ⟨PyData.keyHash w.params (Str.ofString "latest"), .str (Str.ofString "latest") k2, .int 0 tl⟩,
    ⟨PyData.keyHash w.params (Str.ofString "least"), .str (Str.ofString "least") k3, .int 0 te⟩,
    ⟨PyData.keyHash w.params (Str.ofString "smoothed8"), .str (Str.ofString "smoothed8") k4, .int 2664000 t8⟩,
    ⟨PyData.keyHash w.params (Str.ofString "variance4"), .str (Str.ofString "variance4") k5, .int 666000 t4⟩,
    ⟨PyData.keyHash w.params (Str.ofString "first_at"), .str (Str.ofString "first_at") k6, .none⟩] 6
set_option maxHeartbeats 8000000 in
theorem rtt_new {w : World} {mean : ExcName → Option Value} {mg mb : Str → Option Value} {dp un : Nat} {gd : Option (List Code)} {cn : Str} {cs : Scope} {a : Addr} {ccd : Value} {cl : List (Str × Addr)} {outer : List Env} {A₀ : Around} {base h₀ : Heap} {L : Addr} {m : Str → Option Value} {s : Shared} {Q E : Value → Shared → Prop}
    (B : Below A₀ base outer h₀) (F : Fr h₀ L s.heap m) (X : (Mine.hd.heap_39 w.params).In h₀) (T : Top Mine.hd.view_39 (looseW Mine.hd.view_39 []) mean mg mb h₀) (hk : cs.kind = .function)
   {news : List (Addr × Obj)}
    (N : News h₀ L s.heap news) (hdp : dp + 3 < recursionLimit) (hu : un + 24 < cLine)
    (ret : ∀ (x d : Addr) (k1 k2 k3 k4 k5 k6 tl te t8 t4 : Tok) h' tk', (∀ p ∈ news, p.1 < d) → @LT.lt Nat instLTNat d x → Fr h₀ L h' m → News h₀ L h' ((x, instObj 235 d) :: (d, rttN w k1 k2 k3 k4 k5 k6 tl te t8 t4) :: news) → Q (.ref x) { s with heap := h', toks := tk' }) :
    wpAny (model PySem.Challenge.rw_sj0111_01.row.toRowW.prog w) (ktrTop dp un gd cn cs L a ccd cl outer) (call (.ref 235) []) Q E s := by
  revert X; k_fill; intro X
  repeat' (first | ((with_reducible show wpAny _ _ (call (Value.ref _) _) _ _ _); first | ((with_reducible show wpAny _ _ (call (Value.ref _) _) _ _ _); (k_here; k_dflt ((refine' call_cls ?k1 ?k2 ?k3 ?k4 ?k5 ?k6 ?_; (case k1 => k_asm); (case k2 => k_asm); (case k3 => k_asm); (case k4 => k_is); (case k5 => k_is); (case k6 => k_is); k_whole; intro x' d' h' F' N' l1 l2; (try k_lt l1); (try k_lt2 l2); (try k_sweep)); (refine' code_def ?k1 ?k2 ?k3 ?k4 ?k5 ?kA ?kF ?kK ?k6 ?k7 ?k8 ?k9 ?kB ?_ ?c2 ?c3 ?c4 ?c5; (case kA => exact rfl); (case kF => exact rfl); (case kK => first | exact rfl | assumption); (case k1 => k_asm); (case k2 => k_asm); (case k3 => k_asm); (case k4 => k_asm); (case k5 => k_asm); (case k6 => k_is); (case k7 => k_is); (case k8 => ktr_room); (case k9 => first | exact BindsTo.of_eq rfl | exact binds_K (by k_in) rfl (by k_is) rfl rfl rfl); (case c5 => decide); (case kB => exact locs rfl); (case c2 => exact rfl); (case c3 => exact rfl); (case c4 => exact rfl); k_whole; intro g' L' h' FG' F' N' B' X' T'; (try dsimp only); (try k_lift B'); (try k_fold))))) | ((with_reducible show wpAny _ _ (call (Value.ref _) _) _ _ _); (k_here; k_dflt (refine wpAny_call ?_; (refine' code_def ?k1 ?k2 ?k3 ?k4 ?k5 ?kA ?kF ?kK ?k6 ?k7 ?k8 ?k9 ?kB ?_ ?c2 ?c3 ?c4 ?c5; (case kA => exact rfl); (case kF => exact rfl); (case kK => first | exact rfl | assumption); (case k1 => k_asm); (case k2 => k_asm); (case k3 => k_asm); (case k4 => k_asm); (case k5 => k_asm); (case k6 => k_is); (case k7 => k_is); (case k8 => ktr_room); (case k9 => exact BindsTo.of_eq rfl); (case c5 => decide); (case kB => exact locs rfl); (case c2 => exact rfl); (case c3 => exact rfl); (case c4 => exact rfl); k_whole; intro g' L' h' FG' F' N' B' X' T'; (try dsimp only); (try k_lift B'); (try k_fold)))))) | (k_unfold; (try dsimp only)) | (k_end; wrow_close) | walk1 | (dsimp only; walk1) | (leave1; try dsimp only) | fail "no step")
  all_goals (try dsimp only)
  refine' ret _ _ _ _ _ _ _ _ _ _ _ _ _ _ ?l1 ?l2 ?F ?N; (case F => k_asm); (case N => k_asm); (case l1 => assumption); (case l2 => assumption)
set_option maxHeartbeats 8000000 in
theorem samp0_1 {w : World} {mean : ExcName → Option Value} {mg mb : Str → Option Value} {dp un : Nat} {gd : Option (List Code)} {cn : Str} {cs : Scope} {a : Addr} {ccd : Value} {cl : List (Str × Addr)} {outer : List Env} {A₀ : Around} {base h₀ : Heap} {L : Addr} {m : Str → Option Value} {s : Shared} {Q E : Value → Shared → Prop}
    (B : Below A₀ base outer h₀) (F : Fr h₀ L s.heap m) (X : (Mine.hd.heap_39 w.params).In h₀) (T : Top Mine.hd.view_39 (looseW Mine.hd.view_39 []) mean mg mb h₀) (hk : cs.kind = .function)
   {x dx : Addr} {k1 k2 k3 k4 k5 k6 tl te t8 t4 : Tok} {news : List (Addr × Obj)} {tm tn tz : Tok} {lat now : Int}
    (N : News h₀ L s.heap ((dx, rttN w k1 k2 k3 k4 k5 k6 tl te t8 t4) :: (x, instObj 235 dx) :: news)) (off : OwnOff news [dx]) (hx : @Ne Nat dx x)
    (hdp : dp + 3 < recursionLimit) (hu : un + 24 < cLine)
    (ret : ∀ (tl te t8 t4 : Tok) h' tk', Fr h₀ L h' m → News h₀ L h' ((dx, rttD w k1 k2 k3 k4 k5 k6 lat tl lat te (8 * lat) t8 (2 * lat) t4 now tn) :: (x, instObj 235 dx) :: news) → Q .none { s with heap := h', toks := tk' }) :
    wpAny (model PySem.Challenge.rw_sj0111_01.row.toRowW.prog w) (ktrTop dp un gd cn cs L a ccd cl outer) (call (.ref 218) [.ref x, .int lat tz, .int 0 tm, .none, .int now tn]) Q E s := by
  revert X; k_fill; intro X
  refine wpAny_call ?_
  k_dflt cell_enter
  repeat' (first | ((with_reducible show wpAny _ _ (call (Value.ref _) _) _ _ _); first | ((with_reducible show wpAny _ _ (call (Value.ref _) _) _ _ _); (k_here; k_dflt ((refine' call_cls ?k1 ?k2 ?k3 ?k4 ?k5 ?k6 ?_; (case k1 => k_asm); (case k2 => k_asm); (case k3 => k_asm); (case k4 => k_is); (case k5 => k_is); (case k6 => k_is); k_whole; intro x' d' h' F' N' l1 l2; (try k_lt l1); (try k_lt2 l2); (try k_sweep)); (refine' code_def ?k1 ?k2 ?k3 ?k4 ?k5 ?kA ?kF ?kK ?k6 ?k7 ?k8 ?k9 ?kB ?_ ?c2 ?c3 ?c4 ?c5; (case kA => exact rfl); (case kF => exact rfl); (case kK => first | exact rfl | assumption); (case k1 => k_asm); (case k2 => k_asm); (case k3 => k_asm); (case k4 => k_asm); (case k5 => k_asm); (case k6 => k_is); (case k7 => k_is); (case k8 => ktr_room); (case k9 => first | exact BindsTo.of_eq rfl | exact binds_K (by k_in) rfl (by k_is) rfl rfl rfl); (case c5 => decide); (case kB => exact locs rfl); (case c2 => exact rfl); (case c3 => exact rfl); (case c4 => exact rfl); k_whole; intro g' L' h' FG' F' N' B' X' T'; (try dsimp only); (try k_lift B'); (try k_fold))))) | ((with_reducible show wpAny _ _ (call (Value.ref _) _) _ _ _); (k_here; k_dflt (refine wpAny_call ?_; (refine' code_def ?k1 ?k2 ?k3 ?k4 ?k5 ?kA ?kF ?kK ?k6 ?k7 ?k8 ?k9 ?kB ?_ ?c2 ?c3 ?c4 ?c5; (case kA => exact rfl); (case kF => exact rfl); (case kK => first | exact rfl | assumption); (case k1 => k_asm); (case k2 => k_asm); (case k3 => k_asm); (case k4 => k_asm); (case k5 => k_asm); (case k6 => k_is); (case k7 => k_is); (case k8 => ktr_room); (case k9 => exact BindsTo.of_eq rfl); (case c5 => decide); (case kB => exact locs rfl); (case c2 => exact rfl); (case c3 => exact rfl); (case c4 => exact rfl); k_whole; intro g' L' h' FG' F' N' B' X' T'; (try dsimp only); (try k_lift B'); (try k_fold)))))) | (k_unfold; (try dsimp only)) | (k_end; wrow_close) | walk1 | (dsimp only; walk1) | (leave1; try dsimp only) | fail "no step")
  all_goals (refine' ret _ _ _ _ _ _ ?F ?N; (case F => k_asm); (case N => k_asm))
theorem samp0_c {w : World} {mean : ExcName → Option Value} {mg mb : Str → Option Value} {dp un : Nat} {gd : Option (List Code)} {cn : Str} {cs : Scope} {a : Addr} {ccd : Value} {cl : List (Str × Addr)} {outer : List Env} {A₀ : Around} {base h₀ : Heap} {L : Addr} {m : Str → Option Value} {s : Shared} {Q E : Value → Shared → Prop}
    (B : Below A₀ base outer h₀) (F : Fr h₀ L s.heap m) (X : (Mine.hd.heap_39 w.params).In h₀) (T : Top Mine.hd.view_39 (looseW Mine.hd.view_39 []) mean mg mb h₀) (hk : cs.kind = .function)
   {x dx : Addr} {k1 k2 k3 k4 k5 k6 tl te t8 t4 : Tok} {news : List (Addr × Obj)} {tm tn tz : Tok} {lat now : Int} {f : Obj → List (Addr × Obj)}
    (N : News h₀ L s.heap news) (hy : (x, instObj 235 dx) ∈ news) (hx : @Ne Nat dx x) (U : UpdF dx (rttN w k1 k2 k3 k4 k5 k6 tl te t8 t4) news f) (hdp : dp + 3 < recursionLimit) (hu : un + 24 < cLine)
    (ret : ∀ (tl te t8 t4 : Tok) h' tk', Fr h₀ L h' m → News h₀ L h' (f (rttD w k1 k2 k3 k4 k5 k6 lat tl lat te (8 * lat) t8 (2 * lat) t4 now tn)) → Q .none { s with heap := h', toks := tk' }) :
    wpAny (model PySem.Challenge.rw_sj0111_01.row.toRowW.prog w) (ktrTop dp un gd cn cs L a ccd cl outer) (call (.ref 218) [.ref x, .int lat tz, .int 0 tm, .none, .int now tn]) Q E s := by
  obtain ⟨rest, off, N1, back⟩ := upd_in N U hy (Ne.symm hx)
  exact samp0_1 B F X T hk N1 off hx hdp hu (fun tl te t8 t4 h' tk' F' N' => ret tl te t8 t4 h' tk' F' (back _ _ N'))
end
section
local macro_rules | `(tactic| k_inst) => `(tactic| (refine' instAt_g ?kf ?kx ?kd; (case kf => k_asm); (case kx => assumption); (case kd => assumption)))
local macro_rules | `(tactic| walk_at "exec Assign cons ListComp") => `(tactic| (k_here; lcf_look; lcg_calm; k_dflt (refine LCg.Assign_ListComp_U (F₀ := by k_asm) (by rfl) (by with_unfolding_all rfl) (by with_unfolding_all rfl) (by decide) (by rfl) (by decide) (by rfl) (by rfl) (by rfl) ?_); k_dflt lcg_toSrc))
local macro_rules | `(tactic| walk_at "CompSrc") => `(tactic| (k_here; k_dflt (refine LCg.CompSrc.range (by rfl) (by k_asm) (by k_asm) (by assumption) (by first | decide | rfl) (by first | rfl | decide) (by first | size_fits | exact Nat.le_of_ble_eq_true rfl) ?_; intro g'; lcg_lit)))
local macro_rules | `(tactic| walk_at "CompRest") => `(tactic| (with_unfolding_all first
  | (refine LCg.CompRest.succ ?_; intro v' I' oI' C' oC' D' m' h' tk' E' hv' hC' hx' F' N' off' ne'; (first | lcg_open hv' | (obtain ⟨t9', hv9'⟩ := hv'; subst hv9')))
  | refine LCg.CompRest.zero ?_))
local macro_rules | `(tactic| walk_at "CompEnd") => `(tactic| (refine LCg.CompEnd.intro (by assumption) (by assumption) _ (fun p hp => hp) (by assumption) (by lcg_src) ?_))
theorem twin_end {size l' V v late : Int} (hq : 0 ≤ (if 0 > late then 0 else late) - 0 → (size ≤ l' ↔ V ≤ (if 0 > late then 0 else late) - 0)) (e : v = V) (hnn : 0 ≤ V) (hl : late = 0 ∨ late = v - 1 ∨ late = v)
    (a : (decide (size ≤ l') != [-1, v].any fun x => x == late) = true) : False := by
  subst e
  have h0 : 0 ≤ (if 0 > late then 0 else late) - 0 := by split <;> omega
  have h1 := hq h0
  have h2 : v ≤ (if 0 > late then 0 else late) - 0 ↔ (-1 = late ∨ v = late) := by
    split <;> (rcases hl with h | h | h <;> constructor <;> intro h3 <;> omega)
  have h3 : decide (size ≤ l') = [-1, v].any fun x => x == late := by
    rw [Bool.eq_iff_iff]
    simp only [decide_eq_true_eq, List.any_cons, List.any_nil, Bool.or_false, Bool.or_eq_true, beq_iff_eq]
    exact h1.trans h2
  rw [h3] at a
  simp at a
set_option maxHeartbeats 8000000 in
theorem waits_u {w : World} {mean : ExcName → Option Value} {mg mb : Str → Option Value} {dp un : Nat} {gd : Option (List Code)} {cn : Str} {cs : Scope} {a : Addr} {ccd : Value} {cl : List (Str × Addr)} {outer : List Env} {A₀ : Around} {base h₀ : Heap} {L : Addr} {m : Str → Option Value} {s : Shared} {Q E : Value → Shared → Prop}
    (B : Below A₀ base outer h₀) (F : Fr h₀ L s.heap m) (X : (Mine.hd.heap_39 w.params).In h₀) (T : Top Mine.hd.view_39 (looseW Mine.hd.view_39 []) mean mg mb h₀) (hk : cs.kind = .function)
   {pl wl x0 x1 x2 x3 d0 d1 d2 d3 : Addr} {c cw : Nat} {k10 k20 k30 k40 tb0 tl0 tr0 ts0 tw0 k11 k21 k31 k41 tb1 tl1 tr1 ts1 tw1 k12 k22 k32 k42 tb2 tl2 tr2 ts2 tw2 k13 k23 k33 k43 tb3 tl3 tr3 ts3 tw3 tz tm : Tok} {b0 b1 b2 b3 l0 l1 l2 l3 r0 r1 r2 r3 s0 s1 s2 s3 w0 w1 w2 w3 size sm : Int} {news : List (Addr × Obj)}
    (hwl : s.heap.get? wl = some (W.listOf #[.int w0 tw0, .int w1 tw1, .int w2 tw2, .int w3 tw3] cw)) (hpl : s.heap.get? pl = some (W.listOf #[.ref x0, .ref x1, .ref x2, .ref x3] c)) (hx0 : s.heap.get? x0 = some (instObj 66 d0)) (hd0 : s.heap.get? d0 = some (pacerD w k10 k20 k30 k40 b0 tb0 l0 tl0 r0 tr0 s0 ts0)) (hx1 : s.heap.get? x1 = some (instObj 66 d1)) (hd1 : s.heap.get? d1 = some (pacerD w k11 k21 k31 k41 b1 tb1 l1 tl1 r1 tr1 s1 ts1)) (hx2 : s.heap.get? x2 = some (instObj 66 d2)) (hd2 : s.heap.get? d2 = some (pacerD w k12 k22 k32 k42 b2 tb2 l2 tl2 r2 tr2 s2 ts2)) (hx3 : s.heap.get? x3 = some (instObj 66 d3)) (hd3 : s.heap.get? d3 = some (pacerD w k13 k23 k33 k43 b3 tb3 l3 tl3 r3 tr3 s3 ts3))
    (N : News h₀ L s.heap news)
    (hw0 : 0 ≤ w0 ∧ w0 ≤ 1000000) (hw1 : 0 ≤ w1 ∧ w1 ≤ 1000000) (hw2 : 0 ≤ w2 ∧ w2 ≤ 1000000) (hw3 : 0 ≤ w3 ∧ w3 ≤ 1000000) (hs : 0 ≤ sm ∧ sm ≤ 1000000)
    (h10 : waitV l1 r1 size w1 sm ≤ waitV l0 r0 size w0 sm) (h21 : waitV l2 r2 size w2 sm ≤ waitV l1 r1 size w1 sm) (h31 : waitV l3 r3 size w3 sm ≤ waitV l1 r1 size w1 sm) (hnn : 0 ≤ waitV l1 r1 size w1 sm)
    (hT : TwinOk b1 l1 r1 w1 sm size)
    (hdp : dp + 6 < recursionLimit) (hu : un + 64 < cLine)
    (ret : ∀ h' tk', Fr h₀ L h' m → News h₀ L h' news → Q (.bool true) { s with heap := h', toks := tk' }) :
    wpAny (model PySem.Challenge.rw_sj0111_01.row.toRowW.prog w) (ktrTop dp un gd cn cs L a ccd cl outer) (call (.ref 265) [.ref pl, .ref wl, .int size tz, .int sm tm]) Q E s := by
  revert X; k_fill; intro X
  refine wpAny_call ?_
  refine' enter_allC ?k1 ?k2 ?k3 ?k5 ?kA ?kF ?kK ?k6 ?k7 ?k8 ?k9 ?kB ?kD ?_ ?c2 ?c3 ?c4
  (case kA => exact rfl); (case kF => exact rfl); (case kK => assumption); (case k1 => exact B); (case k2 => exact F); (case k3 => exact X); (case k5 => exact T)
  k_dflt (case k6 => k_is)
  k_dflt (case k7 => k_is)
  (case k8 => exact Nat.lt_of_le_of_lt (Nat.le_add_right _ _) hdp)
  k_dflt (case k9 => exact BindsTo.of_eq rfl)
  k_dflt (case kB => exact rfl)
  (case kD => decide +kernel); (case c2 => exact rfl); (case c3 => exact rfl); (case c4 => exact rfl)
  intro g L' h₁ tk' cells' hg FG' F' N' Y' B' X' T'
  k_dflt (k_cells Y')
  (try simp only [List.cons_append, List.nil_append] at N')
  all_goals (try dsimp only)
  all_goals (try k_fold)
  have hpl' : g.IsList pl #[.ref x0, .ref x1, .ref x2, .ref x3] := ⟨_, hg _ _ hpl, rfl, _, rfl⟩
  have hwl' : g.IsList wl #[.int w0 tw0, .int w1 tw1, .int w2 tw2, .int w3 tw3] := ⟨_, hg _ _ hwl, rfl, _, rfl⟩
  have hx0' := hg _ _ hx0
  have hd0' := hg _ _ hd0
  have hx1' := hg _ _ hx1
  have hd1' := hg _ _ hd1
  have hx2' := hg _ _ hx2
  have hd2' := hg _ _ hd2
  have hx3' := hg _ _ hx3
  have hd3' := hg _ _ hd3
  have hdp' : (dp + 1) + 5 < recursionLimit := hdp
  clear F X T B hpl hwl hx0 hd0 hx1 hd1 hx2 hd2 hx3 hd3
  repeat' (first | ((with_reducible show wpAny _ _ (call (Value.ref _) _) _ _ _); first | ((with_reducible show wpAny _ _ (call (Value.ref 42) _) _ _ _); k_here; k_dflt (refine' earn_c ?k1 ?k2 ?k3 ?k4 ?k5 ?kN ?ky ?kx ?kU ?kw ?ks ?kr ?ku ?_; (case k1 => k_asm); (case k2 => k_asm); (case k3 => k_asm); (case k4 => k_asm); (case k5 => first | exact rfl | assumption); (case kN => k_asm); (case ky => k_mem); (case kx => k_ne); (case kU => k_updF); (case kw => first | assumption | (constructor <;> omega)); (case ks => first | assumption | (constructor <;> omega)); (case kr => first | (refine lt_room (by assumption) ?_; decide) | ktr_room); (case ku => first | (refine lt_room (by assumption) ?_; decide) | ktr_units); k_whole); intro l' r' tl' tr' ts' h' tk' e1' e2' F' N'; (try (have hq' := twin_fact (by assumption) e1')); (try dsimp only at N'); (try k_sweep)) | ((with_reducible show wpAny _ _ (call (Value.ref 49) _) _ _ _); k_here; k_dflt (refine' may_u ?k1 ?k2 ?k3 ?k4 ?k5 ?kx ?kd ?kN ?kr ?_; (case k1 => k_asm); (case k2 => k_asm); (case k3 => k_asm); (case k4 => k_asm); (case k5 => first | exact rfl | assumption); (case kx => first | (refine' Fr.keep ?kff _ _ ?khh; (case kff => k_asm); (case khh => assumption)) | exact News.get (by k_asm) (by k_mem)); (case kd => first | (refine' Fr.keep ?kff _ _ ?khh; (case kff => k_asm); (case khh => assumption)) | exact News.get (by k_asm) (by k_mem)); (case kN => k_asm); (case kr => first | (refine lt_room (by assumption) ?_; decide) | ktr_room); k_whole); intro h' tk' F' N'; (try k_sweep)) | ((with_reducible show wpAny _ _ (call (Value.ref 63) _) _ _ _); k_here; k_dflt (refine' wait_u ?k1 ?k2 ?k3 ?k4 ?k5 ?kx ?kd ?kN ?kr ?kw ?ks ?_; (case k1 => k_asm); (case k2 => k_asm); (case k3 => k_asm); (case k4 => k_asm); (case k5 => first | exact rfl | assumption); (case kx => first | (refine' Fr.keep ?kff _ _ ?khh; (case kff => k_asm); (case khh => assumption)) | exact News.get (by k_asm) (by k_mem)); (case kd => first | (refine' Fr.keep ?kff _ _ ?khh; (case kff => k_asm); (case khh => assumption)) | exact News.get (by k_asm) (by k_mem)); (case kN => k_asm); (case kr => first | (refine lt_room (by assumption) ?_; decide) | ktr_room); (case kw => first | assumption | (constructor <;> omega)); (case ks => first | assumption | (constructor <;> omega)); k_whole); intro v' t' h' tk' e' F' N'; (try k_sweep)) | ((with_reducible show wpAny _ _ (call (Value.ref 66) _) _ _ _); k_here; k_dflt (refine' pacer_new ?k1 ?k2 ?k3 ?k4 ?k5 ?kN ?kr ?ku ?_; (case k1 => k_asm); (case k2 => k_asm); (case k3 => k_asm); (case k4 => k_asm); (case k5 => first | exact rfl | assumption); (case kN => k_asm); (case kr => first | (refine lt_room (by assumption) ?_; decide) | ktr_room); (case ku => first | (refine lt_room (by assumption) ?_; decide) | ktr_units); k_whole); intro x' d' k1' k2' k3' k4' tl' tr' h' tk' l1 l2 F' N'; (try k_sweep))) | ((with_reducible show wpAny _ _ (subscriptTail _ _ (Value.ref _) (Value.int _ _)) _ _ _); k_here; (with_unfolding_all refine' item_litK ?k1 ?k2 ?k3 ?k4 ?_ ?k6; (case k1 => first | (refine' isList_g ?kff ?kll; (case kff => k_asm); (case kll => assumption)) | is_list); (case k2 => decide); (case k3 => decide); (case k4 => rfl); (case k6 => with_unfolding_all rfl); k_whole)) | (k_dflt (refine' leaveK_rest ?k1 ?k2 ?_; (case k1 => k_asm); (case k2 => k_asm); k_whole); intro kG kF kN; dsimp only) | (k_unfold; (try dsimp only)) | (k_end; wrow_close) | walk1 | (dsimp only; walk1) | (leave1; try dsimp only) | fail "no step")
  all_goals first
    | (exfalso; refine' twin_end ?h1 ?h2 hnn ?h4 ?h5; (case h5 => assumption); (case h1 => assumption); (case h2 => assumption); (case h4 => first | exact .inl rfl | exact .inr (.inl rfl) | exact .inr (.inr rfl)))
    | (refine' ret _ _ ?F (back_all N hg ?G); (case F => k_asm); (case G => assumption))
theorem waits_c {w : World} {mean : ExcName → Option Value} {mg mb : Str → Option Value} {dp un : Nat} {gd : Option (List Code)} {cn : Str} {cs : Scope} {a : Addr} {ccd : Value} {cl : List (Str × Addr)} {outer : List Env} {A₀ : Around} {base h₀ : Heap} {L : Addr} {m : Str → Option Value} {s : Shared} {Q E : Value → Shared → Prop}
    (B : Below A₀ base outer h₀) (F : Fr h₀ L s.heap m) (X : (Mine.hd.heap_39 w.params).In h₀) (T : Top Mine.hd.view_39 (looseW Mine.hd.view_39 []) mean mg mb h₀) (hk : cs.kind = .function)
   {pl wl x0 x1 x2 x3 d0 d1 d2 d3 : Addr} {c cw : Nat} {k10 k20 k30 k40 tb0 tl0 tr0 ts0 tw0 k11 k21 k31 k41 tb1 tl1 tr1 ts1 tw1 k12 k22 k32 k42 tb2 tl2 tr2 ts2 tw2 k13 k23 k33 k43 tb3 tl3 tr3 ts3 tw3 tz tm : Tok} {b0 b1 b2 b3 l0 l1 l2 l3 r0 r1 r2 r3 s0 s1 s2 s3 w0 w1 w2 w3 size sm : Int} {news : List (Addr × Obj)}
    (N : News h₀ L s.heap news) (hs' : ∀ p ∈ ([(wl, W.listOf #[.int w0 tw0, .int w1 tw1, .int w2 tw2, .int w3 tw3] cw), (pl, W.listOf #[.ref x0, .ref x1, .ref x2, .ref x3] c), (x0, instObj 66 d0), (d0, pacerD w k10 k20 k30 k40 b0 tb0 l0 tl0 r0 tr0 s0 ts0), (x1, instObj 66 d1), (d1, pacerD w k11 k21 k31 k41 b1 tb1 l1 tl1 r1 tr1 s1 ts1), (x2, instObj 66 d2), (d2, pacerD w k12 k22 k32 k42 b2 tb2 l2 tl2 r2 tr2 s2 ts2), (x3, instObj 66 d3), (d3, pacerD w k13 k23 k33 k43 b3 tb3 l3 tl3 r3 tr3 s3 ts3)] : List (Addr × Obj)), p ∈ news)
    (hw0 : 0 ≤ w0 ∧ w0 ≤ 1000000) (hw1 : 0 ≤ w1 ∧ w1 ≤ 1000000) (hw2 : 0 ≤ w2 ∧ w2 ≤ 1000000) (hw3 : 0 ≤ w3 ∧ w3 ≤ 1000000) (hs : 0 ≤ sm ∧ sm ≤ 1000000)
    (h10 : waitV l1 r1 size w1 sm ≤ waitV l0 r0 size w0 sm) (h21 : waitV l2 r2 size w2 sm ≤ waitV l1 r1 size w1 sm) (h31 : waitV l3 r3 size w3 sm ≤ waitV l1 r1 size w1 sm) (hnn : 0 ≤ waitV l1 r1 size w1 sm)
    (hT : TwinOk b1 l1 r1 w1 sm size)
    (hdp : dp + 6 < recursionLimit) (hu : un + 64 < cLine)
    (ret : ∀ h' tk', Fr h₀ L h' m → News h₀ L h' news → Q (.bool true) { s with heap := h', toks := tk' }) :
    wpAny (model PySem.Challenge.rw_sj0111_01.row.toRowW.prog w) (ktrTop dp un gd cn cs L a ccd cl outer) (call (.ref 265) [.ref pl, .ref wl, .int size tz, .int sm tm]) Q E s := by
  have z : ∀ p ∈ ([(wl, W.listOf #[.int w0 tw0, .int w1 tw1, .int w2 tw2, .int w3 tw3] cw), (pl, W.listOf #[.ref x0, .ref x1, .ref x2, .ref x3] c), (x0, instObj 66 d0), (d0, pacerD w k10 k20 k30 k40 b0 tb0 l0 tl0 r0 tr0 s0 ts0), (x1, instObj 66 d1), (d1, pacerD w k11 k21 k31 k41 b1 tb1 l1 tl1 r1 tr1 s1 ts1), (x2, instObj 66 d2), (d2, pacerD w k12 k22 k32 k42 b2 tb2 l2 tl2 r2 tr2 s2 ts2), (x3, instObj 66 d3), (d3, pacerD w k13 k23 k33 k43 b3 tb3 l3 tl3 r3 tr3 s3 ts3)] : List (Addr × Obj)), s.heap.get? p.1 = some p.2 := fun p hp => (N p (hs' p hp)).1
  simp only [List.forall_mem_cons] at z
  obtain ⟨z0, z1, z2, z3, z4, z5, z6, z7, z8, z9, _⟩ := z
  exact waits_u B F X T hk z0 z1 z2 z3 z4 z5 z6 z7 z8 z9 N hw0 hw1 hw2 hw3 hs h10 h21 h31 hnn hT hdp hu ret
end
section
set_option maxHeartbeats 8000000 in
theorem g1 {w : World} {mean : ExcName → Option Value} {mg mb : Str → Option Value} {dp un : Nat} {gd : Option (List Code)} {fa : Addr} {ccd : Value} {outer : List Env} {A₀ : Around} {base h₀ : Heap} {L : Addr} {u : Str → Option Value} {s : Shared} {Q : Flow → Shared → Prop} {E : Value → Shared → Prop} {ys : List Stmt}
    {b l wx wd pl x0 x1 x2 x3 d0 d1 d2 d3 sx sd fx fd I : Addr} {oI : Obj} {nb c cp : Nat} {tkx q1 q2 q3 q4 q5 q6 tla tle t8 t4 tfs k10 k20 k30 k40 tb0 tl0 tr0 ts0 k11 k21 k31 k41 tb1 tl1 tr1 ts1 k12 k22 k32 k42 tb2 tl2 tr2 ts2 k13 k23 k33 k43 tb3 tl3 tr3 ts3 g1 g2 g3 g4 g5 g6 gt twi tfl tcr f1 f2 f3 f4 f5 f6 ft tfw tff tfc tnow tbu tmo : Tok} {kx lat lea s8 v4 fst b0 l0 r0 s0 b1 l1 r1 s1 b2 l2 r2 s2 b3 l3 r3 s3 win fl cr fwin ffl fcr now burst more : Int} {thr rec : Value} {alike : Bool} {vs : List Value} {ns : List Int}
    (B : Below A₀ base outer h₀) (F : Fr h₀ L s.heap (kstB u [(Str.ofString "box", .ref b), (Str.ofString "way", .ref wx), (Str.ofString "now", .int now tnow), (Str.ofString "burst", .int burst tbu), (Str.ofString "more", .int more tmo), (Str.ofString "pacers", .ref pl), (Str.ofString "slow", .ref sx), (Str.ofString "fast", .ref fx), (Str.ofString "is_alike", .bool alike)])) (X : (Mine.hd.heap_39 w.params).In h₀) (T : Top Mine.hd.view_39 (looseW Mine.hd.view_39 []) mean mg mb h₀)
    (N : News h₀ L s.heap [(b, boxO l kx tkx nb), (l, W.listOf vs.toArray c), (wx, instObj 235 wd), (wd, rttD w q1 q2 q3 q4 q5 q6 lat tla lea tle s8 t8 v4 t4 fst tfs), (pl, W.listOf #[.ref x0, .ref x1, .ref x2, .ref x3] cp), (x0, instObj 66 d0), (d0, pacerD w k10 k20 k30 k40 b0 tb0 l0 tl0 r0 tr0 s0 ts0), (x1, instObj 66 d1), (d1, pacerD w k11 k21 k31 k41 b1 tb1 l1 tl1 r1 tr1 s1 ts1), (x2, instObj 66 d2), (d2, pacerD w k12 k22 k32 k42 b2 tb2 l2 tl2 r2 tr2 s2 ts2), (x3, instObj 66 d3), (d3, pacerD w k13 k23 k33 k43 b3 tb3 l3 tl3 r3 tr3 s3 ts3), (sx, instObj 171 sd), (sd, renoD w g1 g2 g3 g4 g5 g6 gt win twi thr rec fl tfl cr tcr), (fx, instObj 171 fd), (fd, renoD w f1 f2 f3 f4 f5 f6 ft fwin tfw .none .none ffl tff fcr tfc), (I, oI)]) (hch : @LT.lt Nat instLTNat l b ∧ @LT.lt Nat instLTNat b wd ∧ @LT.lt Nat instLTNat wd wx ∧ @LT.lt Nat instLTNat wx d0 ∧ @LT.lt Nat instLTNat d0 x0 ∧ @LT.lt Nat instLTNat x0 d1 ∧ @LT.lt Nat instLTNat d1 x1 ∧ @LT.lt Nat instLTNat x1 d2 ∧ @LT.lt Nat instLTNat d2 x2 ∧ @LT.lt Nat instLTNat x2 d3 ∧ @LT.lt Nat instLTNat d3 x3 ∧ @LT.lt Nat instLTNat x3 pl ∧ @LT.lt Nat instLTNat pl sd ∧ @LT.lt Nat instLTNat sd sx ∧ @LT.lt Nat instLTNat sx fd ∧ @LT.lt Nat instLTNat fd fx ∧ @LT.lt Nat instLTNat fx I) (hi : IntsAre vs ns) (hlen : ns.length ≤ 48) (hdp : dp + 12 < recursionLimit) (hun : un + 100 < cLine)
    (hE : PassesOwn (model PySem.Challenge.rw_sj0111_01.row.toRowW.prog w) (ktrTop dp un gd (Str.ofString "law") lawScope L fa ccd [] outer) (envOf (Str.ofString "law") lawScope L fa ccd) E)(hk0 : 0 ≤ kx ∧ kx ≤ 10000) (hbu : 100 ≤ burst ∧ burst ≤ 1299)
    (ret : ∀ (dt fo si kx3 : Int) (tkx3 tnow3 tfo3 tsz3 : Tok) (nb3 : Nat) u' h' tk', 0 ≤ dt → 0 ≤ fo → fo < 6 → 1 ≤ si → si ≤ burst → kx3 = kx + 3 →
      Fr h₀ L h' (kstB u' [(Str.ofString "box", .ref b), (Str.ofString "way", .ref wx), (Str.ofString "now", .int (now + dt) tnow3), (Str.ofString "burst", .int burst tbu), (Str.ofString "more", .int more tmo), (Str.ofString "pacers", .ref pl), (Str.ofString "slow", .ref sx), (Str.ofString "fast", .ref fx), (Str.ofString "is_alike", .bool alike), (Str.ofString "form", .int fo tfo3), (Str.ofString "size", .int si tsz3)]) → News h₀ L h' [(b, boxO l kx3 tkx3 nb3), (l, W.listOf vs.toArray c), (wx, instObj 235 wd), (wd, rttD w q1 q2 q3 q4 q5 q6 lat tla lea tle s8 t8 v4 t4 fst tfs), (pl, W.listOf #[.ref x0, .ref x1, .ref x2, .ref x3] cp), (x0, instObj 66 d0), (d0, pacerD w k10 k20 k30 k40 b0 tb0 l0 tl0 r0 tr0 s0 ts0), (x1, instObj 66 d1), (d1, pacerD w k11 k21 k31 k41 b1 tb1 l1 tl1 r1 tr1 s1 ts1), (x2, instObj 66 d2), (d2, pacerD w k12 k22 k32 k42 b2 tb2 l2 tl2 r2 tr2 s2 ts2), (x3, instObj 66 d3), (d3, pacerD w k13 k23 k33 k43 b3 tb3 l3 tl3 r3 tr3 s3 ts3), (sx, instObj 171 sd), (sd, renoD w g1 g2 g3 g4 g5 g6 gt win twi thr rec fl tfl cr tcr), (fx, instObj 171 fd), (fd, renoD w f1 f2 f3 f4 f5 f6 ft fwin tfw .none .none ffl tff fcr tfc), (I, oI)] → wpAny (model PySem.Challenge.rw_sj0111_01.row.toRowW.prog w) (ktrTop dp un gd (Str.ofString "law") lawScope L fa ccd [] outer) (execs ys (envOf (Str.ofString "law") lawScope L fa ccd)) Q E { s with heap := h', toks := tk' }) :
    wpAny (model PySem.Challenge.rw_sj0111_01.row.toRowW.prog w) (ktrTop dp un gd (Str.ofString "law") lawScope L fa ccd [] outer) (execs (takeS 3 forBody ++ ys) (envOf (Str.ofString "law") lawScope L fa ccd)) Q E s := by
  revert X; k_fill; intro X
  dsimp only [lawScope, forBody, lawBody, lawDef, PySem.Challenge.pw_sj0111_01, lastOf, bodyOf, takeS, dropS, headS, scopeOf, List.cons_append, List.nil_append] at *
  have hS : Asc l [b, wd, wx, d0, x0, d1, x1, d2, x2, d3, x3, pl, sd, sx, fd, fx, I] := hch
  repeat' (first | ((with_reducible show wpAny _ _ (call (Value.ref _) _) _ _ _); first | ((with_reducible show wpAny _ _ (call (Value.ref 246) _) _ _ _); k_here; k_dflt (refine' drawn_c ?k1 ?k2 ?k3 ?k4 ?k5 ?kN ?ky ?kx ?kU ?ki ?kl ?kk ?km ?kr ?ku ?_; (case k1 => k_asm); (case k2 => k_asm); (case k3 => k_asm); (case k4 => k_asm); (case k5 => first | exact rfl | assumption); (case kN => k_asm); (case kU => k_updF); (case ky => k_mem); (case kx => k_ne); (case ki => assumption); (case kl => assumption); (case kk => (constructor <;> omega)); (case km => (constructor <;> omega)); (case kr => ktr_room); (case ku => ktr_units); k_whole); intro r' t' t2' nb' h' tk' e1' e2' F' N'; (try dsimp only at N'); (try k_sweep))) | (k_unfold; (try dsimp only)) | (k_end; wrow_close) | walk1 | (dsimp only; walk1) | (leave1; try dsimp only) | fail "no step")
  refine' ret _ _ _ _ _ _ _ _ _ _ _ _ ?e1 ?e2 ?e3 ?e4 ?e5 ?e6 ?F ?N
  (case F => refine' fr_kst ?FF ?FP; (case FF => k_asm); (case FP => repeat (first | exact List.forall_mem_nil _ | refine' List.forall_mem_cons.mpr ⟨by with_unfolding_all rfl, ?_⟩))); (case N => refine' kst_newsOf ?NN ?NS; (case NN => assumption); (case NS => k_allIn))
  (case e1 => exact menu_dt.1)
  all_goals omega
end
section
theorem s8_up {s8 lt : Int} (h : 8 ≤ s8 ∧ s8 ≤ 7207) (h1 : 0 ≤ lt) (h2 : lt < 900) : 8 ≤ s8 - s8.fdiv 8 + (1 + lt) ∧ s8 - s8.fdiv 8 + (1 + lt) ≤ 7207 := by
  rw [Int.fdiv_eq_ediv_of_nonneg _ (by decide)]
  omega
set_option maxHeartbeats 8000000 in
theorem g2 {w : World} {mean : ExcName → Option Value} {mg mb : Str → Option Value} {dp un : Nat} {gd : Option (List Code)} {fa : Addr} {ccd : Value} {outer : List Env} {A₀ : Around} {base h₀ : Heap} {L : Addr} {u : Str → Option Value} {s : Shared} {Q : Flow → Shared → Prop} {E : Value → Shared → Prop} {ys : List Stmt}
    {b l wx wd pl x0 x1 x2 x3 d0 d1 d2 d3 sx sd fx fd I : Addr} {oI : Obj} {nb c cp : Nat} {tkx q1 q2 q3 q4 q5 q6 tla tle t8 t4 tfs k10 k20 k30 k40 tb0 tl0 tr0 ts0 k11 k21 k31 k41 tb1 tl1 tr1 ts1 k12 k22 k32 k42 tb2 tl2 tr2 ts2 k13 k23 k33 k43 tb3 tl3 tr3 ts3 g1 g2 g3 g4 g5 g6 gt twi tfl tcr f1 f2 f3 f4 f5 f6 ft tfw tff tfc tnow tbu tmo tfo tsz : Tok} {kx lat lea s8 v4 fst b0 l0 r0 s0 b1 l1 r1 s1 b2 l2 r2 s2 b3 l3 r3 s3 win fl cr fwin ffl fcr now burst more form size : Int} {thr rec : Value} {alike : Bool} {vs : List Value} {ns : List Int}
    (B : Below A₀ base outer h₀) (F : Fr h₀ L s.heap (kstB u [(Str.ofString "box", .ref b), (Str.ofString "way", .ref wx), (Str.ofString "now", .int now tnow), (Str.ofString "burst", .int burst tbu), (Str.ofString "more", .int more tmo), (Str.ofString "pacers", .ref pl), (Str.ofString "slow", .ref sx), (Str.ofString "fast", .ref fx), (Str.ofString "is_alike", .bool alike), (Str.ofString "form", .int form tfo), (Str.ofString "size", .int size tsz)])) (X : (Mine.hd.heap_39 w.params).In h₀) (T : Top Mine.hd.view_39 (looseW Mine.hd.view_39 []) mean mg mb h₀)
    (N : News h₀ L s.heap [(b, boxO l kx tkx nb), (l, W.listOf vs.toArray c), (wx, instObj 235 wd), (wd, rttD w q1 q2 q3 q4 q5 q6 lat tla lea tle s8 t8 v4 t4 fst tfs), (pl, W.listOf #[.ref x0, .ref x1, .ref x2, .ref x3] cp), (x0, instObj 66 d0), (d0, pacerD w k10 k20 k30 k40 b0 tb0 l0 tl0 r0 tr0 s0 ts0), (x1, instObj 66 d1), (d1, pacerD w k11 k21 k31 k41 b1 tb1 l1 tl1 r1 tr1 s1 ts1), (x2, instObj 66 d2), (d2, pacerD w k12 k22 k32 k42 b2 tb2 l2 tl2 r2 tr2 s2 ts2), (x3, instObj 66 d3), (d3, pacerD w k13 k23 k33 k43 b3 tb3 l3 tl3 r3 tr3 s3 ts3), (sx, instObj 171 sd), (sd, renoD w g1 g2 g3 g4 g5 g6 gt win twi thr rec fl tfl cr tcr), (fx, instObj 171 fd), (fd, renoD w f1 f2 f3 f4 f5 f6 ft fwin tfw .none .none ffl tff fcr tfc), (I, oI)]) (hch : @LT.lt Nat instLTNat l b ∧ @LT.lt Nat instLTNat b wd ∧ @LT.lt Nat instLTNat wd wx ∧ @LT.lt Nat instLTNat wx d0 ∧ @LT.lt Nat instLTNat d0 x0 ∧ @LT.lt Nat instLTNat x0 d1 ∧ @LT.lt Nat instLTNat d1 x1 ∧ @LT.lt Nat instLTNat x1 d2 ∧ @LT.lt Nat instLTNat d2 x2 ∧ @LT.lt Nat instLTNat x2 d3 ∧ @LT.lt Nat instLTNat d3 x3 ∧ @LT.lt Nat instLTNat x3 pl ∧ @LT.lt Nat instLTNat pl sd ∧ @LT.lt Nat instLTNat sd sx ∧ @LT.lt Nat instLTNat sx fd ∧ @LT.lt Nat instLTNat fd fx ∧ @LT.lt Nat instLTNat fx I) (hi : IntsAre vs ns) (hlen : ns.length ≤ 48) (hdp : dp + 12 < recursionLimit) (hun : un + 100 < cLine)
    (hE : PassesOwn (model PySem.Challenge.rw_sj0111_01.row.toRowW.prog w) (ktrTop dp un gd (Str.ofString "law") lawScope L fa ccd [] outer) (envOf (Str.ofString "law") lawScope L fa ccd) E)(hk0 : 0 ≤ kx ∧ kx ≤ 10000) (h8 : 8 ≤ s8 ∧ s8 ≤ 7207)
    (ret : ∀ (kx3 lat3 lea3 s83 v43 : Int) (tkx3 tla3 tle3 t83 t43 : Tok) (nb3 : Nat) u' h' tk', kx ≤ kx3 → kx3 ≤ kx + 1 → 8 ≤ s83 ∧ s83 ≤ 7207 →
      Fr h₀ L h' (kstB u' [(Str.ofString "box", .ref b), (Str.ofString "way", .ref wx), (Str.ofString "now", .int now tnow), (Str.ofString "burst", .int burst tbu), (Str.ofString "more", .int more tmo), (Str.ofString "pacers", .ref pl), (Str.ofString "slow", .ref sx), (Str.ofString "fast", .ref fx), (Str.ofString "is_alike", .bool alike), (Str.ofString "form", .int form tfo), (Str.ofString "size", .int size tsz)]) → News h₀ L h' [(b, boxO l kx3 tkx3 nb3), (l, W.listOf vs.toArray c), (wx, instObj 235 wd), (wd, rttD w q1 q2 q3 q4 q5 q6 lat3 tla3 lea3 tle3 s83 t83 v43 t43 fst tfs), (pl, W.listOf #[.ref x0, .ref x1, .ref x2, .ref x3] cp), (x0, instObj 66 d0), (d0, pacerD w k10 k20 k30 k40 b0 tb0 l0 tl0 r0 tr0 s0 ts0), (x1, instObj 66 d1), (d1, pacerD w k11 k21 k31 k41 b1 tb1 l1 tl1 r1 tr1 s1 ts1), (x2, instObj 66 d2), (d2, pacerD w k12 k22 k32 k42 b2 tb2 l2 tl2 r2 tr2 s2 ts2), (x3, instObj 66 d3), (d3, pacerD w k13 k23 k33 k43 b3 tb3 l3 tl3 r3 tr3 s3 ts3), (sx, instObj 171 sd), (sd, renoD w g1 g2 g3 g4 g5 g6 gt win twi thr rec fl tfl cr tcr), (fx, instObj 171 fd), (fd, renoD w f1 f2 f3 f4 f5 f6 ft fwin tfw .none .none ffl tff fcr tfc), (I, oI)] → wpAny (model PySem.Challenge.rw_sj0111_01.row.toRowW.prog w) (ktrTop dp un gd (Str.ofString "law") lawScope L fa ccd [] outer) (execs ys (envOf (Str.ofString "law") lawScope L fa ccd)) Q E { s with heap := h', toks := tk' }) :
    wpAny (model PySem.Challenge.rw_sj0111_01.row.toRowW.prog w) (ktrTop dp un gd (Str.ofString "law") lawScope L fa ccd [] outer) (execs (takeS 1 (dropS 3 forBody) ++ ys) (envOf (Str.ofString "law") lawScope L fa ccd)) Q E s := by
  revert X; k_fill; intro X
  dsimp only [lawScope, forBody, lawBody, lawDef, PySem.Challenge.pw_sj0111_01, lastOf, bodyOf, takeS, dropS, headS, scopeOf, List.cons_append, List.nil_append] at *
  have hS : Asc l [b, wd, wx, d0, x0, d1, x1, d2, x2, d3, x3, pl, sd, sx, fd, fx, I] := hch
  repeat' (first | ((with_reducible show wpAny _ _ (call (Value.ref _) _) _ _ _); first | ((with_reducible show wpAny _ _ (call (Value.ref 218) _) _ _ _); k_here; k_dflt (refine' sample_c ?k1 ?k2 ?k3 ?k4 ?k5 ?kN ?ky ?kx ?kU ?kr ?ku ?_; (case k1 => k_asm); (case k2 => k_asm); (case k3 => k_asm); (case k4 => k_asm); (case k5 => first | exact rfl | assumption); (case kN => k_asm); (case ky => k_mem); (case kx => k_ne); (case kU => k_updF); (case kr => ktr_room); (case ku => ktr_units); k_whole); intro la' le' s8' v4' tl' te' t8' t4' h' tk' e' F' N'; (try dsimp only at N'); (try k_sweep)) | ((with_reducible show wpAny _ _ (call (Value.ref 246) _) _ _ _); k_here; k_dflt (refine' drawn_c ?k1 ?k2 ?k3 ?k4 ?k5 ?kN ?ky ?kx ?kU ?ki ?kl ?kk ?km ?kr ?ku ?_; (case k1 => k_asm); (case k2 => k_asm); (case k3 => k_asm); (case k4 => k_asm); (case k5 => first | exact rfl | assumption); (case kN => k_asm); (case kU => k_updF); (case ky => k_mem); (case kx => k_ne); (case ki => assumption); (case kl => assumption); (case kk => (constructor <;> omega)); (case km => (constructor <;> omega)); (case kr => ktr_room); (case ku => ktr_units); k_whole); intro r' t' t2' nb' h' tk' e1' e2' F' N'; (try dsimp only at N'); (try k_sweep))) | (k_unfold; (try dsimp only)) | (k_end; wrow_close) | walk1 | (dsimp only; walk1) | (leave1; try dsimp only) | fail "no step")
  all_goals (refine' ret _ _ _ _ _ _ _ _ _ _ _ _ _ _ ?e1 ?e2 ?e3 ?F ?N; (case F => refine' fr_kst ?FF ?FP; (case FF => k_asm); (case FP => repeat (first | exact List.forall_mem_nil _ | refine' List.forall_mem_cons.mpr ⟨by with_unfolding_all rfl, ?_⟩))); (case N => refine' kst_newsOf ?NN ?NS; (case NN => assumption); (case NS => k_allIn)); (case e3 => first | assumption | (subst_vars; exact s8_up h8 (by assumption) (by assumption))); (case e1 => omega); (case e2 => omega))
end
section
set_option maxHeartbeats 8000000 in
theorem g3 {w : World} {mean : ExcName → Option Value} {mg mb : Str → Option Value} {dp un : Nat} {gd : Option (List Code)} {fa : Addr} {ccd : Value} {outer : List Env} {A₀ : Around} {base h₀ : Heap} {L : Addr} {u : Str → Option Value} {s : Shared} {Q : Flow → Shared → Prop} {E : Value → Shared → Prop} {ys : List Stmt}
    {b l wx wd pl x0 x1 x2 x3 d0 d1 d2 d3 sx sd fx fd I : Addr} {oI : Obj} {nb c cp : Nat} {tkx q1 q2 q3 q4 q5 q6 tla tle t8 t4 tfs k10 k20 k30 k40 tb0 tl0 tr0 ts0 k11 k21 k31 k41 tb1 tl1 tr1 ts1 k12 k22 k32 k42 tb2 tl2 tr2 ts2 k13 k23 k33 k43 tb3 tl3 tr3 ts3 g1 g2 g3 g4 g5 g6 gt twi tfl tcr f1 f2 f3 f4 f5 f6 ft tfw tff tfc tnow tbu tmo tfo tsz : Tok} {kx lat lea s8 v4 fst b0 l0 r0 s0 b1 l1 r1 s1 b2 l2 r2 s2 b3 l3 r3 s3 win fl cr fwin ffl fcr now burst more form size : Int} {thr rec : Value} {alike : Bool} {vs : List Value} {ns : List Int}
    (B : Below A₀ base outer h₀) (F : Fr h₀ L s.heap (kstB u [(Str.ofString "box", .ref b), (Str.ofString "way", .ref wx), (Str.ofString "now", .int now tnow), (Str.ofString "burst", .int burst tbu), (Str.ofString "more", .int more tmo), (Str.ofString "pacers", .ref pl), (Str.ofString "slow", .ref sx), (Str.ofString "fast", .ref fx), (Str.ofString "is_alike", .bool alike), (Str.ofString "form", .int form tfo), (Str.ofString "size", .int size tsz)])) (X : (Mine.hd.heap_39 w.params).In h₀) (T : Top Mine.hd.view_39 (looseW Mine.hd.view_39 []) mean mg mb h₀)
    (N : News h₀ L s.heap [(b, boxO l kx tkx nb), (l, W.listOf vs.toArray c), (wx, instObj 235 wd), (wd, rttD w q1 q2 q3 q4 q5 q6 lat tla lea tle s8 t8 v4 t4 fst tfs), (pl, W.listOf #[.ref x0, .ref x1, .ref x2, .ref x3] cp), (x0, instObj 66 d0), (d0, pacerD w k10 k20 k30 k40 b0 tb0 l0 tl0 r0 tr0 s0 ts0), (x1, instObj 66 d1), (d1, pacerD w k11 k21 k31 k41 b1 tb1 l1 tl1 r1 tr1 s1 ts1), (x2, instObj 66 d2), (d2, pacerD w k12 k22 k32 k42 b2 tb2 l2 tl2 r2 tr2 s2 ts2), (x3, instObj 66 d3), (d3, pacerD w k13 k23 k33 k43 b3 tb3 l3 tl3 r3 tr3 s3 ts3), (sx, instObj 171 sd), (sd, renoD w g1 g2 g3 g4 g5 g6 gt win twi thr rec fl tfl cr tcr), (fx, instObj 171 fd), (fd, renoD w f1 f2 f3 f4 f5 f6 ft fwin tfw .none .none ffl tff fcr tfc), (I, oI)]) (hch : @LT.lt Nat instLTNat l b ∧ @LT.lt Nat instLTNat b wd ∧ @LT.lt Nat instLTNat wd wx ∧ @LT.lt Nat instLTNat wx d0 ∧ @LT.lt Nat instLTNat d0 x0 ∧ @LT.lt Nat instLTNat x0 d1 ∧ @LT.lt Nat instLTNat d1 x1 ∧ @LT.lt Nat instLTNat x1 d2 ∧ @LT.lt Nat instLTNat d2 x2 ∧ @LT.lt Nat instLTNat x2 d3 ∧ @LT.lt Nat instLTNat d3 x3 ∧ @LT.lt Nat instLTNat x3 pl ∧ @LT.lt Nat instLTNat pl sd ∧ @LT.lt Nat instLTNat sd sx ∧ @LT.lt Nat instLTNat sx fd ∧ @LT.lt Nat instLTNat fd fx ∧ @LT.lt Nat instLTNat fx I) (hi : IntsAre vs ns) (hlen : ns.length ≤ 48) (hdp : dp + 12 < recursionLimit) (hun : un + 100 < cLine)
    (hE : PassesOwn (model PySem.Challenge.rw_sj0111_01.row.toRowW.prog w) (ktrTop dp un gd (Str.ofString "law") lawScope L fa ccd [] outer) (envOf (Str.ofString "law") lawScope L fa ccd) E)(hwi : 24 ≤ win ∧ win ≤ 1000000) (hcr : 0 ≤ cr ∧ cr < win) (hth : NoneOrInt thr) (hrc : NoneOrInt rec)
    (ret : ∀ (win3 cr3 : Int) (thr3 rec3 : Value) (twi3 tcr3 : Tok) u' h' tk', 24 ≤ win3 ∧ win3 ≤ win → 0 ≤ cr3 ∧ cr3 < win3 → NoneOrInt thr3 → NoneOrInt rec3 →
      Fr h₀ L h' (kstB u' [(Str.ofString "box", .ref b), (Str.ofString "way", .ref wx), (Str.ofString "now", .int now tnow), (Str.ofString "burst", .int burst tbu), (Str.ofString "more", .int more tmo), (Str.ofString "pacers", .ref pl), (Str.ofString "slow", .ref sx), (Str.ofString "fast", .ref fx), (Str.ofString "is_alike", .bool alike), (Str.ofString "form", .int form tfo), (Str.ofString "size", .int size tsz)]) → News h₀ L h' [(b, boxO l kx tkx nb), (l, W.listOf vs.toArray c), (wx, instObj 235 wd), (wd, rttD w q1 q2 q3 q4 q5 q6 lat tla lea tle s8 t8 v4 t4 fst tfs), (pl, W.listOf #[.ref x0, .ref x1, .ref x2, .ref x3] cp), (x0, instObj 66 d0), (d0, pacerD w k10 k20 k30 k40 b0 tb0 l0 tl0 r0 tr0 s0 ts0), (x1, instObj 66 d1), (d1, pacerD w k11 k21 k31 k41 b1 tb1 l1 tl1 r1 tr1 s1 ts1), (x2, instObj 66 d2), (d2, pacerD w k12 k22 k32 k42 b2 tb2 l2 tl2 r2 tr2 s2 ts2), (x3, instObj 66 d3), (d3, pacerD w k13 k23 k33 k43 b3 tb3 l3 tl3 r3 tr3 s3 ts3), (sx, instObj 171 sd), (sd, renoD w g1 g2 g3 g4 g5 g6 gt win3 twi3 thr3 rec3 fl tfl cr3 tcr3), (fx, instObj 171 fd), (fd, renoD w f1 f2 f3 f4 f5 f6 ft fwin tfw .none .none ffl tff fcr tfc), (I, oI)] → wpAny (model PySem.Challenge.rw_sj0111_01.row.toRowW.prog w) (ktrTop dp un gd (Str.ofString "law") lawScope L fa ccd [] outer) (execs ys (envOf (Str.ofString "law") lawScope L fa ccd)) Q E { s with heap := h', toks := tk' }) :
    wpAny (model PySem.Challenge.rw_sj0111_01.row.toRowW.prog w) (ktrTop dp un gd (Str.ofString "law") lawScope L fa ccd [] outer) (execs (takeS 1 (dropS 4 forBody) ++ ys) (envOf (Str.ofString "law") lawScope L fa ccd)) Q E s := by
  revert X; k_fill; intro X
  dsimp only [lawScope, forBody, lawBody, lawDef, PySem.Challenge.pw_sj0111_01, lastOf, bodyOf, takeS, dropS, headS, scopeOf, List.cons_append, List.nil_append] at *
  have hS : Asc l [b, wd, wx, d0, x0, d1, x1, d2, x2, d3, x3, pl, sd, sx, fd, fx, I] := hch
  repeat' (first | ((with_reducible show wpAny _ _ (call (Value.ref _) _) _ _ _); first | ((with_reducible show wpAny _ _ (call (Value.ref 154) _) _ _ _); k_here; k_dflt (refine' cong_c ?k1 ?k2 ?k3 ?k4 ?k5 ?kN ?ky ?kx ?kU ?kt ?kq ?kw ?kc ?kr ?_; (case k1 => k_asm); (case k2 => k_asm); (case k3 => k_asm); (case k4 => k_asm); (case k5 => first | exact rfl | assumption); (case kN => k_asm); (case ky => k_mem); (case kx => k_ne); (case kU => k_updF); (case kt => first | assumption | exact Or.inl rfl); (case kq => first | assumption | exact Or.inl rfl); (case kw => (constructor <;> omega)); (case kc => (constructor <;> omega)); (case kr => ktr_room); k_whole); intro wn' cr' th' rc' tw' tc' h' tk' e1' e2' e3' e4' F' N'; (try dsimp only at N'); (try k_sweep))) | (k_unfold; (try dsimp only)) | (k_end; wrow_close) | walk1 | (dsimp only; walk1) | (leave1; try dsimp only) | fail "no step")
  all_goals (refine' ret _ _ _ _ _ _ _ _ _ ?e1 ?e2 ?e3 ?e4 ?F ?N; (case F => refine' fr_kst ?FF ?FP; (case FF => k_asm); (case FP => repeat (first | exact List.forall_mem_nil _ | refine' List.forall_mem_cons.mpr ⟨by with_unfolding_all rfl, ?_⟩))); (case N => refine' kst_newsOf ?NN ?NS; (case NN => assumption); (case NS => k_allIn)); (case e1 => first | assumption | omega); (case e2 => first | assumption | omega); (case e3 => assumption); (case e4 => assumption))
end
section
set_option maxHeartbeats 8000000 in
theorem g4 {w : World} {mean : ExcName → Option Value} {mg mb : Str → Option Value} {dp un : Nat} {gd : Option (List Code)} {fa : Addr} {ccd : Value} {outer : List Env} {A₀ : Around} {base h₀ : Heap} {L : Addr} {u : Str → Option Value} {s : Shared} {Q : Flow → Shared → Prop} {E : Value → Shared → Prop} {ys : List Stmt}
    {b l wx wd pl x0 x1 x2 x3 d0 d1 d2 d3 sx sd fx fd I : Addr} {oI : Obj} {nb c cp : Nat} {tkx q1 q2 q3 q4 q5 q6 tla tle t8 t4 tfs k10 k20 k30 k40 tb0 tl0 tr0 ts0 k11 k21 k31 k41 tb1 tl1 tr1 ts1 k12 k22 k32 k42 tb2 tl2 tr2 ts2 k13 k23 k33 k43 tb3 tl3 tr3 ts3 g1 g2 g3 g4 g5 g6 gt twi tfl tcr f1 f2 f3 f4 f5 f6 ft tfw tff tfc tnow tbu tmo tfo tsz : Tok} {kx lat lea s8 v4 fst b0 l0 r0 s0 b1 l1 r1 s1 b2 l2 r2 s2 b3 l3 r3 s3 win fl cr fwin ffl fcr now burst more form size : Int} {thr rec : Value} {alike : Bool} {vs : List Value} {ns : List Int}
    (B : Below A₀ base outer h₀) (F : Fr h₀ L s.heap (kstB u [(Str.ofString "box", .ref b), (Str.ofString "way", .ref wx), (Str.ofString "now", .int now tnow), (Str.ofString "burst", .int burst tbu), (Str.ofString "more", .int more tmo), (Str.ofString "pacers", .ref pl), (Str.ofString "slow", .ref sx), (Str.ofString "fast", .ref fx), (Str.ofString "is_alike", .bool alike), (Str.ofString "form", .int form tfo), (Str.ofString "size", .int size tsz)])) (X : (Mine.hd.heap_39 w.params).In h₀) (T : Top Mine.hd.view_39 (looseW Mine.hd.view_39 []) mean mg mb h₀)
    (N : News h₀ L s.heap [(b, boxO l kx tkx nb), (l, W.listOf vs.toArray c), (wx, instObj 235 wd), (wd, rttD w q1 q2 q3 q4 q5 q6 lat tla lea tle s8 t8 v4 t4 fst tfs), (pl, W.listOf #[.ref x0, .ref x1, .ref x2, .ref x3] cp), (x0, instObj 66 d0), (d0, pacerD w k10 k20 k30 k40 b0 tb0 l0 tl0 r0 tr0 s0 ts0), (x1, instObj 66 d1), (d1, pacerD w k11 k21 k31 k41 b1 tb1 l1 tl1 r1 tr1 s1 ts1), (x2, instObj 66 d2), (d2, pacerD w k12 k22 k32 k42 b2 tb2 l2 tl2 r2 tr2 s2 ts2), (x3, instObj 66 d3), (d3, pacerD w k13 k23 k33 k43 b3 tb3 l3 tl3 r3 tr3 s3 ts3), (sx, instObj 171 sd), (sd, renoD w g1 g2 g3 g4 g5 g6 gt win twi thr rec fl tfl cr tcr), (fx, instObj 171 fd), (fd, renoD w f1 f2 f3 f4 f5 f6 ft fwin tfw .none .none ffl tff fcr tfc), (I, oI)]) (hch : @LT.lt Nat instLTNat l b ∧ @LT.lt Nat instLTNat b wd ∧ @LT.lt Nat instLTNat wd wx ∧ @LT.lt Nat instLTNat wx d0 ∧ @LT.lt Nat instLTNat d0 x0 ∧ @LT.lt Nat instLTNat x0 d1 ∧ @LT.lt Nat instLTNat d1 x1 ∧ @LT.lt Nat instLTNat x1 d2 ∧ @LT.lt Nat instLTNat d2 x2 ∧ @LT.lt Nat instLTNat x2 d3 ∧ @LT.lt Nat instLTNat d3 x3 ∧ @LT.lt Nat instLTNat x3 pl ∧ @LT.lt Nat instLTNat pl sd ∧ @LT.lt Nat instLTNat sd sx ∧ @LT.lt Nat instLTNat sx fd ∧ @LT.lt Nat instLTNat fd fx ∧ @LT.lt Nat instLTNat fx I) (hi : IntsAre vs ns) (hlen : ns.length ≤ 48) (hdp : dp + 12 < recursionLimit) (hun : un + 100 < cLine)
    (hE : PassesOwn (model PySem.Challenge.rw_sj0111_01.row.toRowW.prog w) (ktrTop dp un gd (Str.ofString "law") lawScope L fa ccd [] outer) (envOf (Str.ofString "law") lawScope L fa ccd) E)(hwi : 24 ≤ win ∧ win ≤ 900000) (hcr : 0 ≤ cr ∧ cr < win) (hth : NoneOrInt thr) (hrc : NoneOrInt rec) (hfw : win ≤ fwin ∧ fwin ≤ 900000) (hfc : 0 ≤ fcr ∧ fcr < fwin) (hsi : 1 ≤ size ∧ size ≤ 1299)
    (ret : ∀ (win3 fl3 cr3 fwin3 ffl3 fcr3 : Int) (twi3 tfl3 tcr3 tfw3 tff3 tfc3 : Tok) u' h' tk', win ≤ win3 ∧ win3 ≤ fwin3 → fwin3 ≤ fwin + 1299 → 0 ≤ cr3 ∧ cr3 < win3 → 0 ≤ fcr3 ∧ fcr3 < fwin3 →
      Fr h₀ L h' (kstB u' [(Str.ofString "box", .ref b), (Str.ofString "way", .ref wx), (Str.ofString "now", .int now tnow), (Str.ofString "burst", .int burst tbu), (Str.ofString "more", .int more tmo), (Str.ofString "pacers", .ref pl), (Str.ofString "slow", .ref sx), (Str.ofString "fast", .ref fx), (Str.ofString "is_alike", .bool alike), (Str.ofString "form", .int form tfo), (Str.ofString "size", .int size tsz)]) → News h₀ L h' [(b, boxO l kx tkx nb), (l, W.listOf vs.toArray c), (wx, instObj 235 wd), (wd, rttD w q1 q2 q3 q4 q5 q6 lat tla lea tle s8 t8 v4 t4 fst tfs), (pl, W.listOf #[.ref x0, .ref x1, .ref x2, .ref x3] cp), (x0, instObj 66 d0), (d0, pacerD w k10 k20 k30 k40 b0 tb0 l0 tl0 r0 tr0 s0 ts0), (x1, instObj 66 d1), (d1, pacerD w k11 k21 k31 k41 b1 tb1 l1 tl1 r1 tr1 s1 ts1), (x2, instObj 66 d2), (d2, pacerD w k12 k22 k32 k42 b2 tb2 l2 tl2 r2 tr2 s2 ts2), (x3, instObj 66 d3), (d3, pacerD w k13 k23 k33 k43 b3 tb3 l3 tl3 r3 tr3 s3 ts3), (sx, instObj 171 sd), (sd, renoD w g1 g2 g3 g4 g5 g6 gt win3 twi3 thr rec fl3 tfl3 cr3 tcr3), (fx, instObj 171 fd), (fd, renoD w f1 f2 f3 f4 f5 f6 ft fwin3 tfw3 .none .none ffl3 tff3 fcr3 tfc3), (I, oI)] → wpAny (model PySem.Challenge.rw_sj0111_01.row.toRowW.prog w) (ktrTop dp un gd (Str.ofString "law") lawScope L fa ccd [] outer) (execs ys (envOf (Str.ofString "law") lawScope L fa ccd)) Q E { s with heap := h', toks := tk' }) :
    wpAny (model PySem.Challenge.rw_sj0111_01.row.toRowW.prog w) (ktrTop dp un gd (Str.ofString "law") lawScope L fa ccd [] outer) (execs (takeS 1 (dropS 5 forBody) ++ ys) (envOf (Str.ofString "law") lawScope L fa ccd)) Q E s := by
  revert X; k_fill; intro X
  dsimp only [lawScope, forBody, lawBody, lawDef, PySem.Challenge.pw_sj0111_01, lastOf, bodyOf, takeS, dropS, headS, scopeOf, List.cons_append, List.nil_append] at *
  have hS : Asc l [b, wd, wx, d0, x0, d1, x1, d2, x2, d3, x3, pl, sd, sx, fd, fx, I] := hch
  repeat' (first | ((with_reducible show wpAny _ _ (call (Value.ref _) _) _ _ _); first | ((with_reducible show wpAny _ _ (call (Value.ref 204) _) _ _ _); k_here; k_dflt (refine' smoothed_c ?k1 ?k2 ?k3 ?k4 ?k5 ?kN ?ky ?kd ?kr ?ku ?_; (case k1 => k_asm); (case k2 => k_asm); (case k3 => k_asm); (case k4 => k_asm); (case k5 => first | exact rfl | assumption); (case kN => k_asm); (case ky => k_mem); (case kd => k_mem); (case kr => ktr_room); (case ku => ktr_units); k_whole); intro v' t' h' tk' e' F' N'; (try k_sweep)) | ((with_reducible show wpAny _ _ (call (Value.ref 140) _) _ _ _); k_here; k_dflt (refine' acked_c ?k1 ?k2 ?k3 ?k4 ?k5 ?kN ?ky ?kx ?kU ?kt ?kq ?kw ?kc ?kz ?kr ?_; (case k1 => k_asm); (case k2 => k_asm); (case k3 => k_asm); (case k4 => k_asm); (case k5 => first | exact rfl | assumption); (case kN => k_asm); (case ky => k_mem); (case kx => k_ne); (case kU => k_updF); (case kt => first | assumption | exact Or.inl rfl); (case kq => first | assumption | exact Or.inl rfl); (case kw => (constructor <;> omega)); (case kc => (constructor <;> omega)); (case kz => (constructor <;> omega)); (case kr => ktr_room); k_whole); intro wn' cr' tw' tf' tc' h' tk' e1' e2' e3' F' N'; (try have e4' := e3' rfl rfl); (try dsimp only at N'); (try k_sweep)) | ((with_reducible show wpAny _ _ (call (Value.ref 126) _) _ _ _); k_here; k_dflt (refine' rsent_c ?k1 ?k2 ?k3 ?k4 ?k5 ?kN ?ky ?kx ?kU ?kr ?_; (case k1 => k_asm); (case k2 => k_asm); (case k3 => k_asm); (case k4 => k_asm); (case k5 => first | exact rfl | assumption); (case kN => k_asm); (case ky => k_mem); (case kx => k_ne); (case kU => k_updF); (case kr => ktr_room); k_whole); intro tf' h' tk' F' N'; (try dsimp only at N'); (try k_sweep))) | ((with_reducible show wpAny _ _ (exec (Stmt.For _ _ _ _ _) _) _ _ _); (k_here; (rename Fr _ _ _ _ => lF'); (with_unfolding_all refine' For_turns lF' ?_); k_whole)) | (k_unfold; (try dsimp only)) | (k_end; wrow_close) | walk1 | (dsimp only; walk1) | (leave1; try dsimp only) | fail "no step")
  all_goals (try dsimp only)
  all_goals (refine' ret _ _ _ _ _ _ _ _ _ _ _ _ _ _ _ ?e1 ?e2 ?e3 ?e4 ?F ?N; (case F => refine' fr_kst ?FF ?FP; (case FF => k_asm); (case FP => repeat (first | exact List.forall_mem_nil _ | refine' List.forall_mem_cons.mpr ⟨by with_unfolding_all rfl, ?_⟩))); (case N => refine' kst_newsOf ?NN ?NS; (case NN => assumption); (case NS => k_allIn)); (case e1 => (constructor <;> omega)); (case e2 => omega); (case e3 => (constructor <;> omega)); (case e4 => (constructor <;> omega)))
end
section
set_option maxHeartbeats 8000000 in
theorem g5 {w : World} {mean : ExcName → Option Value} {mg mb : Str → Option Value} {dp un : Nat} {gd : Option (List Code)} {fa : Addr} {ccd : Value} {outer : List Env} {A₀ : Around} {base h₀ : Heap} {L : Addr} {u : Str → Option Value} {s : Shared} {Q : Flow → Shared → Prop} {E : Value → Shared → Prop} {ys : List Stmt}
    {b l wx wd pl x0 x1 x2 x3 d0 d1 d2 d3 sx sd fx fd I : Addr} {oI : Obj} {nb c cp : Nat} {tkx q1 q2 q3 q4 q5 q6 tla tle t8 t4 tfs k10 k20 k30 k40 tb0 tl0 tr0 ts0 k11 k21 k31 k41 tb1 tl1 tr1 ts1 k12 k22 k32 k42 tb2 tl2 tr2 ts2 k13 k23 k33 k43 tb3 tl3 tr3 ts3 g1 g2 g3 g4 g5 g6 gt twi tfl tcr f1 f2 f3 f4 f5 f6 ft tfw tff tfc tnow tbu tmo tfo tsz : Tok} {kx lat lea s8 v4 fst b0 l0 r0 s0 b1 l1 r1 s1 b2 l2 r2 s2 b3 l3 r3 s3 win fl cr fwin ffl fcr now burst more form size : Int} {thr rec : Value} {alike : Bool} {vs : List Value} {ns : List Int}
    (B : Below A₀ base outer h₀) (F : Fr h₀ L s.heap (kstB u [(Str.ofString "box", .ref b), (Str.ofString "way", .ref wx), (Str.ofString "now", .int now tnow), (Str.ofString "burst", .int burst tbu), (Str.ofString "more", .int more tmo), (Str.ofString "pacers", .ref pl), (Str.ofString "slow", .ref sx), (Str.ofString "fast", .ref fx), (Str.ofString "is_alike", .bool alike), (Str.ofString "form", .int form tfo), (Str.ofString "size", .int size tsz)])) (X : (Mine.hd.heap_39 w.params).In h₀) (T : Top Mine.hd.view_39 (looseW Mine.hd.view_39 []) mean mg mb h₀)
    (N : News h₀ L s.heap [(b, boxO l kx tkx nb), (l, W.listOf vs.toArray c), (wx, instObj 235 wd), (wd, rttD w q1 q2 q3 q4 q5 q6 lat tla lea tle s8 t8 v4 t4 fst tfs), (pl, W.listOf #[.ref x0, .ref x1, .ref x2, .ref x3] cp), (x0, instObj 66 d0), (d0, pacerD w k10 k20 k30 k40 b0 tb0 l0 tl0 r0 tr0 s0 ts0), (x1, instObj 66 d1), (d1, pacerD w k11 k21 k31 k41 b1 tb1 l1 tl1 r1 tr1 s1 ts1), (x2, instObj 66 d2), (d2, pacerD w k12 k22 k32 k42 b2 tb2 l2 tl2 r2 tr2 s2 ts2), (x3, instObj 66 d3), (d3, pacerD w k13 k23 k33 k43 b3 tb3 l3 tl3 r3 tr3 s3 ts3), (sx, instObj 171 sd), (sd, renoD w g1 g2 g3 g4 g5 g6 gt win twi thr rec fl tfl cr tcr), (fx, instObj 171 fd), (fd, renoD w f1 f2 f3 f4 f5 f6 ft fwin tfw .none .none ffl tff fcr tfc), (I, oI)]) (hch : @LT.lt Nat instLTNat l b ∧ @LT.lt Nat instLTNat b wd ∧ @LT.lt Nat instLTNat wd wx ∧ @LT.lt Nat instLTNat wx d0 ∧ @LT.lt Nat instLTNat d0 x0 ∧ @LT.lt Nat instLTNat x0 d1 ∧ @LT.lt Nat instLTNat d1 x1 ∧ @LT.lt Nat instLTNat x1 d2 ∧ @LT.lt Nat instLTNat d2 x2 ∧ @LT.lt Nat instLTNat x2 d3 ∧ @LT.lt Nat instLTNat d3 x3 ∧ @LT.lt Nat instLTNat x3 pl ∧ @LT.lt Nat instLTNat pl sd ∧ @LT.lt Nat instLTNat sd sx ∧ @LT.lt Nat instLTNat sx fd ∧ @LT.lt Nat instLTNat fd fx ∧ @LT.lt Nat instLTNat fx I) (hi : IntsAre vs ns) (hlen : ns.length ≤ 48) (hdp : dp + 12 < recursionLimit) (hun : un + 100 < cLine)
    (hE : PassesOwn (model PySem.Challenge.rw_sj0111_01.row.toRowW.prog w) (ktrTop dp un gd (Str.ofString "law") lawScope L fa ccd [] outer) (envOf (Str.ofString "law") lawScope L fa ccd) E)(hwi : 24 ≤ win ∧ win ≤ 900000) (hfw : win ≤ fwin ∧ fwin ≤ 900000) (h8 : 8 ≤ s8 ∧ s8 ≤ 7207)
    (ret : ∀ (l03 l13 l23 l33 r03 r13 r23 r33 : Int) (wl : Addr) (cw : Nat) (tw0 tw1 tw2 tw3 tl03 tl13 tl23 tl33 tr03 tr13 tr23 tr33 ts03 ts13 ts23 ts33 : Tok) u' h' tk', l03 = earnL b0 l0 r0 win (s8.fdiv 8) (now - s0) → r03 = earnR b0 l0 r0 win (s8.fdiv 8) (now - s0) → l13 = earnL b1 l1 r1 win (s8.fdiv 8) (now - s1) → r13 = earnR b1 l1 r1 win (s8.fdiv 8) (now - s1) → l23 = earnL b2 l2 r2 win (s8.fdiv 8) (now - s2) → r23 = earnR b2 l2 r2 win (s8.fdiv 8) (now - s2) → l33 = earnL b3 l3 r3 fwin (s8.fdiv 8) (now - s3) → r33 = earnR b3 l3 r3 fwin (s8.fdiv 8) (now - s3) → @LT.lt Nat instLTNat I wl →
      Fr h₀ L h' (kstB u' [(Str.ofString "box", .ref b), (Str.ofString "way", .ref wx), (Str.ofString "now", .int now tnow), (Str.ofString "burst", .int burst tbu), (Str.ofString "more", .int more tmo), (Str.ofString "pacers", .ref pl), (Str.ofString "slow", .ref sx), (Str.ofString "fast", .ref fx), (Str.ofString "is_alike", .bool alike), (Str.ofString "form", .int form tfo), (Str.ofString "size", .int size tsz), (Str.ofString "windows", .ref wl)]) → News h₀ L h' [(wl, W.listOf #[.int win tw0, .int win tw1, .int win tw2, .int fwin tw3] cw), (b, boxO l kx tkx nb), (l, W.listOf vs.toArray c), (wx, instObj 235 wd), (wd, rttD w q1 q2 q3 q4 q5 q6 lat tla lea tle s8 t8 v4 t4 fst tfs), (pl, W.listOf #[.ref x0, .ref x1, .ref x2, .ref x3] cp), (x0, instObj 66 d0), (d0, pacerD w k10 k20 k30 k40 b0 tb0 l03 tl03 r03 tr03 now ts03), (x1, instObj 66 d1), (d1, pacerD w k11 k21 k31 k41 b1 tb1 l13 tl13 r13 tr13 now ts13), (x2, instObj 66 d2), (d2, pacerD w k12 k22 k32 k42 b2 tb2 l23 tl23 r23 tr23 now ts23), (x3, instObj 66 d3), (d3, pacerD w k13 k23 k33 k43 b3 tb3 l33 tl33 r33 tr33 now ts33), (sx, instObj 171 sd), (sd, renoD w g1 g2 g3 g4 g5 g6 gt win twi thr rec fl tfl cr tcr), (fx, instObj 171 fd), (fd, renoD w f1 f2 f3 f4 f5 f6 ft fwin tfw .none .none ffl tff fcr tfc), (I, oI)] → wpAny (model PySem.Challenge.rw_sj0111_01.row.toRowW.prog w) (ktrTop dp un gd (Str.ofString "law") lawScope L fa ccd [] outer) (execs ys (envOf (Str.ofString "law") lawScope L fa ccd)) Q E { s with heap := h', toks := tk' }) :
    wpAny (model PySem.Challenge.rw_sj0111_01.row.toRowW.prog w) (ktrTop dp un gd (Str.ofString "law") lawScope L fa ccd [] outer) (execs (takeS 2 (dropS 6 forBody) ++ ys) (envOf (Str.ofString "law") lawScope L fa ccd)) Q E s := by
  revert X; k_fill; intro X
  dsimp only [lawScope, forBody, lawBody, lawDef, PySem.Challenge.pw_sj0111_01, lastOf, bodyOf, takeS, dropS, headS, scopeOf, List.cons_append, List.nil_append] at *
  have hS : Asc l [b, wd, wx, d0, x0, d1, x1, d2, x2, d3, x3, pl, sd, sx, fd, fx, I] := hch
  have hsm : 0 ≤ s8.fdiv 8 ∧ s8.fdiv 8 ≤ 1000 := by
    rw [Int.fdiv_eq_ediv_of_nonneg _ (by decide)]
    omega
  repeat' (first | ((with_reducible show wpAny _ _ (call (Value.ref _) _) _ _ _); first | ((with_reducible show wpAny _ _ (call (Value.ref 204) _) _ _ _); k_here; k_dflt (refine' smoothed_c ?k1 ?k2 ?k3 ?k4 ?k5 ?kN ?ky ?kd ?kr ?ku ?_; (case k1 => k_asm); (case k2 => k_asm); (case k3 => k_asm); (case k4 => k_asm); (case k5 => first | exact rfl | assumption); (case kN => k_asm); (case ky => k_mem); (case kd => k_mem); (case kr => ktr_room); (case ku => ktr_units); k_whole); intro v' t' h' tk' e' F' N'; (try k_sweep)) | ((with_reducible show wpAny _ _ (call (Value.ref 42) _) _ _ _); k_here; k_dflt (refine' earn_c ?k1 ?k2 ?k3 ?k4 ?k5 ?kN ?ky ?kx ?kU ?kw ?ks ?kr ?ku ?_; (case k1 => k_asm); (case k2 => k_asm); (case k3 => k_asm); (case k4 => k_asm); (case k5 => first | exact rfl | assumption); (case kN => k_asm); (case ky => k_mem); (case kx => k_ne); (case kU => k_updF); (case kw => (constructor <;> omega)); (case ks => (constructor <;> omega)); (case kr => ktr_room); (case ku => ktr_units); k_whole); intro l' r' tl' tr' ts' h' tk' e1' e2' F' N'; (try dsimp only at N'); (try k_sweep))) | ((with_reducible show wpAny _ _ (subscriptTail _ _ (Value.ref _) (Value.int _ _)) _ _ _); k_here; (with_unfolding_all refine' item_litK ?k1 ?k2 ?k3 ?k4 ?_ ?k6; (case k1 => is_list); (case k2 => decide); (case k3 => decide); (case k4 => rfl); (case k6 => with_unfolding_all rfl); k_whole)) | (k_unfold; (try dsimp only)) | (k_end; wrow_close) | walk1 | (dsimp only; walk1) | (leave1; try dsimp only) | fail "no step")
  all_goals (try dsimp only)
  refine' ret _ _ _ _ _ _ _ _ _ _ _ _ _ _ _ _ _ _ _ _ _ _ _ _ _ _ _ _ _ ?e0 ?f0 ?e1 ?f1 ?e2 ?f2 ?e3 ?f3 ?el ?F ?N
  (case F => refine' fr_kst ?FF ?FP; (case FF => k_asm); (case FP => repeat (first | exact List.forall_mem_nil _ | refine' List.forall_mem_cons.mpr ⟨by with_unfolding_all rfl, ?_⟩))); (case N => refine' kst_newsOf ?NN ?NS; (case NN => assumption); (case NS => k_allIn))
  (case el => exact fresh_lt (by assumption) (by k_mem))
  all_goals (subst_vars; rfl)
end
section
set_option maxHeartbeats 8000000 in
theorem g6 {w : World} {mean : ExcName → Option Value} {mg mb : Str → Option Value} {dp un : Nat} {gd : Option (List Code)} {fa : Addr} {ccd : Value} {outer : List Env} {A₀ : Around} {base h₀ : Heap} {L : Addr} {u : Str → Option Value} {s : Shared} {Q : Flow → Shared → Prop} {E : Value → Shared → Prop} {ys : List Stmt}
    {b l wx wd pl x0 x1 x2 x3 d0 d1 d2 d3 sx sd fx fd I wl : Addr} {oI : Obj} {nb c cp cw : Nat} {tkx q1 q2 q3 q4 q5 q6 tla tle t8 t4 tfs k10 k20 k30 k40 tb0 tl0 tr0 ts0 k11 k21 k31 k41 tb1 tl1 tr1 ts1 k12 k22 k32 k42 tb2 tl2 tr2 ts2 k13 k23 k33 k43 tb3 tl3 tr3 ts3 g1 g2 g3 g4 g5 g6 gt twi tfl tcr f1 f2 f3 f4 f5 f6 ft tfw tff tfc tnow tbu tmo tfo tsz tw0 tw1 tw2 tw3 : Tok} {kx lat lea s8 v4 fst b0 l0 r0 s0 b1 l1 r1 s1 b2 l2 r2 s2 b3 l3 r3 s3 win fl cr fwin ffl fcr now burst more form size : Int} {thr rec : Value} {alike : Bool} {vs : List Value} {ns : List Int}
    (B : Below A₀ base outer h₀) (F : Fr h₀ L s.heap (kstB u [(Str.ofString "box", .ref b), (Str.ofString "way", .ref wx), (Str.ofString "now", .int now tnow), (Str.ofString "burst", .int burst tbu), (Str.ofString "more", .int more tmo), (Str.ofString "pacers", .ref pl), (Str.ofString "slow", .ref sx), (Str.ofString "fast", .ref fx), (Str.ofString "is_alike", .bool alike), (Str.ofString "form", .int form tfo), (Str.ofString "size", .int size tsz), (Str.ofString "windows", .ref wl)])) (X : (Mine.hd.heap_39 w.params).In h₀) (T : Top Mine.hd.view_39 (looseW Mine.hd.view_39 []) mean mg mb h₀)
    (N : News h₀ L s.heap [(wl, W.listOf #[.int win tw0, .int win tw1, .int win tw2, .int fwin tw3] cw), (b, boxO l kx tkx nb), (l, W.listOf vs.toArray c), (wx, instObj 235 wd), (wd, rttD w q1 q2 q3 q4 q5 q6 lat tla lea tle s8 t8 v4 t4 fst tfs), (pl, W.listOf #[.ref x0, .ref x1, .ref x2, .ref x3] cp), (x0, instObj 66 d0), (d0, pacerD w k10 k20 k30 k40 b0 tb0 l0 tl0 r0 tr0 s0 ts0), (x1, instObj 66 d1), (d1, pacerD w k11 k21 k31 k41 b1 tb1 l1 tl1 r1 tr1 s1 ts1), (x2, instObj 66 d2), (d2, pacerD w k12 k22 k32 k42 b2 tb2 l2 tl2 r2 tr2 s2 ts2), (x3, instObj 66 d3), (d3, pacerD w k13 k23 k33 k43 b3 tb3 l3 tl3 r3 tr3 s3 ts3), (sx, instObj 171 sd), (sd, renoD w g1 g2 g3 g4 g5 g6 gt win twi thr rec fl tfl cr tcr), (fx, instObj 171 fd), (fd, renoD w f1 f2 f3 f4 f5 f6 ft fwin tfw .none .none ffl tff fcr tfc), (I, oI)]) (hch : @LT.lt Nat instLTNat l b ∧ @LT.lt Nat instLTNat b wd ∧ @LT.lt Nat instLTNat wd wx ∧ @LT.lt Nat instLTNat wx d0 ∧ @LT.lt Nat instLTNat d0 x0 ∧ @LT.lt Nat instLTNat x0 d1 ∧ @LT.lt Nat instLTNat d1 x1 ∧ @LT.lt Nat instLTNat x1 d2 ∧ @LT.lt Nat instLTNat d2 x2 ∧ @LT.lt Nat instLTNat x2 d3 ∧ @LT.lt Nat instLTNat d3 x3 ∧ @LT.lt Nat instLTNat x3 pl ∧ @LT.lt Nat instLTNat pl sd ∧ @LT.lt Nat instLTNat sd sx ∧ @LT.lt Nat instLTNat sx fd ∧ @LT.lt Nat instLTNat fd fx ∧ @LT.lt Nat instLTNat fx I) (hi : IntsAre vs ns) (hlen : ns.length ≤ 48) (hdp : dp + 12 < recursionLimit) (hun : un + 100 < cLine)
    (hwl : @LT.lt Nat instLTNat I wl) (hE : PassesOwn (model PySem.Challenge.rw_sj0111_01.row.toRowW.prog w) (ktrTop dp un gd (Str.ofString "law") lawScope L fa ccd [] outer) (envOf (Str.ofString "law") lawScope L fa ccd) E)
    (ret : ∀ (al3 : Bool) u' h' tk', (al3 = true → alike = true ∨ l0 = burst) → Fr h₀ L h' (kstB u' [(Str.ofString "box", .ref b), (Str.ofString "way", .ref wx), (Str.ofString "now", .int now tnow), (Str.ofString "burst", .int burst tbu), (Str.ofString "more", .int more tmo), (Str.ofString "pacers", .ref pl), (Str.ofString "slow", .ref sx), (Str.ofString "fast", .ref fx), (Str.ofString "is_alike", .bool al3), (Str.ofString "form", .int form tfo), (Str.ofString "size", .int size tsz), (Str.ofString "windows", .ref wl)]) → News h₀ L h' [(wl, W.listOf #[.int win tw0, .int win tw1, .int win tw2, .int fwin tw3] cw), (b, boxO l kx tkx nb), (l, W.listOf vs.toArray c), (wx, instObj 235 wd), (wd, rttD w q1 q2 q3 q4 q5 q6 lat tla lea tle s8 t8 v4 t4 fst tfs), (pl, W.listOf #[.ref x0, .ref x1, .ref x2, .ref x3] cp), (x0, instObj 66 d0), (d0, pacerD w k10 k20 k30 k40 b0 tb0 l0 tl0 r0 tr0 s0 ts0), (x1, instObj 66 d1), (d1, pacerD w k11 k21 k31 k41 b1 tb1 l1 tl1 r1 tr1 s1 ts1), (x2, instObj 66 d2), (d2, pacerD w k12 k22 k32 k42 b2 tb2 l2 tl2 r2 tr2 s2 ts2), (x3, instObj 66 d3), (d3, pacerD w k13 k23 k33 k43 b3 tb3 l3 tl3 r3 tr3 s3 ts3), (sx, instObj 171 sd), (sd, renoD w g1 g2 g3 g4 g5 g6 gt win twi thr rec fl tfl cr tcr), (fx, instObj 171 fd), (fd, renoD w f1 f2 f3 f4 f5 f6 ft fwin tfw .none .none ffl tff fcr tfc), (I, oI)] → wpAny (model PySem.Challenge.rw_sj0111_01.row.toRowW.prog w) (ktrTop dp un gd (Str.ofString "law") lawScope L fa ccd [] outer) (execs ys (envOf (Str.ofString "law") lawScope L fa ccd)) Q E { s with heap := h', toks := tk' }) :
    wpAny (model PySem.Challenge.rw_sj0111_01.row.toRowW.prog w) (ktrTop dp un gd (Str.ofString "law") lawScope L fa ccd [] outer) (execs (takeS 1 (dropS 8 forBody) ++ ys) (envOf (Str.ofString "law") lawScope L fa ccd)) Q E s := by
  revert X; k_fill; intro X
  dsimp only [lawScope, forBody, lawBody, lawDef, PySem.Challenge.pw_sj0111_01, lastOf, bodyOf, takeS, dropS, headS, scopeOf, List.cons_append, List.nil_append] at *
  have hS : Asc l [b, wd, wx, d0, x0, d1, x1, d2, x2, d3, x3, pl, sd, sx, fd, fx, I] := hch
  repeat' (first | ((with_reducible show wpAny _ _ (subscriptTail _ _ (Value.ref _) (Value.int _ _)) _ _ _); k_here; (with_unfolding_all refine' item_litK ?k1 ?k2 ?k3 ?k4 ?_ ?k6; (case k1 => is_list); (case k2 => decide); (case k3 => decide); (case k4 => rfl); (case k6 => with_unfolding_all rfl); k_whole)) | (k_unfold; (try dsimp only)) | (k_end; wrow_close) | walk1 | (dsimp only; walk1) | (leave1; try dsimp only) | fail "no step")
  all_goals (try dsimp only)
  all_goals (refine' ret _ _ _ _ ?e1 ?F ?N; (case F => refine' fr_kst ?FF ?FP; (case FF => k_asm); (case FP => repeat (first | exact List.forall_mem_nil _ | refine' List.forall_mem_cons.mpr ⟨by with_unfolding_all rfl, ?_⟩))); (case N => refine' kst_newsOf ?NN ?NS; (case NN => assumption); (case NS => k_allIn)); (case e1 => first | exact fun h => .inl h | exact fun h => .inr (of_decide_eq_true h) | exact fun h => .inr (by simpa using h) | (intro h; simp_all)))
end
section
set_option maxHeartbeats 8000000 in
theorem g7 {w : World} {mean : ExcName → Option Value} {mg mb : Str → Option Value} {dp un : Nat} {gd : Option (List Code)} {fa : Addr} {ccd : Value} {outer : List Env} {A₀ : Around} {base h₀ : Heap} {L : Addr} {u : Str → Option Value} {s : Shared} {Q : Flow → Shared → Prop} {E : Value → Shared → Prop} {ys : List Stmt}
    {b l wx wd pl x0 x1 x2 x3 d0 d1 d2 d3 sx sd fx fd I wl : Addr} {oI : Obj} {nb c cp cw : Nat} {tkx q1 q2 q3 q4 q5 q6 tla tle t8 t4 tfs k10 k20 k30 k40 tb0 tl0 tr0 ts0 k11 k21 k31 k41 tb1 tl1 tr1 ts1 k12 k22 k32 k42 tb2 tl2 tr2 ts2 k13 k23 k33 k43 tb3 tl3 tr3 ts3 g1 g2 g3 g4 g5 g6 gt twi tfl tcr f1 f2 f3 f4 f5 f6 ft tfw tff tfc tnow tbu tmo tfo tsz tw0 tw1 tw2 tw3 : Tok} {kx lat lea s8 v4 fst b0 l0 r0 s0 b1 l1 r1 s1 b2 l2 r2 s2 b3 l3 r3 s3 win fl cr fwin ffl fcr now burst more form size : Int} {thr rec : Value} {alike : Bool} {vs : List Value} {ns : List Int}
    (B : Below A₀ base outer h₀) (F : Fr h₀ L s.heap (kstB u [(Str.ofString "box", .ref b), (Str.ofString "way", .ref wx), (Str.ofString "now", .int now tnow), (Str.ofString "burst", .int burst tbu), (Str.ofString "more", .int more tmo), (Str.ofString "pacers", .ref pl), (Str.ofString "slow", .ref sx), (Str.ofString "fast", .ref fx), (Str.ofString "is_alike", .bool alike), (Str.ofString "form", .int form tfo), (Str.ofString "size", .int size tsz), (Str.ofString "windows", .ref wl)])) (X : (Mine.hd.heap_39 w.params).In h₀) (T : Top Mine.hd.view_39 (looseW Mine.hd.view_39 []) mean mg mb h₀)
    (N : News h₀ L s.heap [(wl, W.listOf #[.int win tw0, .int win tw1, .int win tw2, .int fwin tw3] cw), (b, boxO l kx tkx nb), (l, W.listOf vs.toArray c), (wx, instObj 235 wd), (wd, rttD w q1 q2 q3 q4 q5 q6 lat tla lea tle s8 t8 v4 t4 fst tfs), (pl, W.listOf #[.ref x0, .ref x1, .ref x2, .ref x3] cp), (x0, instObj 66 d0), (d0, pacerD w k10 k20 k30 k40 b0 tb0 l0 tl0 r0 tr0 s0 ts0), (x1, instObj 66 d1), (d1, pacerD w k11 k21 k31 k41 b1 tb1 l1 tl1 r1 tr1 s1 ts1), (x2, instObj 66 d2), (d2, pacerD w k12 k22 k32 k42 b2 tb2 l2 tl2 r2 tr2 s2 ts2), (x3, instObj 66 d3), (d3, pacerD w k13 k23 k33 k43 b3 tb3 l3 tl3 r3 tr3 s3 ts3), (sx, instObj 171 sd), (sd, renoD w g1 g2 g3 g4 g5 g6 gt win twi thr rec fl tfl cr tcr), (fx, instObj 171 fd), (fd, renoD w f1 f2 f3 f4 f5 f6 ft fwin tfw .none .none ffl tff fcr tfc), (I, oI)]) (hch : @LT.lt Nat instLTNat l b ∧ @LT.lt Nat instLTNat b wd ∧ @LT.lt Nat instLTNat wd wx ∧ @LT.lt Nat instLTNat wx d0 ∧ @LT.lt Nat instLTNat d0 x0 ∧ @LT.lt Nat instLTNat x0 d1 ∧ @LT.lt Nat instLTNat d1 x1 ∧ @LT.lt Nat instLTNat x1 d2 ∧ @LT.lt Nat instLTNat d2 x2 ∧ @LT.lt Nat instLTNat x2 d3 ∧ @LT.lt Nat instLTNat d3 x3 ∧ @LT.lt Nat instLTNat x3 pl ∧ @LT.lt Nat instLTNat pl sd ∧ @LT.lt Nat instLTNat sd sx ∧ @LT.lt Nat instLTNat sx fd ∧ @LT.lt Nat instLTNat fd fx ∧ @LT.lt Nat instLTNat fx I) (hi : IntsAre vs ns) (hlen : ns.length ≤ 48) (hdp : dp + 12 < recursionLimit) (hun : un + 100 < cLine)
    (hwl : @LT.lt Nat instLTNat I wl) (hE : PassesOwn (model PySem.Challenge.rw_sj0111_01.row.toRowW.prog w) (ktrTop dp un gd (Str.ofString "law") lawScope L fa ccd [] outer) (envOf (Str.ofString "law") lawScope L fa ccd) E)(hwi : 24 ≤ win ∧ win ≤ 900000) (hfw : win ≤ fwin ∧ fwin ≤ 900000) (hsm : 0 ≤ s8.fdiv 8 ∧ s8.fdiv 8 ≤ 1000)
    (h01 : Lex l0 r0 l1 r1) (h12 : Lex l1 r1 l2 r2) (h21 : Lex l2 r2 (l1 + more) r1) (h13 : Lex l1 r1 l3 r3) (h10 : Lex l1 r1 (l0 + more) r0)
    (w10 : waitV l1 r1 size win (s8.fdiv 8) ≤ waitV l0 r0 size win (s8.fdiv 8)) (w21 : waitV l2 r2 size win (s8.fdiv 8) ≤ waitV l1 r1 size win (s8.fdiv 8)) (w31 : waitV l3 r3 size fwin (s8.fdiv 8) ≤ waitV l1 r1 size win (s8.fdiv 8)) (wnn : 0 ≤ waitV l1 r1 size win (s8.fdiv 8))
    (hT : TwinOk b1 l1 r1 win (s8.fdiv 8) size)
    (ret : ∀ h' tk', Fr h₀ L h' (kstB u [(Str.ofString "box", .ref b), (Str.ofString "way", .ref wx), (Str.ofString "now", .int now tnow), (Str.ofString "burst", .int burst tbu), (Str.ofString "more", .int more tmo), (Str.ofString "pacers", .ref pl), (Str.ofString "slow", .ref sx), (Str.ofString "fast", .ref fx), (Str.ofString "is_alike", .bool alike), (Str.ofString "form", .int form tfo), (Str.ofString "size", .int size tsz), (Str.ofString "windows", .ref wl)]) → News h₀ L h' [(wl, W.listOf #[.int win tw0, .int win tw1, .int win tw2, .int fwin tw3] cw), (b, boxO l kx tkx nb), (l, W.listOf vs.toArray c), (wx, instObj 235 wd), (wd, rttD w q1 q2 q3 q4 q5 q6 lat tla lea tle s8 t8 v4 t4 fst tfs), (pl, W.listOf #[.ref x0, .ref x1, .ref x2, .ref x3] cp), (x0, instObj 66 d0), (d0, pacerD w k10 k20 k30 k40 b0 tb0 l0 tl0 r0 tr0 s0 ts0), (x1, instObj 66 d1), (d1, pacerD w k11 k21 k31 k41 b1 tb1 l1 tl1 r1 tr1 s1 ts1), (x2, instObj 66 d2), (d2, pacerD w k12 k22 k32 k42 b2 tb2 l2 tl2 r2 tr2 s2 ts2), (x3, instObj 66 d3), (d3, pacerD w k13 k23 k33 k43 b3 tb3 l3 tl3 r3 tr3 s3 ts3), (sx, instObj 171 sd), (sd, renoD w g1 g2 g3 g4 g5 g6 gt win twi thr rec fl tfl cr tcr), (fx, instObj 171 fd), (fd, renoD w f1 f2 f3 f4 f5 f6 ft fwin tfw .none .none ffl tff fcr tfc), (I, oI)] → wpAny (model PySem.Challenge.rw_sj0111_01.row.toRowW.prog w) (ktrTop dp un gd (Str.ofString "law") lawScope L fa ccd [] outer) (execs ys (envOf (Str.ofString "law") lawScope L fa ccd)) Q E { s with heap := h', toks := tk' }) :
    wpAny (model PySem.Challenge.rw_sj0111_01.row.toRowW.prog w) (ktrTop dp un gd (Str.ofString "law") lawScope L fa ccd [] outer) (execs (takeS 1 (dropS 9 forBody) ++ ys) (envOf (Str.ofString "law") lawScope L fa ccd)) Q E s := by
  revert X; k_fill; intro X
  dsimp only [lawScope, forBody, lawBody, lawDef, PySem.Challenge.pw_sj0111_01, lastOf, bodyOf, takeS, dropS, headS, scopeOf, List.cons_append, List.nil_append] at *
  have hS : Asc l [b, wd, wx, d0, x0, d1, x1, d2, x2, d3, x3, pl, sd, sx, fd, fx, I] := hch
  repeat' (first | ((with_reducible show wpAny _ _ (call (Value.ref _) _) _ _ _); first | ((with_reducible show wpAny _ _ (call (Value.ref 204) _) _ _ _); k_here; k_dflt (refine' smoothed_c ?k1 ?k2 ?k3 ?k4 ?k5 ?kN ?ky ?kd ?kr ?ku ?_; (case k1 => k_asm); (case k2 => k_asm); (case k3 => k_asm); (case k4 => k_asm); (case k5 => first | exact rfl | assumption); (case kN => k_asm); (case ky => k_mem); (case kd => k_mem); (case kr => ktr_room); (case ku => ktr_units); k_whole); intro v' t' h' tk' e' F' N'; subst e'; (try k_sweep)) | ((with_reducible show wpAny _ _ (call (Value.ref 265) _) _ _ _); k_here; k_dflt (refine' waits_c ?k1 ?k2 ?k3 ?k4 ?k5 ?kN ?kS ?kw0 ?kw1 ?kw2 ?kw3 ?ks ?kh0 ?kh1 ?kh2 ?kh3 ?kT ?kr ?ku ?_; (case k1 => k_asm); (case k2 => k_asm); (case k3 => k_asm); (case k4 => k_asm); (case k5 => first | exact rfl | assumption); (case kN => k_asm); (case kS => k_allIn); (case kw0 => (constructor <;> omega)); (case kw1 => (constructor <;> omega)); (case kw2 => (constructor <;> omega)); (case kw3 => (constructor <;> omega)); (case ks => (constructor <;> omega)); (case kh0 => assumption); (case kh1 => assumption); (case kh2 => assumption); (case kh3 => assumption); (case kT => assumption); (case kr => ktr_room); (case ku => ktr_units); k_whole); intro h' tk' F' N'; (try k_sweep)) | ((with_reducible show wpAny _ _ (call (Value.ref 260) _) _ _ _); k_here; k_dflt (refine' order_c ?k1 ?k2 ?k3 ?k4 ?k5 ?kN ?kS ?kh0 ?kh1 ?kh2 ?kh3 ?kh4 ?kr ?ku ?_; (case k1 => k_asm); (case k2 => k_asm); (case k3 => k_asm); (case k4 => k_asm); (case k5 => first | exact rfl | assumption); (case kN => k_asm); (case kS => k_allIn); (case kh0 => assumption); (case kh1 => assumption); (case kh2 => assumption); (case kh3 => assumption); (case kh4 => assumption); (case kr => ktr_room); (case ku => ktr_units); k_whole); intro h' tk' F' N'; (try k_sweep))) | (k_unfold; (try dsimp only)) | (k_end; wrow_close) | walk1 | (dsimp only; walk1) | (leave1; try dsimp only) | fail "no step")
  all_goals (try dsimp only)
  all_goals (refine' ret _ _ ?F ?N; (case F => k_asm); (case N => k_asm))
end
section
theorem g8_no {l0 l1 r0 r1 : Int} (h : l0 = l1 ∧ r0 = r1) (a : (l0 + 0 == l1 + 0 && r0 == r1) = false) : False := by
  obtain ⟨rfl, rfl⟩ := h
  simp at a
set_option maxHeartbeats 8000000 in
theorem g8 {w : World} {mean : ExcName → Option Value} {mg mb : Str → Option Value} {dp un : Nat} {gd : Option (List Code)} {fa : Addr} {ccd : Value} {outer : List Env} {A₀ : Around} {base h₀ : Heap} {L : Addr} {u : Str → Option Value} {s : Shared} {Q : Flow → Shared → Prop} {E : Value → Shared → Prop} {ys : List Stmt}
    {b l wx wd pl x0 x1 x2 x3 d0 d1 d2 d3 sx sd fx fd I wl : Addr} {oI : Obj} {nb c cp cw : Nat} {tkx q1 q2 q3 q4 q5 q6 tla tle t8 t4 tfs k10 k20 k30 k40 tb0 tl0 tr0 ts0 k11 k21 k31 k41 tb1 tl1 tr1 ts1 k12 k22 k32 k42 tb2 tl2 tr2 ts2 k13 k23 k33 k43 tb3 tl3 tr3 ts3 g1 g2 g3 g4 g5 g6 gt twi tfl tcr f1 f2 f3 f4 f5 f6 ft tfw tff tfc tnow tbu tmo tfo tsz tw0 tw1 tw2 tw3 : Tok} {kx lat lea s8 v4 fst b0 l0 r0 s0 b1 l1 r1 s1 b2 l2 r2 s2 b3 l3 r3 s3 win fl cr fwin ffl fcr now burst more form size : Int} {thr rec : Value} {alike : Bool} {vs : List Value} {ns : List Int}
    (B : Below A₀ base outer h₀) (F : Fr h₀ L s.heap (kstB u [(Str.ofString "box", .ref b), (Str.ofString "way", .ref wx), (Str.ofString "now", .int now tnow), (Str.ofString "burst", .int burst tbu), (Str.ofString "more", .int more tmo), (Str.ofString "pacers", .ref pl), (Str.ofString "slow", .ref sx), (Str.ofString "fast", .ref fx), (Str.ofString "is_alike", .bool alike), (Str.ofString "form", .int form tfo), (Str.ofString "size", .int size tsz), (Str.ofString "windows", .ref wl)])) (X : (Mine.hd.heap_39 w.params).In h₀) (T : Top Mine.hd.view_39 (looseW Mine.hd.view_39 []) mean mg mb h₀)
    (N : News h₀ L s.heap [(wl, W.listOf #[.int win tw0, .int win tw1, .int win tw2, .int fwin tw3] cw), (b, boxO l kx tkx nb), (l, W.listOf vs.toArray c), (wx, instObj 235 wd), (wd, rttD w q1 q2 q3 q4 q5 q6 lat tla lea tle s8 t8 v4 t4 fst tfs), (pl, W.listOf #[.ref x0, .ref x1, .ref x2, .ref x3] cp), (x0, instObj 66 d0), (d0, pacerD w k10 k20 k30 k40 b0 tb0 l0 tl0 r0 tr0 s0 ts0), (x1, instObj 66 d1), (d1, pacerD w k11 k21 k31 k41 b1 tb1 l1 tl1 r1 tr1 s1 ts1), (x2, instObj 66 d2), (d2, pacerD w k12 k22 k32 k42 b2 tb2 l2 tl2 r2 tr2 s2 ts2), (x3, instObj 66 d3), (d3, pacerD w k13 k23 k33 k43 b3 tb3 l3 tl3 r3 tr3 s3 ts3), (sx, instObj 171 sd), (sd, renoD w g1 g2 g3 g4 g5 g6 gt win twi thr rec fl tfl cr tcr), (fx, instObj 171 fd), (fd, renoD w f1 f2 f3 f4 f5 f6 ft fwin tfw .none .none ffl tff fcr tfc), (I, oI)]) (hch : @LT.lt Nat instLTNat l b ∧ @LT.lt Nat instLTNat b wd ∧ @LT.lt Nat instLTNat wd wx ∧ @LT.lt Nat instLTNat wx d0 ∧ @LT.lt Nat instLTNat d0 x0 ∧ @LT.lt Nat instLTNat x0 d1 ∧ @LT.lt Nat instLTNat d1 x1 ∧ @LT.lt Nat instLTNat x1 d2 ∧ @LT.lt Nat instLTNat d2 x2 ∧ @LT.lt Nat instLTNat x2 d3 ∧ @LT.lt Nat instLTNat d3 x3 ∧ @LT.lt Nat instLTNat x3 pl ∧ @LT.lt Nat instLTNat pl sd ∧ @LT.lt Nat instLTNat sd sx ∧ @LT.lt Nat instLTNat sx fd ∧ @LT.lt Nat instLTNat fd fx ∧ @LT.lt Nat instLTNat fx I) (hi : IntsAre vs ns) (hlen : ns.length ≤ 48) (hdp : dp + 12 < recursionLimit) (hun : un + 100 < cLine)
    (hwl : @LT.lt Nat instLTNat I wl) (hE : PassesOwn (model PySem.Challenge.rw_sj0111_01.row.toRowW.prog w) (ktrTop dp un gd (Str.ofString "law") lawScope L fa ccd [] outer) (envOf (Str.ofString "law") lawScope L fa ccd) E)(hal : alike = true → l0 = l1 ∧ r0 = r1)
    (ret : ∀ h' tk', Fr h₀ L h' (kstB u [(Str.ofString "box", .ref b), (Str.ofString "way", .ref wx), (Str.ofString "now", .int now tnow), (Str.ofString "burst", .int burst tbu), (Str.ofString "more", .int more tmo), (Str.ofString "pacers", .ref pl), (Str.ofString "slow", .ref sx), (Str.ofString "fast", .ref fx), (Str.ofString "is_alike", .bool alike), (Str.ofString "form", .int form tfo), (Str.ofString "size", .int size tsz), (Str.ofString "windows", .ref wl)]) → News h₀ L h' [(wl, W.listOf #[.int win tw0, .int win tw1, .int win tw2, .int fwin tw3] cw), (b, boxO l kx tkx nb), (l, W.listOf vs.toArray c), (wx, instObj 235 wd), (wd, rttD w q1 q2 q3 q4 q5 q6 lat tla lea tle s8 t8 v4 t4 fst tfs), (pl, W.listOf #[.ref x0, .ref x1, .ref x2, .ref x3] cp), (x0, instObj 66 d0), (d0, pacerD w k10 k20 k30 k40 b0 tb0 l0 tl0 r0 tr0 s0 ts0), (x1, instObj 66 d1), (d1, pacerD w k11 k21 k31 k41 b1 tb1 l1 tl1 r1 tr1 s1 ts1), (x2, instObj 66 d2), (d2, pacerD w k12 k22 k32 k42 b2 tb2 l2 tl2 r2 tr2 s2 ts2), (x3, instObj 66 d3), (d3, pacerD w k13 k23 k33 k43 b3 tb3 l3 tl3 r3 tr3 s3 ts3), (sx, instObj 171 sd), (sd, renoD w g1 g2 g3 g4 g5 g6 gt win twi thr rec fl tfl cr tcr), (fx, instObj 171 fd), (fd, renoD w f1 f2 f3 f4 f5 f6 ft fwin tfw .none .none ffl tff fcr tfc), (I, oI)] → wpAny (model PySem.Challenge.rw_sj0111_01.row.toRowW.prog w) (ktrTop dp un gd (Str.ofString "law") lawScope L fa ccd [] outer) (execs ys (envOf (Str.ofString "law") lawScope L fa ccd)) Q E { s with heap := h', toks := tk' }) :
    wpAny (model PySem.Challenge.rw_sj0111_01.row.toRowW.prog w) (ktrTop dp un gd (Str.ofString "law") lawScope L fa ccd [] outer) (execs (takeS 1 (dropS 10 forBody) ++ ys) (envOf (Str.ofString "law") lawScope L fa ccd)) Q E s := by
  revert X; k_fill; intro X
  dsimp only [lawScope, forBody, lawBody, lawDef, PySem.Challenge.pw_sj0111_01, lastOf, bodyOf, takeS, dropS, headS, scopeOf, List.cons_append, List.nil_append] at *
  have hS : Asc l [b, wd, wx, d0, x0, d1, x1, d2, x2, d3, x3, pl, sd, sx, fd, fx, I] := hch
  repeat' (first | ((with_reducible show wpAny _ _ (call (Value.ref _) _) _ _ _); first | ((with_reducible show wpAny _ _ (call (Value.ref _) _) _ _ _); (k_here; k_dflt (refine wpAny_call ?_; (refine' code_def ?k1 ?k2 ?k3 ?k4 ?k5 ?kA ?kF ?kK ?k6 ?k7 ?k8 ?k9 ?kB ?_ ?c2 ?c3 ?c4 ?c5; (case kA => exact rfl); (case kF => exact rfl); (case kK => first | exact rfl | assumption); (case k1 => k_asm); (case k2 => k_asm); (case k3 => k_asm); (case k4 => k_asm); (case k5 => k_asm); (case k6 => k_is); (case k7 => k_is); (case k8 => ktr_room); (case k9 => exact BindsTo.of_eq rfl); (case c5 => decide); (case kB => exact locs rfl); (case c2 => exact rfl); (case c3 => exact rfl); (case c4 => exact rfl); k_whole; intro g' L' h' FG' F' N' B' X' T'; (try dsimp only); (try k_lift B'); (try k_fold)))))) | ((with_reducible show wpAny _ _ (subscriptTail _ _ (Value.ref _) (Value.int _ _)) _ _ _); k_here; (with_unfolding_all refine' item_litK ?k1 ?k2 ?k3 ?k4 ?_ ?k6; (case k1 => is_list); (case k2 => decide); (case k3 => decide); (case k4 => rfl); (case k6 => with_unfolding_all rfl); k_whole)) | (k_unfold; (try dsimp only)) | (k_end; wrow_close) | walk1 | (dsimp only; walk1) | (leave1; try dsimp only) | fail "no step")
  all_goals (try dsimp only)
  all_goals first
    | (exfalso; exact g8_no (hal (by assumption)) (by assumption))
    | (refine' ret _ _ ?F ?N; (case F => k_asm); (case N => refine' kst_newsOf ?NN ?NS; (case NN => assumption); (case NS => k_allIn)))
end
section
set_option maxHeartbeats 8000000 in
theorem g9 {w : World} {mean : ExcName → Option Value} {mg mb : Str → Option Value} {dp un : Nat} {gd : Option (List Code)} {fa : Addr} {ccd : Value} {outer : List Env} {A₀ : Around} {base h₀ : Heap} {L : Addr} {u : Str → Option Value} {s : Shared} {Q : Flow → Shared → Prop} {E : Value → Shared → Prop} {ys : List Stmt}
    {b l wx wd pl x0 x1 x2 x3 d0 d1 d2 d3 sx sd fx fd I wl : Addr} {oI : Obj} {nb c cp cw : Nat} {tkx q1 q2 q3 q4 q5 q6 tla tle t8 t4 tfs k10 k20 k30 k40 tb0 tl0 tr0 ts0 k11 k21 k31 k41 tb1 tl1 tr1 ts1 k12 k22 k32 k42 tb2 tl2 tr2 ts2 k13 k23 k33 k43 tb3 tl3 tr3 ts3 g1 g2 g3 g4 g5 g6 gt twi tfl tcr f1 f2 f3 f4 f5 f6 ft tfw tff tfc tnow tbu tmo tfo tsz tw0 tw1 tw2 tw3 : Tok} {kx lat lea s8 v4 fst b0 l0 r0 s0 b1 l1 r1 s1 b2 l2 r2 s2 b3 l3 r3 s3 win fl cr fwin ffl fcr now burst more form size : Int} {thr rec : Value} {alike : Bool} {vs : List Value} {ns : List Int}
    (B : Below A₀ base outer h₀) (F : Fr h₀ L s.heap (kstB u [(Str.ofString "box", .ref b), (Str.ofString "way", .ref wx), (Str.ofString "now", .int now tnow), (Str.ofString "burst", .int burst tbu), (Str.ofString "more", .int more tmo), (Str.ofString "pacers", .ref pl), (Str.ofString "slow", .ref sx), (Str.ofString "fast", .ref fx), (Str.ofString "is_alike", .bool alike), (Str.ofString "form", .int form tfo), (Str.ofString "size", .int size tsz), (Str.ofString "windows", .ref wl)])) (X : (Mine.hd.heap_39 w.params).In h₀) (T : Top Mine.hd.view_39 (looseW Mine.hd.view_39 []) mean mg mb h₀)
    (N : News h₀ L s.heap [(wl, W.listOf #[.int win tw0, .int win tw1, .int win tw2, .int fwin tw3] cw), (b, boxO l kx tkx nb), (l, W.listOf vs.toArray c), (wx, instObj 235 wd), (wd, rttD w q1 q2 q3 q4 q5 q6 lat tla lea tle s8 t8 v4 t4 fst tfs), (pl, W.listOf #[.ref x0, .ref x1, .ref x2, .ref x3] cp), (x0, instObj 66 d0), (d0, pacerD w k10 k20 k30 k40 b0 tb0 l0 tl0 r0 tr0 s0 ts0), (x1, instObj 66 d1), (d1, pacerD w k11 k21 k31 k41 b1 tb1 l1 tl1 r1 tr1 s1 ts1), (x2, instObj 66 d2), (d2, pacerD w k12 k22 k32 k42 b2 tb2 l2 tl2 r2 tr2 s2 ts2), (x3, instObj 66 d3), (d3, pacerD w k13 k23 k33 k43 b3 tb3 l3 tl3 r3 tr3 s3 ts3), (sx, instObj 171 sd), (sd, renoD w g1 g2 g3 g4 g5 g6 gt win twi thr rec fl tfl cr tcr), (fx, instObj 171 fd), (fd, renoD w f1 f2 f3 f4 f5 f6 ft fwin tfw .none .none ffl tff fcr tfc), (I, oI)]) (hch : @LT.lt Nat instLTNat l b ∧ @LT.lt Nat instLTNat b wd ∧ @LT.lt Nat instLTNat wd wx ∧ @LT.lt Nat instLTNat wx d0 ∧ @LT.lt Nat instLTNat d0 x0 ∧ @LT.lt Nat instLTNat x0 d1 ∧ @LT.lt Nat instLTNat d1 x1 ∧ @LT.lt Nat instLTNat x1 d2 ∧ @LT.lt Nat instLTNat d2 x2 ∧ @LT.lt Nat instLTNat x2 d3 ∧ @LT.lt Nat instLTNat d3 x3 ∧ @LT.lt Nat instLTNat x3 pl ∧ @LT.lt Nat instLTNat pl sd ∧ @LT.lt Nat instLTNat sd sx ∧ @LT.lt Nat instLTNat sx fd ∧ @LT.lt Nat instLTNat fd fx ∧ @LT.lt Nat instLTNat fx I) (hi : IntsAre vs ns) (hlen : ns.length ≤ 48) (hdp : dp + 12 < recursionLimit) (hun : un + 100 < cLine)
    (hwl : @LT.lt Nat instLTNat I wl) (hE : PassesOwn (model PySem.Challenge.rw_sj0111_01.row.toRowW.prog w) (ktrTop dp un gd (Str.ofString "law") lawScope L fa ccd [] outer) (envOf (Str.ofString "law") lawScope L fa ccd) E)
    (ret : ∀ (dl l03 l13 l23 l33 : Int) (tl03 tl13 tl23 tl33 : Tok) u' h' tk', l03 = l0 - dl → l13 = l1 - dl → l23 = l2 - dl → l33 = l3 - dl → (dl = 0 ∨ dl = size) → Fr h₀ L h' (kstB u' [(Str.ofString "box", .ref b), (Str.ofString "way", .ref wx), (Str.ofString "now", .int now tnow), (Str.ofString "burst", .int burst tbu), (Str.ofString "more", .int more tmo), (Str.ofString "pacers", .ref pl), (Str.ofString "slow", .ref sx), (Str.ofString "fast", .ref fx), (Str.ofString "is_alike", .bool alike), (Str.ofString "form", .int form tfo), (Str.ofString "size", .int size tsz), (Str.ofString "windows", .ref wl)]) → News h₀ L h' [(wl, W.listOf #[.int win tw0, .int win tw1, .int win tw2, .int fwin tw3] cw), (b, boxO l kx tkx nb), (l, W.listOf vs.toArray c), (wx, instObj 235 wd), (wd, rttD w q1 q2 q3 q4 q5 q6 lat tla lea tle s8 t8 v4 t4 fst tfs), (pl, W.listOf #[.ref x0, .ref x1, .ref x2, .ref x3] cp), (x0, instObj 66 d0), (d0, pacerD w k10 k20 k30 k40 b0 tb0 l03 tl03 r0 tr0 s0 ts0), (x1, instObj 66 d1), (d1, pacerD w k11 k21 k31 k41 b1 tb1 l13 tl13 r1 tr1 s1 ts1), (x2, instObj 66 d2), (d2, pacerD w k12 k22 k32 k42 b2 tb2 l23 tl23 r2 tr2 s2 ts2), (x3, instObj 66 d3), (d3, pacerD w k13 k23 k33 k43 b3 tb3 l33 tl33 r3 tr3 s3 ts3), (sx, instObj 171 sd), (sd, renoD w g1 g2 g3 g4 g5 g6 gt win twi thr rec fl tfl cr tcr), (fx, instObj 171 fd), (fd, renoD w f1 f2 f3 f4 f5 f6 ft fwin tfw .none .none ffl tff fcr tfc), (I, oI)] → wpAny (model PySem.Challenge.rw_sj0111_01.row.toRowW.prog w) (ktrTop dp un gd (Str.ofString "law") lawScope L fa ccd [] outer) (execs ys (envOf (Str.ofString "law") lawScope L fa ccd)) Q E { s with heap := h', toks := tk' }) :
    wpAny (model PySem.Challenge.rw_sj0111_01.row.toRowW.prog w) (ktrTop dp un gd (Str.ofString "law") lawScope L fa ccd [] outer) (execs (takeS 1 (dropS 11 forBody) ++ ys) (envOf (Str.ofString "law") lawScope L fa ccd)) Q E s := by
  revert X; k_fill; intro X
  dsimp only [lawScope, forBody, lawBody, lawDef, PySem.Challenge.pw_sj0111_01, lastOf, bodyOf, takeS, dropS, headS, scopeOf, List.cons_append, List.nil_append] at *
  have hS : Asc l [b, wd, wx, d0, x0, d1, x1, d2, x2, d3, x3, pl, sd, sx, fd, fx, I] := hch
  repeat' (first | ((with_reducible show wpAny _ _ (call (Value.ref _) _) _ _ _); first | ((with_reducible show wpAny _ _ (call (Value.ref 56) _) _ _ _); k_here; k_dflt (refine' sent_c ?k1 ?k2 ?k3 ?k4 ?k5 ?kN ?ky ?kx ?kU ?kr ?ku ?_; (case k1 => k_asm); (case k2 => k_asm); (case k3 => k_asm); (case k4 => k_asm); (case k5 => first | exact rfl | assumption); (case kN => k_asm); (case ky => k_mem); (case kx => k_ne); (case kU => k_updF); (case kr => ktr_room); (case ku => ktr_units); k_whole); intro tl' h' tk' F' N'; (try dsimp only at N'); (try k_sweep)) | ((with_reducible show wpAny _ _ (call (Value.ref 49) _) _ _ _); k_here; k_dflt (refine' may_c ?k1 ?k2 ?k3 ?k4 ?k5 ?kN ?ky ?kd ?kr ?ku ?_; (case k1 => k_asm); (case k2 => k_asm); (case k3 => k_asm); (case k4 => k_asm); (case k5 => first | exact rfl | assumption); (case kN => k_asm); (case ky => k_mem); (case kd => k_mem); (case kr => ktr_room); (case ku => ktr_units); k_whole); intro h' tk' F' N'; (try k_sweep))) | ((with_reducible show wpAny _ _ (subscriptTail _ _ (Value.ref _) (Value.int _ _)) _ _ _); k_here; (with_unfolding_all refine' item_litK ?k1 ?k2 ?k3 ?k4 ?_ ?k6; (case k1 => is_list); (case k2 => decide); (case k3 => decide); (case k4 => rfl); (case k6 => with_unfolding_all rfl); k_whole)) | ((with_reducible show wpAny _ _ (exec (Stmt.For _ _ _ _ _) _) _ _ _); (k_here; (rename Fr _ _ _ _ => lF'); (with_unfolding_all refine' For_turns lF' ?_); k_whole)) | (k_unfold; (try dsimp only)) | (k_end; wrow_close) | walk1 | (dsimp only; walk1) | (leave1; try dsimp only) | fail "no step")
  all_goals (try dsimp only)
  all_goals first
    | (refine' ret size _ _ _ _ _ _ _ _ _ _ _ ?e0 ?e1 ?e2 ?e3 ?ed ?F ?N; (case F => refine' fr_kst ?FF ?FP; (case FF => k_asm); (case FP => repeat (first | exact List.forall_mem_nil _ | refine' List.forall_mem_cons.mpr ⟨by with_unfolding_all rfl, ?_⟩))); (case N => refine' kst_newsOf ?NN ?NS; (case NN => assumption); (case NS => k_allIn)); (case e0 => rfl); (case e1 => rfl); (case e2 => rfl); (case e3 => rfl); (case ed => exact .inr rfl))
    | (refine' ret 0 _ _ _ _ _ _ _ _ _ _ _ ?e0 ?e1 ?e2 ?e3 ?ed ?F ?N; (case F => refine' fr_kst ?FF ?FP; (case FF => k_asm); (case FP => repeat (first | exact List.forall_mem_nil _ | refine' List.forall_mem_cons.mpr ⟨by with_unfolding_all rfl, ?_⟩))); (case N => refine' kst_newsOf ?NN ?NS; (case NN => assumption); (case NS => k_allIn)); (case e0 => omega); (case e1 => omega); (case e2 => omega); (case e3 => omega); (case ed => exact .inl rfl))
end
section
set_option maxHeartbeats 8000000 in
theorem g10 {w : World} {mean : ExcName → Option Value} {mg mb : Str → Option Value} {dp un : Nat} {gd : Option (List Code)} {fa : Addr} {ccd : Value} {outer : List Env} {A₀ : Around} {base h₀ : Heap} {L : Addr} {u : Str → Option Value} {s : Shared} {Q : Flow → Shared → Prop} {E : Value → Shared → Prop} {ys : List Stmt}
    {b l wx wd pl x0 x1 x2 x3 d0 d1 d2 d3 sx sd fx fd I wl : Addr} {oI : Obj} {nb c cp cw : Nat} {tkx q1 q2 q3 q4 q5 q6 tla tle t8 t4 tfs k10 k20 k30 k40 tb0 tl0 tr0 ts0 k11 k21 k31 k41 tb1 tl1 tr1 ts1 k12 k22 k32 k42 tb2 tl2 tr2 ts2 k13 k23 k33 k43 tb3 tl3 tr3 ts3 g1 g2 g3 g4 g5 g6 gt twi tfl tcr f1 f2 f3 f4 f5 f6 ft tfw tff tfc tnow tbu tmo tfo tsz tw0 tw1 tw2 tw3 : Tok} {kx lat lea s8 v4 fst b0 l0 r0 s0 b1 l1 r1 s1 b2 l2 r2 s2 b3 l3 r3 s3 win fl cr fwin ffl fcr now burst more form size : Int} {thr rec : Value} {alike : Bool} {vs : List Value} {ns : List Int}
    (B : Below A₀ base outer h₀) (F : Fr h₀ L s.heap (kstB u [(Str.ofString "box", .ref b), (Str.ofString "way", .ref wx), (Str.ofString "now", .int now tnow), (Str.ofString "burst", .int burst tbu), (Str.ofString "more", .int more tmo), (Str.ofString "pacers", .ref pl), (Str.ofString "slow", .ref sx), (Str.ofString "fast", .ref fx), (Str.ofString "is_alike", .bool alike), (Str.ofString "form", .int form tfo), (Str.ofString "size", .int size tsz), (Str.ofString "windows", .ref wl)])) (X : (Mine.hd.heap_39 w.params).In h₀) (T : Top Mine.hd.view_39 (looseW Mine.hd.view_39 []) mean mg mb h₀)
    (N : News h₀ L s.heap [(wl, W.listOf #[.int win tw0, .int win tw1, .int win tw2, .int fwin tw3] cw), (b, boxO l kx tkx nb), (l, W.listOf vs.toArray c), (wx, instObj 235 wd), (wd, rttD w q1 q2 q3 q4 q5 q6 lat tla lea tle s8 t8 v4 t4 fst tfs), (pl, W.listOf #[.ref x0, .ref x1, .ref x2, .ref x3] cp), (x0, instObj 66 d0), (d0, pacerD w k10 k20 k30 k40 b0 tb0 l0 tl0 r0 tr0 s0 ts0), (x1, instObj 66 d1), (d1, pacerD w k11 k21 k31 k41 b1 tb1 l1 tl1 r1 tr1 s1 ts1), (x2, instObj 66 d2), (d2, pacerD w k12 k22 k32 k42 b2 tb2 l2 tl2 r2 tr2 s2 ts2), (x3, instObj 66 d3), (d3, pacerD w k13 k23 k33 k43 b3 tb3 l3 tl3 r3 tr3 s3 ts3), (sx, instObj 171 sd), (sd, renoD w g1 g2 g3 g4 g5 g6 gt win twi thr rec fl tfl cr tcr), (fx, instObj 171 fd), (fd, renoD w f1 f2 f3 f4 f5 f6 ft fwin tfw .none .none ffl tff fcr tfc), (I, oI)]) (hch : @LT.lt Nat instLTNat l b ∧ @LT.lt Nat instLTNat b wd ∧ @LT.lt Nat instLTNat wd wx ∧ @LT.lt Nat instLTNat wx d0 ∧ @LT.lt Nat instLTNat d0 x0 ∧ @LT.lt Nat instLTNat x0 d1 ∧ @LT.lt Nat instLTNat d1 x1 ∧ @LT.lt Nat instLTNat x1 d2 ∧ @LT.lt Nat instLTNat d2 x2 ∧ @LT.lt Nat instLTNat x2 d3 ∧ @LT.lt Nat instLTNat d3 x3 ∧ @LT.lt Nat instLTNat x3 pl ∧ @LT.lt Nat instLTNat pl sd ∧ @LT.lt Nat instLTNat sd sx ∧ @LT.lt Nat instLTNat sx fd ∧ @LT.lt Nat instLTNat fd fx ∧ @LT.lt Nat instLTNat fx I) (hi : IntsAre vs ns) (hlen : ns.length ≤ 48) (hdp : dp + 12 < recursionLimit) (hun : un + 100 < cLine)
    (hwl : @LT.lt Nat instLTNat I wl) (hE : PassesOwn (model PySem.Challenge.rw_sj0111_01.row.toRowW.prog w) (ktrTop dp un gd (Str.ofString "law") lawScope L fa ccd [] outer) (envOf (Str.ofString "law") lawScope L fa ccd) E)
    (h01 : Lex l0 r0 l1 r1) (h12 : Lex l1 r1 l2 r2) (h21 : Lex l2 r2 (l1 + more) r1) (h13 : Lex l1 r1 l3 r3) (h10 : Lex l1 r1 (l0 + more) r0)
    (ret : ∀ h' tk', Fr h₀ L h' (kstB u [(Str.ofString "box", .ref b), (Str.ofString "way", .ref wx), (Str.ofString "now", .int now tnow), (Str.ofString "burst", .int burst tbu), (Str.ofString "more", .int more tmo), (Str.ofString "pacers", .ref pl), (Str.ofString "slow", .ref sx), (Str.ofString "fast", .ref fx), (Str.ofString "is_alike", .bool alike), (Str.ofString "form", .int form tfo), (Str.ofString "size", .int size tsz), (Str.ofString "windows", .ref wl)]) → News h₀ L h' [(wl, W.listOf #[.int win tw0, .int win tw1, .int win tw2, .int fwin tw3] cw), (b, boxO l kx tkx nb), (l, W.listOf vs.toArray c), (wx, instObj 235 wd), (wd, rttD w q1 q2 q3 q4 q5 q6 lat tla lea tle s8 t8 v4 t4 fst tfs), (pl, W.listOf #[.ref x0, .ref x1, .ref x2, .ref x3] cp), (x0, instObj 66 d0), (d0, pacerD w k10 k20 k30 k40 b0 tb0 l0 tl0 r0 tr0 s0 ts0), (x1, instObj 66 d1), (d1, pacerD w k11 k21 k31 k41 b1 tb1 l1 tl1 r1 tr1 s1 ts1), (x2, instObj 66 d2), (d2, pacerD w k12 k22 k32 k42 b2 tb2 l2 tl2 r2 tr2 s2 ts2), (x3, instObj 66 d3), (d3, pacerD w k13 k23 k33 k43 b3 tb3 l3 tl3 r3 tr3 s3 ts3), (sx, instObj 171 sd), (sd, renoD w g1 g2 g3 g4 g5 g6 gt win twi thr rec fl tfl cr tcr), (fx, instObj 171 fd), (fd, renoD w f1 f2 f3 f4 f5 f6 ft fwin tfw .none .none ffl tff fcr tfc), (I, oI)] → wpAny (model PySem.Challenge.rw_sj0111_01.row.toRowW.prog w) (ktrTop dp un gd (Str.ofString "law") lawScope L fa ccd [] outer) (execs ys (envOf (Str.ofString "law") lawScope L fa ccd)) Q E { s with heap := h', toks := tk' }) :
    wpAny (model PySem.Challenge.rw_sj0111_01.row.toRowW.prog w) (ktrTop dp un gd (Str.ofString "law") lawScope L fa ccd [] outer) (execs (takeS 1 (dropS 12 forBody) ++ ys) (envOf (Str.ofString "law") lawScope L fa ccd)) Q E s := by
  revert X; k_fill; intro X
  dsimp only [lawScope, forBody, lawBody, lawDef, PySem.Challenge.pw_sj0111_01, lastOf, bodyOf, takeS, dropS, headS, scopeOf, List.cons_append, List.nil_append] at *
  have hS : Asc l [b, wd, wx, d0, x0, d1, x1, d2, x2, d3, x3, pl, sd, sx, fd, fx, I] := hch
  repeat' (first | ((with_reducible show wpAny _ _ (call (Value.ref _) _) _ _ _); first | ((with_reducible show wpAny _ _ (call (Value.ref 260) _) _ _ _); k_here; k_dflt (refine' order_c ?k1 ?k2 ?k3 ?k4 ?k5 ?kN ?kS ?kh0 ?kh1 ?kh2 ?kh3 ?kh4 ?kr ?ku ?_; (case k1 => k_asm); (case k2 => k_asm); (case k3 => k_asm); (case k4 => k_asm); (case k5 => first | exact rfl | assumption); (case kN => k_asm); (case kS => k_allIn); (case kh0 => assumption); (case kh1 => assumption); (case kh2 => assumption); (case kh3 => assumption); (case kh4 => assumption); (case kr => ktr_room); (case ku => ktr_units); k_whole); intro h' tk' F' N'; (try k_sweep))) | (k_unfold; (try dsimp only)) | (k_end; wrow_close) | walk1 | (dsimp only; walk1) | (leave1; try dsimp only) | fail "no step")
  all_goals (try dsimp only)
  all_goals (refine' ret _ _ ?F ?N; (case F => k_asm); (case N => k_asm))
end
section
theorem bot_pos (sm : Int) : 4 ≤ bot sm := by
  unfold bot; split <;> omega
/-- what time earns, over one divisor -/
noncomputable def capR (r B : Int) : Int := if B - 1 < r then B - 1 else r
theorem earnW_eq (r w sm dt : Int) : earnW r w sm dt = capR r (bot sm) + 5 * w * dt := rfl
theorem capR_bounds {r B : Int} (hr : 0 ≤ r) (hB : 4 ≤ B) : 0 ≤ capR r B ∧ capR r B ≤ B - 1 := by
  unfold capR; split <;> omega
theorem capR_mono {r r' B : Int} (h : r ≤ r') : capR r B ≤ capR r' B := by
  unfold capR; split <;> split <;> omega
/-- the total: octets by the divisor, and the rest -/
noncomputable def tot (l r w sm dt : Int) : Int := l * bot sm + earnW r w sm dt
theorem q_eq (l r w sm dt : Int) : l + (earnW r w sm dt).fdiv (bot sm) = tot l r w sm dt / bot sm := by
  have hB := bot_pos sm
  rw [Int.fdiv_eq_ediv_of_nonneg _ (by omega)]
  unfold tot
  rw [Int.add_comm (l * bot sm), Int.add_mul_ediv_right _ _ (by omega), Int.add_comm]
theorem r_eq (l r w sm dt : Int) : (earnW r w sm dt).fmod (bot sm) = tot l r w sm dt % bot sm := by
  have hB := bot_pos sm
  rw [Int.fmod_eq_emod_of_nonneg _ (by omega)]
  unfold tot
  rw [Int.add_comm (l * bot sm), Int.add_mul_emod_self_right]
theorem earnL_eq (b l r w sm dt : Int) : earnL b l r w sm dt = if b ≤ tot l r w sm dt / bot sm then b else tot l r w sm dt / bot sm := by
  unfold earnL; rw [q_eq]
theorem earnR_eq (b l r w sm dt : Int) : earnR b l r w sm dt = if b ≤ tot l r w sm dt / bot sm then 0 else tot l r w sm dt % bot sm := by
  unfold earnR; rw [q_eq, r_eq l]
theorem lex_div {B t t' : Int} (hB : 0 < B) (h : t ≤ t') : t / B < t' / B ∨ (t / B = t' / B ∧ t % B ≤ t' % B) := by
  have h1 := Int.emod_add_mul_ediv t B
  have h2 := Int.emod_add_mul_ediv t' B
  have h3 : t / B ≤ t' / B := Int.ediv_le_ediv hB h
  rcases Int.lt_or_eq_of_le h3 with h4 | h4
  · exact .inl h4
  · refine .inr ⟨h4, ?_⟩
    rw [h4] at h1
    generalize B * (t' / B) = p at *
    omega
theorem tot_mono {l r w l' r' w' sm dt : Int} (hr : 0 ≤ r) (hr' : 0 ≤ r') (h : Lex l r l' r') (hw : w ≤ w') (hd : 0 ≤ dt) : tot l r w sm dt ≤ tot l' r' w' sm dt := by
  have hB := bot_pos sm
  have hg : 5 * w * dt ≤ 5 * w' * dt := Int.mul_le_mul_of_nonneg_right (by omega) hd
  have c1 := capR_bounds hr hB
  have c2 := capR_bounds hr' hB
  unfold tot
  rw [earnW_eq, earnW_eq]
  rcases h with h | ⟨rfl, h⟩
  · have h2 : (l + 1) * bot sm ≤ l' * bot sm := Int.mul_le_mul_of_nonneg_right (by omega) (by omega)
    rw [Int.add_mul, Int.one_mul] at h2
    generalize l * bot sm = p at *
    generalize l' * bot sm = p' at *
    generalize 5 * w * dt = g at *
    generalize 5 * w' * dt = g' at *
    generalize capR r (bot sm) = c at *
    generalize capR r' (bot sm) = c' at *
    omega
  · have h2 := capR_mono (B := bot sm) h
    omega
theorem earn_mono {b b' l r w l' r' w' sm dt : Int} (hr : 0 ≤ r) (hr' : 0 ≤ r') (h : Lex l r l' r') (hw : w ≤ w') (hd : 0 ≤ dt) (hb : b ≤ b') :
    Lex (earnL b l r w sm dt) (earnR b l r w sm dt) (earnL b' l' r' w' sm dt) (earnR b' l' r' w' sm dt) := by
  have hB := bot_pos sm
  have h1 := lex_div (B := bot sm) (by omega) (tot_mono (sm := sm) hr hr' h hw hd)
  have h2 := Int.emod_nonneg (tot l' r' w' sm dt) (show bot sm ≠ 0 by omega)
  rw [earnL_eq, earnR_eq, earnL_eq, earnR_eq]
  unfold Lex
  generalize tot l r w sm dt / bot sm = q at *
  generalize tot l r w sm dt % bot sm = e at *
  generalize tot l' r' w' sm dt / bot sm = q' at *
  generalize tot l' r' w' sm dt % bot sm = e' at *
  split <;> split <;> omega
theorem earn_shift (b l r w sm dt k : Int) : earnL (b + k) (l + k) r w sm dt = earnL b l r w sm dt + k ∧ earnR (b + k) (l + k) r w sm dt = earnR b l r w sm dt := by
  unfold earnL earnR
  generalize (earnW r w sm dt).fdiv (bot sm) = q
  generalize (earnW r w sm dt).fmod (bot sm) = e
  constructor <;> (split <;> split <;> omega)
theorem earn_top {b l r w sm dt : Int} : earnL b l r w sm dt ≤ b ∧ (earnL b l r w sm dt = b → earnR b l r w sm dt = 0) ∧ 0 ≤ earnR b l r w sm dt := by
  have hB := bot_pos sm
  have h2 := Int.emod_nonneg (tot l r w sm dt) (show bot sm ≠ 0 by omega)
  rw [earnL_eq, earnR_eq]
  generalize tot l r w sm dt / bot sm = q at *
  generalize tot l r w sm dt % bot sm = e at *
  split <;> refine ⟨?_, ?_, ?_⟩ <;> omega
/-! what is waited for -/
noncomputable def lack (l r size sm : Int) : Int := (size - l) * bot sm - capR r (bot sm)
noncomputable def rate (w : Int) : Int := 5 * (if 1 > w then 1 else w)
theorem rate_pos (w : Int) : 5 ≤ rate w := by unfold rate; split <;> omega
theorem waitV_eq (l r size w sm : Int) : waitV l r size w sm = if size ≤ l then 0 else (lack l r size sm + rate w - 1) / rate w := by
  have h := rate_pos w
  show (if size ≤ l then 0 else (lack l r size sm + rate w - 1).fdiv (rate w)) = _
  rw [Int.fdiv_eq_ediv_of_nonneg _ (by omega)]
theorem lack_pos {l r size sm : Int} (hr : 0 ≤ r) (h : l < size) : 1 ≤ lack l r size sm := by
  have hB := bot_pos sm
  have c := capR_bounds hr hB
  have h2 : 1 * bot sm ≤ (size - l) * bot sm := Int.mul_le_mul_of_nonneg_right (by omega) (by omega)
  rw [Int.one_mul] at h2
  unfold lack
  omega
theorem ceil_le {d k t : Int} (hk : 0 < k) : (d + k - 1) / k ≤ t ↔ d ≤ t * k := by
  rw [← Int.lt_add_one_iff, Int.ediv_lt_iff_lt_mul hk, Int.add_mul, Int.one_mul]
  omega
theorem wait_nn {l r size w sm : Int} (hr : 0 ≤ r) : 0 ≤ waitV l r size w sm := by
  rw [waitV_eq]
  split
  · exact Int.le_refl _
  · have h1 := lack_pos (sm := sm) hr (show l < size by omega)
    have h2 := rate_pos w
    exact Int.ediv_nonneg (by omega) (by omega)
theorem wait_mono {l r w l' r' w' size sm : Int} (hr : 0 ≤ r) (hr' : 0 ≤ r') (h : Lex l r l' r') (hw : w ≤ w') : waitV l' r' size w' sm ≤ waitV l r size w sm := by
  by_cases h1 : size ≤ l'
  · rw [waitV_eq l', if_pos h1]; exact wait_nn hr
  · have h2 : ¬ size ≤ l := by rcases h with h | ⟨h, _⟩ <;> omega
    rw [waitV_eq l', if_neg h1, waitV_eq l, if_neg h2]
    have k1 := rate_pos w
    have k2 := rate_pos w'
    have k3 : rate w ≤ rate w' := by unfold rate; split <;> split <;> omega
    have p1 := lack_pos (sm := sm) hr (show l < size by omega)
    have hc := (ceil_le (d := lack l r size sm) (t := (lack l r size sm + rate w - 1) / rate w) (show 0 < rate w by omega)).mp (Int.le_refl _)
    have c0 : 0 ≤ (lack l r size sm + rate w - 1) / rate w := Int.ediv_nonneg (by omega) (by omega)
    rw [ceil_le (by omega)]
    refine Int.le_trans ?_ (Int.le_trans hc (Int.mul_le_mul_of_nonneg_left k3 c0))
    have hB := bot_pos sm
    have b1 := capR_bounds hr hB
    have b2 := capR_bounds hr' hB
    unfold lack
    rcases h with h | ⟨rfl, h⟩
    · have h3 : (l + 1) * bot sm ≤ l' * bot sm := Int.mul_le_mul_of_nonneg_right (by omega) (by omega)
      rw [Int.add_mul, Int.one_mul] at h3
      rw [Int.sub_mul, Int.sub_mul]
      generalize l * bot sm = x at *
      generalize l' * bot sm = y at *
      generalize size * bot sm = z at *
      omega
    · have h3 := capR_mono (B := bot sm) h
      omega
theorem twin_ok {b l r w sm size : Int} (hr : 0 ≤ r) (hw : 1 ≤ w) (hs : size ≤ b) : TwinOk b l r w sm size := by
  intro t ht
  have hB := bot_pos sm
  have c := capR_bounds hr hB
  have h1 : size ≤ earnL b l r w sm t ↔ size ≤ l + (earnW r w sm t).fdiv (bot sm) := by
    unfold earnL; split <;> omega
  rw [h1, Int.fdiv_eq_ediv_of_nonneg _ (by omega)]
  have h2 : size ≤ l + earnW r w sm t / bot sm ↔ size - l ≤ earnW r w sm t / bot sm := by omega
  rw [h2, Int.le_ediv_iff_mul_le (by omega), earnW_eq, waitV_eq]
  have hg : 0 ≤ 5 * w * t := Int.mul_nonneg (by omega) ht
  have hrt : rate w = 5 * w := by unfold rate; split <;> omega
  split
  · rename_i h3
    have h4 : (size - l) * bot sm ≤ 0 * bot sm := Int.mul_le_mul_of_nonneg_right (by omega) (by omega)
    rw [Int.zero_mul] at h4
    constructor <;> intro _ <;> omega
  · rw [ceil_le (by have := rate_pos w; omega), hrt, Int.mul_comm t]
    unfold lack
    constructor <;> intro _ <;> omega
end
section
section
variable {prog : Program} {w : World} {A : Around} {E : Value → Shared → Prop} {s : Shared} {env : Env} {h₀ : Heap} {x : Str} {body : List Stmt} {Q : Flow → Shared → Prop}
/-- a loop over a range; the iterator stands written in each turn's ledger -/
theorem range_turns {r : Addr} {b₀ : Int} {t₀ u₀ v₀ : Tok} {n : Nat} {m₀ : Str → Option Value} {news : List (Addr × Obj)} (J : Nat → (Str → Option Value) → List (Addr × Obj) → Prop)
    (hh : A.handled = none) (hr : IsRange s.heap r 0 b₀ 1 t₀ u₀ v₀) (hsmall : Builtin.Range.small 0 b₀ 1 = true) (hn : Builtin.Range.rangeSize 0 b₀ 1 = (n : Int)) (F : Fr h₀ env.locals s.heap m₀) (N : News h₀ env.locals s.heap news) (hj : J 0 m₀ news)
    (hlow : ∀ i m nx, J i m nx → ∀ p ∈ nx, ∃ q ∈ news, q.1 = p.1)
    (turn : ∀ i k t m₁ nx I oI h tk, i < n → J i m₁ nx → (∀ p ∈ news, @LT.lt Nat instLTNat p.1 I) → Fr h₀ env.locals h (fun y => if y = x then some (.int k t) else m₁ y) → News h₀ env.locals h (nx ++ [(I, oI)]) →
      wpAny (model prog w) A (execs body env) (fun f s₂ => match f with
        | .ret v => Q (.ret v) s₂
        | .brk => Q .next s₂
        | _ => ∃ h' tk' m' nx', s₂ = { s with heap := h', toks := tk' } ∧ Fr h₀ env.locals h' m' ∧ News h₀ env.locals h' (nx' ++ [(I, oI)]) ∧ J (i + 1) m' nx') E { s with heap := h, toks := tk })
    (done : ∀ m₁ nx h tk, J n m₁ nx → Fr h₀ env.locals h m₁ → News h₀ env.locals h nx → Q .next { s with heap := h, toks := tk }) :
    wpAny (model prog w) A (pyIter (.ref r)) (fun it s₂ => LoopAtV prog w A h₀ env x body Q E it s₂) E s := by
  refine wpAny_pyIter_range hr hsmall ?_
  have hlt : ∀ p ∈ news, @LT.lt Nat instLTNat p.1 s.heap.objs.size := fun p hp => Heap.lt_size (N p hp).1
  have hoff : ∀ i m nx, J i m nx → ∀ p ∈ nx, p.1 ∉ [s.heap.objs.size] := by
    intro i m nx hJ p hp hI
    obtain ⟨q, hq, e⟩ := hlow i m nx hJ p hp
    have h1 := hlt q hq
    have h2 := List.mem_singleton.mp hI
    rw [e, h2] at h1
    exact absurd h1 (Nat.lt_irrefl _)
  have W : Walks prog w A s.heap.objs.size [s.heap.objs.size] [s.heap.objs.size] n (fun i v => i < n ∧ ∃ t, v = .int (0 + i * 1) t)
      (fun i h => IsRangeIter h s.heap.objs.size (0 + (i : Nat) * 1) ((n : Int) - (i : Nat)) 1) := (Walks.range hh _ 0 1 n).bound
  refine ⟨s.heap.objs.size, _, _, n, _, _, m₀, news, J, rfl, W, ?_, ?_, hoff 0 m₀ news hj, (by show IsRangeIter _ _ _ _ _; rw [hn]; simpa using Heap.get?_push_size _ rfl), F.push _, (fun p hp => ⟨Heap.get?_push_of_some _ (N p hp).1, (N p hp).2⟩), hj, ?_, ?_⟩
  · intro hm
    exact absurd F.ns.lt ((List.mem_singleton.mp hm) ▸ Nat.lt_irrefl _)
  · intro b hb
    rw [List.mem_singleton.mp hb]
    exact next_is_new F
  · rintro i v m₁ nx s₁ own ⟨hh', tk', rfl⟩ hin ⟨_, t, rfl⟩ hJ hoff' hown hget hall hst F₁ N₁
    obtain ⟨oI, hst⟩ : ∃ oI, hh'.get? s.heap.objs.size = some oI := ⟨_, hst⟩
    have hI : (s.heap.objs.size, oI) ∈ own := hall s.heap.objs.size (List.mem_singleton.mpr rfl) (next_is_new F) _ hst
    have N₂ : News h₀ env.locals hh' (nx ++ [(s.heap.objs.size, oI)]) := fun p hp => by
      rcases List.mem_append.mp hp with hp | hp
      · exact N₁ p (List.mem_append.mpr (.inr hp))
      · rw [List.mem_singleton.mp hp]; exact N₁ _ (List.mem_append.mpr (.inl hI))
    refine wpAny_mono (turn i _ t m₁ nx _ oI hh' tk' hin hJ hlt F₁ N₂) (fun f s₂ p => ?_) fun _ _ e => e
    have fin : (∃ h' tk'' m' nx', s₂ = { s with heap := h', toks := tk'' } ∧ Fr h₀ env.locals h' m' ∧ News h₀ env.locals h' (nx' ++ [(s.heap.objs.size, oI)]) ∧ J (i + 1) m' nx') →
        LoopStepU h₀ env.locals [s.heap.objs.size] own (J (i + 1)) { s with heap := hh', toks := tk' } .next s₂ := by
      rintro ⟨h', tk'', m', nx', e, F', N', hJ'⟩
      refine ⟨rfl, h', tk'', m', nx', e, F', fun p hp => ?_, hoff _ _ _ hJ', hJ'⟩
      rcases List.mem_append.mp hp with hp | hp
      · have h1 : p.1 = s.heap.objs.size := List.mem_singleton.mp (hown p hp)
        have h2 := hget p hp
        rw [h1] at h2
        have h3 : p = (s.heap.objs.size, oI) := Prod.ext h1 (Option.some.inj (h2.symm.trans hst))
        rw [h3]
        exact N' _ (List.mem_append.mpr (.inr (List.mem_singleton.mpr rfl)))
      · exact N' p (List.mem_append.mpr (.inl hp))
    cases f with
    | ret v => exact .ret p
    | brk => exact .brk p
    | next => exact .next (fin p)
    | cont => exact .cont (fin p)
  · rintro h' tk m' nx F' N' _ hJ
    exact done m' nx h' tk hJ F' N'
end
end
section
structure TC where
  (b l wx wd pl x0 x1 x2 x3 d0 d1 d2 d3 sx sd fx fd : Addr)
  (c cp : Nat)
  (q1 q2 q3 q4 q5 q6 tfs k10 k20 k30 k40 tb0 k11 k21 k31 k41 tb1 k12 k22 k32 k42 tb2 k13 k23 k33 k43 tb3 g1 g2 g3 g4 g5 g6 gt f1 f2 f3 f4 f5 f6 ft tbu tmo : Tok)
  (fst burst more : Int)
structure TS where
  (kx lat lea s8 v4 l0 r0 s0 l1 r1 s1 l2 r2 s2 l3 r3 s3 win fl cr fwin ffl fcr now : Int)
  (tkx tla tle t8 t4 tl0 tr0 ts0 tl1 tr1 ts1 tl2 tr2 ts2 tl3 tr3 ts3 twi tfl tcr tfw tff tfc tnow : Tok)
  nb : Nat
  (thr rcv : Value)
  alike : Bool
noncomputable abbrev led (w : World) (vs : List Value) (C : TC) (S : TS) : List (Addr × Obj) := [(C.b, boxO C.l S.kx S.tkx S.nb), (C.l, W.listOf vs.toArray C.c), (C.wx, instObj 235 C.wd), (C.wd, rttD w C.q1 C.q2 C.q3 C.q4 C.q5 C.q6 S.lat S.tla S.lea S.tle S.s8 S.t8 S.v4 S.t4 C.fst C.tfs), (C.pl, W.listOf #[.ref C.x0, .ref C.x1, .ref C.x2, .ref C.x3] C.cp), (C.x0, instObj 66 C.d0), (C.d0, pacerD w C.k10 C.k20 C.k30 C.k40 C.burst C.tb0 S.l0 S.tl0 S.r0 S.tr0 S.s0 S.ts0), (C.x1, instObj 66 C.d1), (C.d1, pacerD w C.k11 C.k21 C.k31 C.k41 C.burst C.tb1 S.l1 S.tl1 S.r1 S.tr1 S.s1 S.ts1), (C.x2, instObj 66 C.d2), (C.d2, pacerD w C.k12 C.k22 C.k32 C.k42 (C.burst + C.more) C.tb2 S.l2 S.tl2 S.r2 S.tr2 S.s2 S.ts2), (C.x3, instObj 66 C.d3), (C.d3, pacerD w C.k13 C.k23 C.k33 C.k43 C.burst C.tb3 S.l3 S.tl3 S.r3 S.tr3 S.s3 S.ts3), (C.sx, instObj 171 C.sd), (C.sd, renoD w C.g1 C.g2 C.g3 C.g4 C.g5 C.g6 C.gt S.win S.twi S.thr S.rcv S.fl S.tfl S.cr S.tcr), (C.fx, instObj 171 C.fd), (C.fd, renoD w C.f1 C.f2 C.f3 C.f4 C.f5 C.f6 C.ft S.fwin S.tfw .none .none S.ffl S.tff S.fcr S.tfc)]
noncomputable abbrev psL (C : TC) (S : TS) : List (Str × Value) := [(Str.ofString "box", .ref C.b), (Str.ofString "way", .ref C.wx), (Str.ofString "now", .int S.now S.tnow), (Str.ofString "burst", .int C.burst C.tbu), (Str.ofString "more", .int C.more C.tmo), (Str.ofString "pacers", .ref C.pl), (Str.ofString "slow", .ref C.sx), (Str.ofString "fast", .ref C.fx), (Str.ofString "is_alike", .bool S.alike)]
structure Facts (i : Nat) (C : TC) (S : TS) : Prop where
  bu : 100 ≤ C.burst ∧ C.burst ≤ 1299
  mo : 0 ≤ C.more
  kx : 0 ≤ S.kx ∧ S.kx ≤ 4 + 4 * i
  s8 : 8 ≤ S.s8 ∧ S.s8 ≤ 7207
  wi : 24 ≤ S.win ∧ S.win ≤ S.fwin ∧ S.fwin ≤ 120 + 1299 * i
  cr : 0 ≤ S.cr ∧ S.cr < S.win
  fc : 0 ≤ S.fcr ∧ S.fcr < S.fwin
  th : NoneOrInt S.thr
  rc : NoneOrInt S.rcv
  rr : 0 ≤ S.r0 ∧ 0 ≤ S.r1 ∧ 0 ≤ S.r2 ∧ 0 ≤ S.r3
  se : S.s0 = S.now ∧ S.s1 = S.now ∧ S.s2 = S.now ∧ S.s3 = S.now
  lx : Lex S.l0 S.r0 S.l1 S.r1 ∧ Lex S.l1 S.r1 S.l2 S.r2 ∧ Lex S.l2 S.r2 (S.l1 + C.more) S.r1 ∧ Lex S.l1 S.r1 S.l3 S.r3 ∧ Lex S.l1 S.r1 (S.l0 + C.more) S.r0
  al : S.alike = true → S.l0 = S.l1 ∧ S.r0 = S.r1
noncomputable abbrev chain (C : TC) : Prop := @LT.lt Nat instLTNat C.l C.b ∧ @LT.lt Nat instLTNat C.b C.wd ∧ @LT.lt Nat instLTNat C.wd C.wx ∧ @LT.lt Nat instLTNat C.wx C.d0 ∧ @LT.lt Nat instLTNat C.d0 C.x0 ∧ @LT.lt Nat instLTNat C.x0 C.d1 ∧ @LT.lt Nat instLTNat C.d1 C.x1 ∧ @LT.lt Nat instLTNat C.x1 C.d2 ∧ @LT.lt Nat instLTNat C.d2 C.x2 ∧ @LT.lt Nat instLTNat C.x2 C.d3 ∧ @LT.lt Nat instLTNat C.d3 C.x3 ∧ @LT.lt Nat instLTNat C.x3 C.pl ∧ @LT.lt Nat instLTNat C.pl C.sd ∧ @LT.lt Nat instLTNat C.sd C.sx ∧ @LT.lt Nat instLTNat C.sx C.fd ∧ @LT.lt Nat instLTNat C.fd C.fx
set_option maxHeartbeats 4000000 in
theorem turn_law {w : World} {mean : ExcName → Option Value} {mg mb : Str → Option Value} {dp un : Nat} {gd : Option (List Code)} {fa : Addr} {ccd : Value} {outer : List Env} {A₀ : Around} {base h₀ : Heap} {L : Addr} {u : Str → Option Value} {s : Shared} {Q : Flow → Shared → Prop} {E : Value → Shared → Prop}
    {C : TC} {S : TS} {I : Addr} {oI : Obj} {vs : List Value} {ns : List Int} {i : Nat}
    (B : Below A₀ base outer h₀) (F : Fr h₀ L s.heap (kstB u (psL C S))) (X : (Mine.hd.heap_39 w.params).In h₀) (T : Top Mine.hd.view_39 (looseW Mine.hd.view_39 []) mean mg mb h₀)
    (N : News h₀ L s.heap (led w vs C S ++ [(I, oI)])) (hch : @LT.lt Nat instLTNat C.l C.b ∧ @LT.lt Nat instLTNat C.b C.wd ∧ @LT.lt Nat instLTNat C.wd C.wx ∧ @LT.lt Nat instLTNat C.wx C.d0 ∧ @LT.lt Nat instLTNat C.d0 C.x0 ∧ @LT.lt Nat instLTNat C.x0 C.d1 ∧ @LT.lt Nat instLTNat C.d1 C.x1 ∧ @LT.lt Nat instLTNat C.x1 C.d2 ∧ @LT.lt Nat instLTNat C.d2 C.x2 ∧ @LT.lt Nat instLTNat C.x2 C.d3 ∧ @LT.lt Nat instLTNat C.d3 C.x3 ∧ @LT.lt Nat instLTNat C.x3 C.pl ∧ @LT.lt Nat instLTNat C.pl C.sd ∧ @LT.lt Nat instLTNat C.sd C.sx ∧ @LT.lt Nat instLTNat C.sx C.fd ∧ @LT.lt Nat instLTNat C.fd C.fx ∧ @LT.lt Nat instLTNat C.fx I) (hi : IntsAre vs ns) (hlen : ns.length ≤ 48) (hdp : dp + 12 < recursionLimit) (hun : un + 100 < cLine) (hE : PassesOwn (model PySem.Challenge.rw_sj0111_01.row.toRowW.prog w) (ktrTop dp un gd (Str.ofString "law") lawScope L fa ccd [] outer) (envOf (Str.ofString "law") lawScope L fa ccd) E)
    (hf : Facts i C S) (hii : i ≤ 11)
    (ret : ∀ S' u' h' tk', Facts (i + 1) C S' → Fr h₀ L h' (kstB u' (psL C S')) → News h₀ L h' (led w vs C S' ++ [(I, oI)]) → Q .next { s with heap := h', toks := tk' }) :
    wpAny (model PySem.Challenge.rw_sj0111_01.row.toRowW.prog w) (ktrTop dp un gd (Str.ofString "law") lawScope L fa ccd [] outer) (execs forBody (envOf (Str.ofString "law") lawScope L fa ccd)) Q E s := by
  obtain ⟨bu, mo, kx, s8, wi, cr, fc, th, rc, rr, se, lx, al⟩ := hf
  obtain ⟨lx1, lx2, lx3, lx4, lx5⟩ := lx
  obtain ⟨se0, se1, se2, se3⟩ := se
  obtain ⟨rr0, rr1, rr2, rr3⟩ := rr
  have ef : forBody = takeS 3 forBody ++ (takeS 1 (dropS 3 forBody) ++ (takeS 1 (dropS 4 forBody) ++ (takeS 1 (dropS 5 forBody) ++ (takeS 2 (dropS 6 forBody) ++ (takeS 1 (dropS 8 forBody) ++ (takeS 1 (dropS 9 forBody) ++ (takeS 1 (dropS 10 forBody) ++ (takeS 1 (dropS 11 forBody) ++ (takeS 1 (dropS 12 forBody) ++ []))))))))) := rfl
  rw [ef]
  refine g1 B F X T N hch hi hlen hdp hun hE ⟨kx.1, by omega⟩ bu (fun dt fo si kx1 tkx1 tnow1 tfo1 tsz1 nb1 u1 h1 tk1 hdt hfo1 hfo2 hsi1 hsi2 hkx1 F1 N1 => ?_)
  refine g2 B F1 X T N1 hch hi hlen hdp hun hE ⟨by omega, by omega⟩ s8 (fun kx2 lat2 lea2 s82 v42 tkx2 tla2 tle2 t82 t42 nb2 u2 h2 tk2 hk21 hk22 hs2 F2 N2 => ?_)
  refine g3 B F2 X T N2 hch hi hlen hdp hun hE ⟨wi.1, by omega⟩ cr th rc (fun win3 cr3 thr3 rec3 twi3 tcr3 u3 h3 tk3 hw3 hc3 ht3 hr3 F3 N3 => ?_)
  refine g4 B F3 X T N3 hch hi hlen hdp hun hE ⟨hw3.1, by omega⟩ hc3 ht3 hr3 ⟨by omega, by omega⟩ fc ⟨hsi1, by omega⟩ (fun win4 fl4 cr4 fwin4 ffl4 fcr4 twi4 tfl4 tcr4 tfw4 tff4 tfc4 u4 h4 tk4 hw4 hf4 hc4 hfc4 F4 N4 => ?_)
  refine g5 B F4 X T N4 hch hi hlen hdp hun hE ⟨by omega, by omega⟩ ⟨by omega, by omega⟩ hs2 (fun l05 l15 l25 l35 r05 r15 r25 r35 wl cw tw0 tw1 tw2 tw3 tl05 tl15 tl25 tl35 tr05 tr15 tr25 tr35 ts05 ts15 ts25 ts35 u5 h5 tk5 el0 er0 el1 er1 el2 er2 el3 er3 hwl F5 N5 => ?_)
  have hsm : 0 ≤ s82.fdiv 8 ∧ s82.fdiv 8 ≤ 1000 := by
    rw [Int.fdiv_eq_ediv_of_nonneg _ (by decide)]
    omega
  have q0 : S.now + dt - S.s0 = dt := by omega
  have q1 : S.now + dt - S.s1 = dt := by omega
  have q2 : S.now + dt - S.s2 = dt := by omega
  have q3 : S.now + dt - S.s3 = dt := by omega
  rw [q0] at el0 er0
  rw [q1] at el1 er1
  rw [q2] at el2 er2
  rw [q3] at el3 er3
  have k01 : Lex l05 r05 l15 r15 := by rw [el0, er0, el1, er1]; exact earn_mono rr0 rr1 lx1 (Int.le_refl _) hdt (Int.le_refl _)
  have k12 : Lex l15 r15 l25 r25 := by rw [el1, er1, el2, er2]; exact earn_mono rr1 rr2 lx2 (Int.le_refl _) hdt (by omega)
  have k21 : Lex l25 r25 (l15 + C.more) r15 := by
    have e := earn_shift C.burst S.l1 S.r1 win4 (s82.fdiv 8) dt C.more
    rw [el2, er2, el1, er1, ← e.1, ← e.2]; exact earn_mono rr2 rr1 lx3 (Int.le_refl _) hdt (Int.le_refl _)
  have k13 : Lex l15 r15 l35 r35 := by rw [el1, er1, el3, er3]; exact earn_mono rr1 rr3 lx4 (by omega) hdt (Int.le_refl _)
  have k10 : Lex l15 r15 (l05 + C.more) r05 := by
    have e := earn_shift C.burst S.l0 S.r0 win4 (s82.fdiv 8) dt C.more
    rw [el1, er1, el0, er0, ← e.1, ← e.2]; exact earn_mono rr1 rr0 lx5 (Int.le_refl _) hdt (by omega)
  have p0 : 0 ≤ r05 := by rw [er0]; exact earn_top.2.2
  have p1 : 0 ≤ r15 := by rw [er1]; exact earn_top.2.2
  have p2 : 0 ≤ r25 := by rw [er2]; exact earn_top.2.2
  have p3 : 0 ≤ r35 := by rw [er3]; exact earn_top.2.2
  have hal1 : S.alike = true → l05 = l15 ∧ r05 = r15 := by
    intro h
    obtain ⟨e1, e2⟩ := al h
    rw [el0, er0, el1, er1, e1, e2]
    exact ⟨rfl, rfl⟩
  have hal2 : l05 = C.burst → l05 = l15 ∧ r05 = r15 := by
    intro h
    have t0 := (earn_top (b := C.burst) (l := S.l0) (r := S.r0) (w := win4) (sm := s82.fdiv 8) (dt := dt))
    have t1 := (earn_top (b := C.burst) (l := S.l1) (r := S.r1) (w := win4) (sm := s82.fdiv 8) (dt := dt))
    rw [← el0, ← er0] at t0
    rw [← el1, ← er1] at t1
    have z0 := t0.2.1 h
    have z1 : l15 = C.burst := by rcases k01 with k | k <;> omega
    have z2 := t1.2.1 z1
    omega
  refine g6 B F5 X T N5 hch hi hlen hdp hun hwl hE (fun al6 u6 h6 tk6 hal6 F6 N6 => ?_)
  have hal7 : al6 = true → l05 = l15 ∧ r05 = r15 := fun h => (hal6 h).elim hal1 hal2
  refine g7 B F6 X T N6 hch hi hlen hdp hun hwl hE ⟨by omega, by omega⟩ ⟨by omega, by omega⟩ hsm k01 k12 k21 k13 k10 (wait_mono p0 p1 k01 (Int.le_refl _)) (wait_mono p1 p2 k12 (Int.le_refl _)) (wait_mono p1 p3 k13 (by omega)) (wait_nn p1) (twin_ok p1 (by omega) (by omega)) (fun h7 tk7 F7 N7 => ?_)
  refine g8 B F7 X T N7 hch hi hlen hdp hun hwl hE hal7 (fun h8 tk8 F8 N8 => ?_)
  refine g9 B F8 X T N8 hch hi hlen hdp hun hwl hE (fun dl l09 l19 l29 l39 tl09 tl19 tl29 tl39 u9 h9 tk9 e0 e1 e2 e3 hdl F9 N9 => ?_)
  have j01 : Lex l09 r05 l19 r15 := by unfold Lex at *; omega
  have j12 : Lex l19 r15 l29 r25 := by unfold Lex at *; omega
  have j21 : Lex l29 r25 (l19 + C.more) r15 := by unfold Lex at *; omega
  have j13 : Lex l19 r15 l39 r35 := by unfold Lex at *; omega
  have j10 : Lex l19 r15 (l09 + C.more) r05 := by unfold Lex at *; omega
  refine g10 B F9 X T N9 hch hi hlen hdp hun hwl hE j01 j12 j21 j13 j10 (fun h10 tk10 F10 N10 => ?_)
  refine wpAny_execs_nil ?_
  refine ret
    { kx := kx2, lat := lat2, lea := lea2, s8 := s82, v4 := v42, l0 := l09, r0 := r05, s0 := S.now + dt, l1 := l19, r1 := r15, s1 := S.now + dt, l2 := l29, r2 := r25, s2 := S.now + dt, l3 := l39, r3 := r35, s3 := S.now + dt,
      win := win4, fl := fl4, cr := cr4, fwin := fwin4, ffl := ffl4, fcr := fcr4, now := S.now + dt, tkx := tkx2, tla := tla2, tle := tle2, t8 := t82, t4 := t42, tl0 := tl09, tr0 := tr05, ts0 := ts05, tl1 := tl19, tr1 := tr15, ts1 := ts15, tl2 := tl29, tr2 := tr25, ts2 := ts25, tl3 := tl39, tr3 := tr35, ts3 := ts35,
      twi := twi4, tfl := tfl4, tcr := tcr4, tfw := tfw4, tff := tff4, tfc := tfc4, tnow := tnow1, nb := nb2, thr := thr3, rcv := rec3, alike := al6 } _ h10 tk10 ?_ (fr_kst F10 ?_) ?_
  · exact ⟨bu, mo, ⟨by dsimp only; omega, by dsimp only; omega⟩, hs2, ⟨by dsimp only; omega, by dsimp only; omega, by dsimp only; omega⟩, hc4, hfc4, ht3, hr3, ⟨p0, p1, p2, p3⟩, ⟨rfl, rfl, rfl, rfl⟩, ⟨j01, j12, j21, j13, j10⟩, fun h => ⟨by have := (hal7 h).1; dsimp only; omega, (hal7 h).2⟩⟩
  · repeat (first | exact List.forall_mem_nil _ | refine List.forall_mem_cons.mpr ⟨by with_unfolding_all rfl, ?_⟩)
  · exact fun p hp => N10 p (.tail _ hp)
end
section
set_option maxHeartbeats 16000000 in
theorem p1 {w : World} {mean : ExcName → Option Value} {mg mb : Str → Option Value} {dp un : Nat} {gd : Option (List Code)} {fa : Addr} {ccd : Value} {outer : List Env} {A₀ : Around} {base h₀ : Heap} {L : Addr} {u : Str → Option Value} {s : Shared} {Q : Flow → Shared → Prop} {E : Value → Shared → Prop} {ys : List Stmt}
    {sc : Addr} {vs : List Value} {ns : List Int}
    (B : Below A₀ base outer h₀) (F : Fr h₀ L s.heap (kstB u [(Str.ofString "script", .ref sc)])) (X : (Mine.hd.heap_39 w.params).In h₀) (T : Top Mine.hd.view_39 (looseW Mine.hd.view_39 []) mean mg mb h₀)
    (N : News h₀ L s.heap []) (hsc : h₀.IsList sc vs.toArray) (hi : IntsAre vs ns) (hlen : ns.length ≤ 63) (hdp : dp + 12 < recursionLimit) (hun : un + 100 < cLine) (hE : PassesOwn (model PySem.Challenge.rw_sj0111_01.row.toRowW.prog w) (ktrTop dp un gd (Str.ofString "law") lawScope L fa ccd [] outer) (envOf (Str.ofString "law") lawScope L fa ccd) E)
    (ret : ∀ (C : TC) (S : TS) vs' ns' u' h' tk', Facts 0 C S → S.kx ≤ 3 → chain C → IntsAre vs' ns' → ns'.length ≤ 48 → Fr h₀ L h' (kstB u' (psL C S)) → News h₀ L h' (led w vs' C S) → wpAny (model PySem.Challenge.rw_sj0111_01.row.toRowW.prog w) (ktrTop dp un gd (Str.ofString "law") lawScope L fa ccd [] outer) (execs ys (envOf (Str.ofString "law") lawScope L fa ccd)) Q E { s with heap := h', toks := tk' }) :
    wpAny (model PySem.Challenge.rw_sj0111_01.row.toRowW.prog w) (ktrTop dp un gd (Str.ofString "law") lawScope L fa ccd [] outer) (execs (takeS 7 lawBody ++ ys) (envOf (Str.ofString "law") lawScope L fa ccd)) Q E s := by
  revert X; k_fill; intro X
  dsimp only [lawScope, forBody, lawBody, lawDef, PySem.Challenge.pw_sj0111_01, lastOf, bodyOf, takeS, dropS, headS, scopeOf, List.cons_append, List.nil_append] at *
  repeat' (first | ((with_reducible show wpAny _ _ (call (Value.ref _) _) _ _ _); first | ((with_reducible show wpAny _ _ (call (Value.ref 218) _) _ _ _); k_here; k_dflt (refine' samp0_c ?k1 ?k2 ?k3 ?k4 ?k5 ?kN ?ky ?kx ?kU ?kr ?ku ?_; (case k1 => k_asm); (case k2 => k_asm); (case k3 => k_asm); (case k4 => k_asm); (case k5 => first | exact rfl | assumption); (case kN => k_asm); (case ky => k_mem); (case kx => k_ne); (case kU => k_updF); (case kr => ktr_room); (case ku => ktr_units); k_whole); intro tl' te' t8' t4' h' tk' F' N'; (try dsimp only at N'); (try k_sweep)) | ((with_reducible show wpAny _ _ (call (Value.ref 235) _) _ _ _); k_here; k_dflt (refine' rtt_new ?k1 ?k2 ?k3 ?k4 ?k5 ?kN ?kr ?ku ?_; (case k1 => k_asm); (case k2 => k_asm); (case k3 => k_asm); (case k4 => k_asm); (case k5 => first | exact rfl | assumption); (case kN => k_asm); (case kr => ktr_room); (case ku => ktr_units); k_whole); intro x' d' k1' k2' k3' k4' k5' k6' tl' te' t8' t4' h' tk' l1 l2 F' N'; (try k_sweep)) | ((with_reducible show wpAny _ _ (call (Value.ref 171) _) _ _ _); k_here; k_dflt (refine' reno_new ?k1 ?k2 ?k3 ?k4 ?k5 ?kN ?kr ?ku ?_; (case k1 => k_asm); (case k2 => k_asm); (case k3 => k_asm); (case k4 => k_asm); (case k5 => first | exact rfl | assumption); (case kN => k_asm); (case kr => ktr_room); (case ku => ktr_units); k_whole); intro x' d' k1' k2' k3' k4' k5' k6' tw' tf' tc' h' tk' l1 l2 F' N'; (try k_sweep)) | ((with_reducible show wpAny _ _ (call (Value.ref 66) _) _ _ _); k_here; k_dflt (refine' pacer_new ?k1 ?k2 ?k3 ?k4 ?k5 ?kN ?kr ?ku ?_; (case k1 => k_asm); (case k2 => k_asm); (case k3 => k_asm); (case k4 => k_asm); (case k5 => first | exact rfl | assumption); (case kN => k_asm); (case kr => ktr_room); (case ku => ktr_units); k_whole); intro x' d' k1' k2' k3' k4' tl' tr' h' tk' l1 l2 F' N'; (try k_sweep)) | ((with_reducible show wpAny _ _ (call (Value.ref 56) _) _ _ _); k_here; k_dflt (refine' sent_c ?k1 ?k2 ?k3 ?k4 ?k5 ?kN ?ky ?kx ?kU ?kr ?ku ?_; (case k1 => k_asm); (case k2 => k_asm); (case k3 => k_asm); (case k4 => k_asm); (case k5 => first | exact rfl | assumption); (case kN => k_asm); (case ky => k_mem); (case kx => k_ne); (case kU => k_updF); (case kr => ktr_room); (case ku => ktr_units); k_whole); intro tl' h' tk' F' N'; (try dsimp only at N'); (try k_sweep)) | ((with_reducible show wpAny _ _ (call (Value.ref 246) _) _ _ _); k_here; k_dflt (refine' drawn_c ?k1 ?k2 ?k3 ?k4 ?k5 ?kN ?ky ?kx ?kU ?ki ?kl ?kk ?km ?kr ?ku ?_; (case k1 => k_asm); (case k2 => k_asm); (case k3 => k_asm); (case k4 => k_asm); (case k5 => first | exact rfl | assumption); (case kN => k_asm); (case kU => k_updF); (case ky => k_mem); (case kx => k_ne); (case ki => assumption); (case kl => first | assumption | omega); (case kk => (constructor <;> omega)); (case km => (constructor <;> omega)); (case kr => ktr_room); (case ku => ktr_units); k_whole); intro r' t' t2' nb' h' tk' e1' e2' F' N'; (try dsimp only at N'); (try k_sweep))) | ((with_reducible show wpAny _ _ (subscriptTail _ _ (Value.ref _) (Value.int _ _)) _ _ _); k_here; (with_unfolding_all refine' item_litK ?k1 ?k2 ?k3 ?k4 ?_ ?k6; (case k1 => is_list); (case k2 => decide); (case k3 => decide); (case k4 => rfl); (case k6 => with_unfolding_all rfl); k_whole)) | (k_unfold; (try dsimp only)) | (k_end; wrow_close) | walk1 | (dsimp only; walk1) | (leave1; try dsimp only) | fail "no step")
  refine' ret ⟨_, _, _, _, _, _, _, _, _, _, _, _, _, _, _, _, _, _, _, _, _, _, _, _, _, _, _, _, _, _, _, _, _, _, _, _, _, _, _, _, _, _, _, _, _, _, _, _, _, _, _, _, _, _, _, _, _, _, _, _, _, _, _, _, _⟩ ⟨_, _, _, _, _, _, _, _, _, _, _, _, _, _, _, _, _, _, _, _, _, _, _, _, _, _, _, _, _, _, _, _, _, _, _, _, _, _, _, _, _, _, _, _, _, _, _, _, _, _, _, _⟩ _ _ _ _ _ ?f ?k ?ch ?hi ?hl ?F ?N
  (case F => refine' fr_kst ?FF ?FP; (case FF => k_asm); (case FP => repeat (first | exact List.forall_mem_nil _ | refine' List.forall_mem_cons.mpr ⟨by with_unfolding_all rfl, ?_⟩))); (case N => refine' kst_newsOf ?NN ?NS; (case NN => assumption); (case NS => k_allIn))
  (case hi => assumption)
  (case hl => first | assumption | omega)
  (case k => dsimp only; omega)
  (case ch => (unfold chain; dsimp only; repeat' (first | assumption | exact fresh_lt (by assumption) (by k_mem) | exact fresh_lt2 (by assumption) (by assumption) (by k_mem) | refine ⟨?_, ?_⟩)))
  (case f => (refine ⟨?_, ?_, ?_, ?_, ?_, ?_, ?_, ?_, ?_, ?_, ?_, ?_, ?_⟩); (all_goals dsimp only); (all_goals first | omega | exact Or.inl rfl | (unfold Lex; omega) | (intro h; have h' := beq_iff_eq.mp h; omega)))
end
end
section
noncomputable def Stop (P : Prop) : Prop := P
theorem stop_of {P : Prop} (h : Stop P) : P := h
noncomputable def KJ (w : World) (vs : List Value) (C : TC) (i : Nat) (m : Str → Option Value) (nx : List (Addr × Obj)) : Prop :=
  ∃ S, nx = led w vs C S ∧ (∀ p ∈ psL C S, m p.1 = some p.2) ∧ Facts i C S
theorem names_ne {C : TC} {S : TS} : ∀ p ∈ psL C S, p.1 ≠ Str.ofString "turn" := by
  intro p hp
  simp only [List.mem_cons, List.not_mem_nil, or_false] at hp
  rcases hp with rfl | rfl | rfl | rfl | rfl | rfl | rfl | rfl | rfl <;> (dsimp only; decide)
theorem led_low {w : World} {vs : List Value} {C : TC} {S S' : TS} {p : Addr × Obj} (hp : p ∈ led w vs C S) : ∃ q ∈ led w vs C S', q.1 = p.1 := by
  have e : (led w vs C S).map (·.1) = (led w vs C S').map (·.1) := rfl
  have hp' := List.mem_map_of_mem (f := (·.1)) hp
  rw [e] at hp'
  obtain ⟨q, hq, hqe⟩ := List.mem_map.mp hp'
  exact ⟨q, hq, hqe⟩
set_option maxHeartbeats 8000000 in
theorem loop_law {w : World} {mean : ExcName → Option Value} {mg mb : Str → Option Value} {dp un : Nat} {gd : Option (List Code)} {fa : Addr} {ccd : Value} {outer : List Env} {A₀ : Around} {base h₀ : Heap} {L : Addr} {u : Str → Option Value} {s : Shared} {Q : Flow → Shared → Prop} {E : Value → Shared → Prop}
    {C : TC} {S : TS} {vs : List Value} {ns : List Int}
    (B : Below A₀ base outer h₀) (F : Fr h₀ L s.heap (kstB u (psL C S))) (X : (Mine.hd.heap_39 w.params).In h₀) (T : Top Mine.hd.view_39 (looseW Mine.hd.view_39 []) mean mg mb h₀)
    (N : News h₀ L s.heap (led w vs C S)) (hch : chain C) (hi : IntsAre vs ns) (hlen : ns.length ≤ 48) (hdp : dp + 12 < recursionLimit) (hun : un + 100 < cLine) (hE : PassesOwn (model PySem.Challenge.rw_sj0111_01.row.toRowW.prog w) (ktrTop dp un gd (Str.ofString "law") lawScope L fa ccd [] outer) (envOf (Str.ofString "law") lawScope L fa ccd) E)
    (hf : Facts 0 C S) (hk3 : S.kx ≤ 3)
    (ret : ∀ m' h' tk', Fr h₀ L h' m' → Q (.ret (.bool true)) { s with heap := h', toks := tk' }) :
    wpAny (model PySem.Challenge.rw_sj0111_01.row.toRowW.prog w) (ktrTop dp un gd (Str.ofString "law") lawScope L fa ccd [] outer) (execs (dropS 7 lawBody) (envOf (Str.ofString "law") lawScope L fa ccd)) Q E s := by
  obtain ⟨bu, mo, kx, s8, wi, cr, fc, th, rc, rr, se, lx, al⟩ := hf
  have hch0 := hch
  unfold chain at hch
  revert X; k_fill; intro X
  dsimp only [lawScope, forBody, lawBody, lawDef, PySem.Challenge.pw_sj0111_01, lastOf, bodyOf, takeS, dropS, headS, scopeOf, List.cons_append, List.nil_append] at *
  repeat' (first | ((with_reducible show wpAny _ _ (call (Value.ref _) _) _ _ _); first | ((with_reducible show wpAny _ _ (call (Value.ref 246) _) _ _ _); k_here; k_dflt (refine' drawn_c ?k1 ?k2 ?k3 ?k4 ?k5 ?kN ?ky ?kx ?kU ?ki ?kl ?kk ?km ?kr ?ku ?_; (case k1 => k_asm); (case k2 => k_asm); (case k3 => k_asm); (case k4 => k_asm); (case k5 => first | exact rfl | assumption); (case kN => k_asm); (case kU => k_updF); (case ky => k_mem); (case kx => k_ne); (case ki => assumption); (case kl => first | assumption | omega); (case kk => (constructor <;> omega)); (case km => (constructor <;> omega)); (case kr => ktr_room); (case ku => ktr_units); k_whole); intro r' t' t2' nb' h' tk' e1' e2' F' N'; (try dsimp only at N'); (try k_sweep))) | ((with_reducible show wpAny _ _ (pyIter (Value.ref _)) (fun it s₂ => LoopAtV _ _ _ _ _ _ _ _ _ it s₂) _ _); k_here; refine stop_of ?_) | (k_unfold; (try dsimp only)) | (k_end; wrow_close) | walk1 | (dsimp only; walk1) | (leave1; try dsimp only) | fail "no step")
  unfold Stop
  (rename IsRange _ _ _ _ _ _ _ _ => hrg)
  obtain ⟨c1, c2, c3, c4, c5, c6, c7, c8, c9, c10, c11, c12, c13, c14, c15, c16⟩ := hch
  refine' range_turns (news := led w vs C { S with kx := S.kx + 1, tkx := _, nb := _ }) (KJ w vs C) rfl hrg ?sm (rangeSize_nat _ _) ?F ?N ?hj ?hlow ?turn ?done
  (case F => k_asm)
  (case N => refine' kst_newsOf ?NN ?NS; (case NN => assumption); (case NS => k_allIn))
  (case sm => exact small_one (by omega) (by omega) (by omega) (by omega))
  (case hj => refine ⟨_, rfl, ?_, ⟨bu, mo, ⟨by dsimp only; omega, by dsimp only; omega⟩, s8, wi, cr, fc, th, rc, rr, se, lx, al⟩⟩; repeat (first | exact List.forall_mem_nil _ | refine List.forall_mem_cons.mpr ⟨by with_unfolding_all rfl, ?_⟩))
  (case hlow =>
    rintro i m nx ⟨S', rfl, _, _⟩ p hp
    exact led_low hp)
  (case turn =>
    rintro i k t m₁ nx I oI h tk hin ⟨S', rfl, hm, hf'⟩ hI F1 N1
    have hfx := hI (C.fx, instObj 171 C.fd) (by k_memK)
    refine turn_law B (fr_kst F1 (fun p hp => ?_)) X T N1 ⟨c1, c2, c3, c4, c5, c6, c7, c8, c9, c10, c11, c12, c13, c14, c15, c16, hfx⟩ hi hlen hdp hun hE hf' (by omega) (fun S'' u' h' tk' hf'' F2 N2 => ⟨h', tk', _, _, rfl, F2, N2, S'', rfl, ?_, hf''⟩)
    · rw [if_neg (names_ne p hp)]; exact hm p hp
    · repeat (first | exact List.forall_mem_nil _ | refine List.forall_mem_cons.mpr ⟨by with_unfolding_all rfl, ?_⟩))
  (case done =>
    rintro m₁ nx h tk ⟨S', rfl, hm, hf'⟩ F1 N1
    have F2 := fr_kst F1 hm
    clear F1 hm
    obtain ⟨bu', mo', kx', s8', wi', cr', fc', th', rc', rr', se', lx', al'⟩ := hf'
    dsimp only
    repeat' (first | ((with_reducible show wpAny _ _ (call (Value.ref _) _) _ _ _); first | ((with_reducible show wpAny _ _ (call (Value.ref 246) _) _ _ _); k_here; k_dflt (refine' drawn_c ?k1 ?k2 ?k3 ?k4 ?k5 ?kN ?ky ?kx ?kU ?ki ?kl ?kk ?km ?kr ?ku ?_; (case k1 => k_asm); (case k2 => k_asm); (case k3 => k_asm); (case k4 => k_asm); (case k5 => first | exact rfl | assumption); (case kN => k_asm); (case kU => k_updF); (case ky => k_mem); (case kx => k_ne); (case ki => assumption); (case kl => first | assumption | omega); (case kk => (constructor <;> omega)); (case km => (constructor <;> omega)); (case kr => ktr_room); (case ku => ktr_units); k_whole); intro r' t' t2' nb' h' tk' e1' e2' F' N'; (try dsimp only at N'); (try k_sweep))) | ((with_reducible show wpAny _ _ (pyIter (Value.ref _)) (fun it s₂ => LoopAtV _ _ _ _ _ _ _ _ _ it s₂) _ _); k_here; refine stop_of ?_) | (k_unfold; (try dsimp only)) | (k_end; wrow_close) | walk1 | (dsimp only; walk1) | (leave1; try dsimp only) | fail "no step")
    dsimp only
    rw [decide_eq_true wi'.2.1]
    exact ret _ _ _ (by assumption))
end
section
theorem main_law {w : World} {mean : ExcName → Option Value} {mg mb : Str → Option Value} {dp un : Nat} {gd : Option (List Code)} {fa : Addr} {ccd : Value} {outer : List Env} {A₀ : Around} {base h₀ : Heap} {L : Addr} {m : Str → Option Value} {s : Shared} {Q : Flow → Shared → Prop} {E : Value → Shared → Prop}
    {sc : Addr} {vs : List Value} {ns : List Int}
    (B : Below A₀ base outer h₀) (F : Fr h₀ L s.heap m) (hm : m (Str.ofString "script") = some (.ref sc)) (X : (Mine.hd.heap_39 w.params).In h₀) (T : Top Mine.hd.view_39 (looseW Mine.hd.view_39 []) mean mg mb h₀)
    (N : News h₀ L s.heap []) (hsc : h₀.IsList sc vs.toArray) (hi : IntsAre vs ns) (hlen : ¬ ((63 : Nat) : Int) < (ns.length : Int)) (hdp : dp + 12 < recursionLimit) (hun : un + 100 < cLine) (hE : PassesOwn (model PySem.Challenge.rw_sj0111_01.row.toRowW.prog w) (ktrTop dp un gd (Str.ofString "law") lawScope L fa ccd [] outer) (envOf (Str.ofString "law") lawScope L fa ccd) E)
    (ret : ∀ m' h' tk', Fr h₀ L h' m' → Q (.ret (.bool true)) { s with heap := h', toks := tk' }) :
    wpAny (model PySem.Challenge.rw_sj0111_01.row.toRowW.prog w) (ktrTop dp un gd (Str.ofString "law") lawScope L fa ccd [] outer) (execs lawBody (envOf (Str.ofString "law") lawScope L fa ccd)) Q E s := by
  have e : lawBody = takeS 7 lawBody ++ dropS 7 lawBody := rfl
  rw [e]
  refine p1 B (fr_kst F (List.forall_mem_cons.mpr ⟨hm, List.forall_mem_nil _⟩)) X T N hsc hi (by omega) hdp hun hE (fun C S vs' ns' u' h' tk' hf hk hch hi' hl' F' N' => ?_)
  exact loop_law B F' X T N' hch hi' hl' hdp hun hE hf hk (fun m' h'' tk'' F'' => ret m' h'' tk'' F'')
end
end Mine
set_option maxHeartbeats 0 in
theorem PySem.Challenge.cw_sj0111_01_holds : PySem.Challenge.rw_sj0111_01.Holds := by
  w_on; o_law
  refine holds_open (q := Mine.hd.view_39) (loose := []) (Xt := fun s => xlAt Mine.hd.view_39 [] s && recOk (RowW.records PySem.Challenge.rw_sj0111_01.row.toRowW) s) (XP := XL Mine.hd.view_39 []) (Yf := Hook.obs (kHook Mine.hd.heap_39 Mine.AS Mine.as_K)) (Ya := Hook.val (kHook Mine.hd.heap_39 Mine.AS Mine.as_K)) (YP := Hook.says (kHook Mine.hd.heap_39 Mine.AS Mine.as_K)) (N := 3518) ?hl (Hook.of _) (Hook.keeps _) (fun s e => xl_of s (Bool.and_eq_true_iff.mp e).1) XL.keeps (by rfl) (by rfl) (by rfl) (fun s e => recFacts_of (Bool.and_eq_true_iff.mp e).2) (by rfl) (by first | assumption | decide +kernel) (by decide +kernel) ⟨rfl, rfl, rfl, rfl, rfl, by decide +kernel⟩ ?hw ?hc
  (case hw => w_witness2)
  (case hl => exact Mine.hl_39)
  (case hc =>
    k_go0
    (rename Fr _ _ _ _ => hF)
    refine' Mine.main_law ?k1 hF ?km ?kX ?kT ?kN ?ks ?ki ?kl ?kd ?ku ?kE ?_
    (case k1 => assumption)
    (case km => with_unfolding_all rfl)
    (case kX => assumption)
    (case kT => assumption)
    (case kN => assumption)
    (case ks => assumption)
    (case ki => assumption)
    (case kl => assumption)
    (case kd => first | decide | ktr_room)
    (case ku => first | decide | ktr_units)
    (case kE => passes_own)
    intro m' h' tk' F'
    wrow_close)

