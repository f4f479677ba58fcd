import PyProof.Rows.All
import Wide.All
import OpenK.AllK
import Wide.FinOn
import PyProof.ExcInit
import PyProof.InstStoreFacts
import Lean
import PySem.Challenge.RW_on0342_01
open PySem PySem.W PyProof.Rows
set_option Elab.async false
set_option maxRecDepth 100000
namespace Mine
local macro_rules | `(tactic| walk_at $s:str) => `(tactic| k_extra $s)
-- Head9
/-- the program's own statements, by their places -/
noncomputable def nth9 : List Stmt → Nat → Stmt
  | s :: _, 0 => s
  | _ :: r, n + 1 => nth9 r n
  | [], _ => .Pass default
noncomputable def st9 (i : Nat) : Stmt := nth9 PySem.Challenge.pw_on0342_01.main.body i
noncomputable def in9 (i j : Nat) : Stmt := match st9 i with
  | .ClassDef _ _ _ body _ _ _ _ _ _ _ => nth9 body j
  | s => s
noncomputable def fnObj (s : Stmt) (qual : Str) (dV kV doc pm : Value) (an : Option Addr) (cd ct : Value) (bl : Addr) : Obj := match s with
  | .FunctionDef name args body _ _ _ scope _ _ _ => { cls := .type "function", data := .func { name := name, qualname := qual, params := args, body := .stmts body, scope := scope, globals := mainGlobals, closure := [], defaults := dV, kwdefaults := kV, doc := doc, pyModule := pm, annotations := an, code := cd, closureTuple := ct, builtins := bl } }
  | _ => { cls := .none, data := .dict #[] 0 }
noncomputable def K9 (P : Params) : Frag :=
  (nat_lit 2, { cls := Value.none, data := Data.dict #[{ hash := PyData.keyHash P (Str.ofString "type.__subclasses__.Exception.0"), key := Value.str (Str.ofString "type.__subclasses__.Exception.0") 221, val := Value.int 38 0 }, { hash := PyData.keyHash P (Str.ofString "type.__subclasses__.Exception.n"), key := Value.str (Str.ofString "type.__subclasses__.Exception.n") 222, val := Value.int 1 0 }] 2 }) ::
  (nat_lit 3, { cls := Value.type "dict", data := Data.dict #[{ hash := PyData.keyHash P (Str.ofString "__name__"), key := Value.str (Str.ofString "__name__") 165, val := Value.str (Str.ofString "law_on0342_01") 605 }, { hash := PyData.keyHash P (Str.ofString "__doc__"), key := Value.str (Str.ofString "__doc__") 166, val := Value.none }, { hash := PyData.keyHash P (Str.ofString "__package__"), key := Value.str (Str.ofString "__package__") 167, val := Value.none }, { hash := PyData.keyHash P (Str.ofString "__loader__"), key := Value.str (Str.ofString "__loader__") 168, val := Value.builtin "__main__.__loader__#opaque" }, { hash := PyData.keyHash P (Str.ofString "__spec__"), key := Value.str (Str.ofString "__spec__") 169, val := Value.none }, { hash := PyData.keyHash P (Str.ofString "__annotations__"), key := Value.str (Str.ofString "__annotations__") 170, val := Value.ref 6 }, { hash := PyData.keyHash P (Str.ofString "__builtins__"), key := Value.str (Str.ofString "__builtins__") 171, val := Value.ref 4 }, { hash := PyData.keyHash P (Str.ofString "__file__"), key := Value.str (Str.ofString "__file__") 173, val := Value.str (Str.ofString "/claim/cut.py") 172 }, { hash := PyData.keyHash P (Str.ofString "__cached__"), key := Value.str (Str.ofString "__cached__") 174, val := Value.none }, { hash := PyData.keyHash P (Str.ofString "_wall"), key := Value.str (Str.ofString "_wall") 193, val := Value.ref 21 }, { hash := PyData.keyHash P (Str.ofString "StackError"), key := Value.str (Str.ofString "StackError") 224, val := Value.ref 38 }, { hash := PyData.keyHash P (Str.ofString "FormError"), key := Value.str (Str.ofString "FormError") 240, val := Value.ref 51 }, { hash := PyData.keyHash P (Str.ofString "put16"), key := Value.str (Str.ofString "put16") 249, val := Value.ref 60 }, { hash := PyData.keyHash P (Str.ofString "put32"), key := Value.str (Str.ofString "put32") 256, val := Value.ref 67 }, { hash := PyData.keyHash P (Str.ofString "need"), key := Value.str (Str.ofString "need") 265, val := Value.ref 74 }, { hash := PyData.keyHash P (Str.ofString "get16"), key := Value.str (Str.ofString "get16") 273, val := Value.ref 81 }, { hash := PyData.keyHash P (Str.ofString "ALL_ONES"), key := Value.str (Str.ofString "ALL_ONES") 277, val := Value.int 65535 276 }, { hash := PyData.keyHash P (Str.ofString "fold"), key := Value.str (Str.ofString "fold") 284, val := Value.ref 88 }, { hash := PyData.keyHash P (Str.ofString "ones_sum"), key := Value.str (Str.ofString "ones_sum") 296, val := Value.ref 96 }, { hash := PyData.keyHash P (Str.ofString "checksum"), key := Value.str (Str.ofString "checksum") 305, val := Value.ref 104 }, { hash := PyData.keyHash P (Str.ofString "UNREACHABLE"), key := Value.str (Str.ofString "UNREACHABLE") 309, val := Value.int 3 308 }, { hash := PyData.keyHash P (Str.ofString "SOURCE_QUENCH"), key := Value.str (Str.ofString "SOURCE_QUENCH") 311, val := Value.int 4 310 }, { hash := PyData.keyHash P (Str.ofString "REDIRECT"), key := Value.str (Str.ofString "REDIRECT") 313, val := Value.int 5 312 }, { hash := PyData.keyHash P (Str.ofString "EXCEEDED"), key := Value.str (Str.ofString "EXCEEDED") 315, val := Value.int 11 314 }, { hash := PyData.keyHash P (Str.ofString "PROBLEM"), key := Value.str (Str.ofString "PROBLEM") 317, val := Value.int 12 316 }, { hash := PyData.keyHash P (Str.ofString "HEAD_SIZE"), key := Value.str (Str.ofString "HEAD_SIZE") 319, val := Value.int 8 318 }, { hash := PyData.keyHash P (Str.ofString "IcmpMessage"), key := Value.str (Str.ofString "IcmpMessage") 390, val := Value.ref 156 }, { hash := PyData.keyHash P (Str.ofString "is_error_kind"), key := Value.str (Str.ofString "is_error_kind") 397, val := Value.ref 167 }, { hash := PyData.keyHash P (Str.ofString "check_octet"), key := Value.str (Str.ofString "check_octet") 405, val := Value.ref 174 }, { hash := PyData.keyHash P (Str.ofString "pack_icmp"), key := Value.str (Str.ofString "pack_icmp") 414, val := Value.ref 181 }, { hash := PyData.keyHash P (Str.ofString "sum_in"), key := Value.str (Str.ofString "sum_in") 421, val := Value.ref 188 }, { hash := PyData.keyHash P (Str.ofString "ICMP"), key := Value.str (Str.ofString "ICMP") 425, val := Value.int 1 424 }, { hash := PyData.keyHash P (Str.ofString "LEAST_HEAD"), key := Value.str (Str.ofString "LEAST_HEAD") 427, val := Value.int 20 426 }, { hash := PyData.keyHash P (Str.ofString "IpHeader"), key := Value.str (Str.ofString "IpHeader") 517, val := Value.ref 241 }, { hash := PyData.keyHash P (Str.ofString "FIRST_GROUP"), key := Value.str (Str.ofString "FIRST_GROUP") 523, val := Value.int 3758096384 522 }, { hash := PyData.keyHash P (Str.ofString "LOOP_NET"), key := Value.str (Str.ofString "LOOP_NET") 525, val := Value.int 127 524 }, { hash := PyData.keyHash P (Str.ofString "is_group"), key := Value.str (Str.ofString "is_group") 532, val := Value.ref 252 }, { hash := PyData.keyHash P (Str.ofString "is_one_host"), key := Value.str (Str.ofString "is_one_host") 539, val := Value.ref 259 }, { hash := PyData.keyHash P (Str.ofString "carries_error"), key := Value.str (Str.ofString "carries_error") 547, val := Value.ref 266 }, { hash := PyData.keyHash P (Str.ofString "told_size"), key := Value.str (Str.ofString "told_size") 554, val := Value.ref 273 }, { hash := PyData.keyHash P (Str.ofString "ErrorBudget"), key := Value.str (Str.ofString "ErrorBudget") 604, val := Value.ref 304 }, { hash := PyData.keyHash P (Str.ofString "_law_pool"), key := Value.str (Str.ofString "_law_pool") 617, val := Value.ref 315 }, { hash := PyData.keyHash P (Str.ofString "_law_take"), key := Value.str (Str.ofString "_law_take") 626, val := Value.ref 322 }, { hash := PyData.keyHash P (Str.ofString "_law_one"), key := Value.str (Str.ofString "_law_one") 634, val := Value.ref 329 }, { hash := PyData.keyHash P (Str.ofString "_law_address"), key := Value.str (Str.ofString "_law_address") 642, val := Value.ref 336 }, { hash := PyData.keyHash P (Str.ofString "_law_words"), key := Value.str (Str.ofString "_law_words") 652, val := Value.ref 343 }, { hash := PyData.keyHash P (Str.ofString "_law_refused"), key := Value.str (Str.ofString "_law_refused") 659, val := Value.ref 350 }, { hash := PyData.keyHash P (Str.ofString "_law_packet_right"), key := Value.str (Str.ofString "_law_packet_right") 665, val := Value.ref 355 }, { hash := PyData.keyHash P (Str.ofString "_law_budget_right"), key := Value.str (Str.ofString "_law_budget_right") 681, val := Value.ref 362 }, { hash := PyData.keyHash P (Str.ofString "law"), key := Value.str (Str.ofString "law") 695, val := Value.ref 369 }] 50 }) ::
  (nat_lit 15, { cls := Value.type "tuple", data := Data.seq #[] }) ::
  (nat_lit 17, { cls := Value.type "tuple", data := Data.seq #[Value.str (Str.ofString "k") 190] }) ::
  (nat_lit 18, { cls := Value.type "tuple", data := Data.seq #[] }) ::
  (nat_lit 20, { cls := Value.type "code", data := Data.fields #[Value.str (Str.ofString "_wall") 187, Value.str (Str.ofString "_wall") 188, Value.str (Str.ofString "/claim/cut.py") 189, Value.int 1 0, Value.int 1 0, Value.int 0 0, Value.int 0 0, Value.int 3 0, Value.ref 15, Value.bool Bool.true, Value.int 181 0, Value.ref 16, Value.none, Value.ref 17, Value.ref 18, Value.ref 19, Value.int 191 0, Value.int 1 0, Value.str (Str.ofString "/claim/cut.py") 192] }) ::
  (nat_lit 21, fnObj (st9 0) (Str.ofString "_wall") (Value.none) (Value.none) (Value.none) (Value.str (Str.ofString "__main__") 164) (none) (Value.ref 20) (Value.none) (0) ) ::
  (nat_lit 22, { cls := Value.type "tuple", data := Data.seq #[Value.type "Exception"] }) ::
  (nat_lit 29, { cls := Value.type "tuple", data := Data.seq #[] }) ::
  (nat_lit 31, { cls := Value.type "tuple", data := Data.seq #[Value.str (Str.ofString "self") 211, Value.str (Str.ofString "message") 212] }) ::
  (nat_lit 32, { cls := Value.type "tuple", data := Data.seq #[] }) ::
  (nat_lit 34, { cls := Value.type "code", data := Data.fields #[Value.str (Str.ofString "__init__") 208, Value.str (Str.ofString "StackError.__init__") 209, Value.str (Str.ofString "/claim/cut.py") 210, Value.int 7 0, Value.int 2 0, Value.int 0 0, Value.int 0 0, Value.int 3 0, Value.ref 29, Value.bool Bool.true, Value.int 181 0, Value.ref 30, Value.none, Value.ref 31, Value.ref 32, Value.ref 33, Value.int 213 0, Value.int 7 0, Value.str (Str.ofString "/claim/cut.py") 214] }) ::
  (nat_lit 35, fnObj (in9 2 0) (Str.ofString "StackError.__init__") (Value.none) (Value.none) (Value.none) (Value.str (Str.ofString "thinstack.errors") 194) (none) (Value.ref 34) (Value.none) (0) ) ::
  (nat_lit 36, { cls := Value.type "tuple", data := Data.seq #[Value.str (Str.ofString "message") 216] }) ::
  (nat_lit 37, { cls := Value.type "dict", data := Data.dict #[{ hash := PyData.keyHash P (Str.ofString "__module__"), key := Value.str (Str.ofString "__module__") 203, val := Value.str (Str.ofString "thinstack.errors") 194 }, { hash := PyData.keyHash P (Str.ofString "__firstlineno__"), key := Value.str (Str.ofString "__firstlineno__") 207, val := Value.int 5 206 }, { hash := PyData.keyHash P (Str.ofString "__init__"), key := Value.str (Str.ofString "__init__") 215, val := Value.ref 35 }, { hash := PyData.keyHash P (Str.ofString "__static_attributes__"), key := Value.str (Str.ofString "__static_attributes__") 217, val := Value.ref 36 }, { hash := PyData.keyHash P (Str.ofString "__weakref__"), key := Value.str (Str.ofString "__weakref__") 219, val := Value.ref 39 }, { hash := PyData.keyHash P (Str.ofString "__doc__"), key := Value.str (Str.ofString "__doc__") 220, val := Value.none }] 3 }) ::
  (nat_lit 38, { cls := Value.type "type", data := Data.cls { name := Str.ofString "StackError", bases := [Value.type "Exception"], mro := [Value.ref 38, Value.type "Exception", Value.type "BaseException", Value.type "object"], ns := 37, qualname := Str.ofString "StackError", subclasses := [Value.ref 51] }, slots := #[some (Value.ref 22), none, some (Value.str (Str.ofString "StackError") 196), some (Value.str (Str.ofString "StackError") 204), some (Value.builtin "Exception.__new__"), some (Value.bool Bool.true)] }) ::
  (nat_lit 39, { cls := Value.type "getset_descriptor", data := Data.fields #[Value.str (Str.ofString "__weakref__") 218, Value.ref 38, Value.builtin "ExceptionGroup.__weakref__", Value.none] }) ::
  (nat_lit 42, { cls := Value.type "tuple", data := Data.seq #[Value.ref 38] }) ::
  (nat_lit 49, { cls := Value.type "tuple", data := Data.seq #[] }) ::
  (nat_lit 50, { cls := Value.type "dict", data := Data.dict #[{ hash := PyData.keyHash P (Str.ofString "__module__"), key := Value.str (Str.ofString "__module__") 232, val := Value.str (Str.ofString "thinstack.errors") 194 }, { hash := PyData.keyHash P (Str.ofString "__firstlineno__"), key := Value.str (Str.ofString "__firstlineno__") 236, val := Value.int 9 235 }, { hash := PyData.keyHash P (Str.ofString "__static_attributes__"), key := Value.str (Str.ofString "__static_attributes__") 237, val := Value.ref 49 }, { hash := PyData.keyHash P (Str.ofString "__doc__"), key := Value.str (Str.ofString "__doc__") 238, val := Value.none }] 2 }) ::
  (nat_lit 51, { cls := Value.type "type", data := Data.cls { name := Str.ofString "FormError", bases := [Value.ref 38], mro := [Value.ref 51, Value.ref 38, Value.type "Exception", Value.type "BaseException", Value.type "object"], ns := 50, qualname := Str.ofString "FormError" }, slots := #[some (Value.ref 42), none, some (Value.str (Str.ofString "FormError") 225), some (Value.str (Str.ofString "FormError") 233), some (Value.builtin "Exception.__new__"), some (Value.bool Bool.true)] }) ::
  (nat_lit 54, { cls := Value.type "tuple", data := Data.seq #[] }) ::
  (nat_lit 56, { cls := Value.type "tuple", data := Data.seq #[Value.str (Str.ofString "n") 246] }) ::
  (nat_lit 57, { cls := Value.type "tuple", data := Data.seq #[] }) ::
  (nat_lit 59, { cls := Value.type "code", data := Data.fields #[Value.str (Str.ofString "put16") 243, Value.str (Str.ofString "put16") 244, Value.str (Str.ofString "/claim/cut.py") 245, Value.int 12 0, Value.int 1 0, Value.int 0 0, Value.int 0 0, Value.int 3 0, Value.ref 54, Value.bool Bool.true, Value.int 181 0, Value.ref 55, Value.none, Value.ref 56, Value.ref 57, Value.ref 58, Value.int 247 0, Value.int 12 0, Value.str (Str.ofString "/claim/cut.py") 248] }) ::
  (nat_lit 60, fnObj (st9 5) (Str.ofString "put16") (Value.none) (Value.none) (Value.none) (Value.str (Str.ofString "thinstack.octets") 241) (none) (Value.ref 59) (Value.none) (0) ) ::
  (nat_lit 61, { cls := Value.type "tuple", data := Data.seq #[] }) ::
  (nat_lit 63, { cls := Value.type "tuple", data := Data.seq #[Value.str (Str.ofString "n") 253] }) ::
  (nat_lit 64, { cls := Value.type "tuple", data := Data.seq #[] }) ::
  (nat_lit 66, { cls := Value.type "code", data := Data.fields #[Value.str (Str.ofString "put32") 250, Value.str (Str.ofString "put32") 251, Value.str (Str.ofString "/claim/cut.py") 252, Value.int 14 0, Value.int 1 0, Value.int 0 0, Value.int 0 0, Value.int 3 0, Value.ref 61, Value.bool Bool.true, Value.int 181 0, Value.ref 62, Value.none, Value.ref 63, Value.ref 64, Value.ref 65, Value.int 254 0, Value.int 14 0, Value.str (Str.ofString "/claim/cut.py") 255] }) ::
  (nat_lit 67, fnObj (st9 6) (Str.ofString "put32") (Value.none) (Value.none) (Value.none) (Value.str (Str.ofString "thinstack.octets") 241) (none) (Value.ref 66) (Value.none) (0) ) ::
  (nat_lit 68, { cls := Value.type "tuple", data := Data.seq #[] }) ::
  (nat_lit 70, { cls := Value.type "tuple", data := Data.seq #[Value.str (Str.ofString "octets") 260, Value.str (Str.ofString "at") 261, Value.str (Str.ofString "size") 262] }) ::
  (nat_lit 71, { cls := Value.type "tuple", data := Data.seq #[] }) ::
  (nat_lit 73, { cls := Value.type "code", data := Data.fields #[Value.str (Str.ofString "need") 257, Value.str (Str.ofString "need") 258, Value.str (Str.ofString "/claim/cut.py") 259, Value.int 16 0, Value.int 3 0, Value.int 0 0, Value.int 0 0, Value.int 3 0, Value.ref 68, Value.bool Bool.true, Value.int 181 0, Value.ref 69, Value.none, Value.ref 70, Value.ref 71, Value.ref 72, Value.int 263 0, Value.int 16 0, Value.str (Str.ofString "/claim/cut.py") 264] }) ::
  (nat_lit 74, fnObj (st9 7) (Str.ofString "need") (Value.none) (Value.none) (Value.none) (Value.str (Str.ofString "thinstack.octets") 241) (none) (Value.ref 73) (Value.none) (0) ) ::
  (nat_lit 75, { cls := Value.type "tuple", data := Data.seq #[] }) ::
  (nat_lit 77, { cls := Value.type "tuple", data := Data.seq #[Value.str (Str.ofString "octets") 269, Value.str (Str.ofString "at") 270] }) ::
  (nat_lit 78, { cls := Value.type "tuple", data := Data.seq #[] }) ::
  (nat_lit 80, { cls := Value.type "code", data := Data.fields #[Value.str (Str.ofString "get16") 266, Value.str (Str.ofString "get16") 267, Value.str (Str.ofString "/claim/cut.py") 268, Value.int 19 0, Value.int 2 0, Value.int 0 0, Value.int 0 0, Value.int 3 0, Value.ref 75, Value.bool Bool.true, Value.int 181 0, Value.ref 76, Value.none, Value.ref 77, Value.ref 78, Value.ref 79, Value.int 271 0, Value.int 19 0, Value.str (Str.ofString "/claim/cut.py") 272] }) ::
  (nat_lit 81, fnObj (st9 8) (Str.ofString "get16") (Value.none) (Value.none) (Value.none) (Value.str (Str.ofString "thinstack.octets") 241) (none) (Value.ref 80) (Value.none) (0) ) ::
  (nat_lit 82, { cls := Value.type "tuple", data := Data.seq #[] }) ::
  (nat_lit 84, { cls := Value.type "tuple", data := Data.seq #[Value.str (Str.ofString "total") 281] }) ::
  (nat_lit 85, { cls := Value.type "tuple", data := Data.seq #[] }) ::
  (nat_lit 87, { cls := Value.type "code", data := Data.fields #[Value.str (Str.ofString "fold") 278, Value.str (Str.ofString "fold") 279, Value.str (Str.ofString "/claim/cut.py") 280, Value.int 24 0, Value.int 1 0, Value.int 0 0, Value.int 0 0, Value.int 3 0, Value.ref 82, Value.bool Bool.true, Value.int 181 0, Value.ref 83, Value.none, Value.ref 84, Value.ref 85, Value.ref 86, Value.int 282 0, Value.int 24 0, Value.str (Str.ofString "/claim/cut.py") 283] }) ::
  (nat_lit 88, fnObj (st9 11) (Str.ofString "fold") (Value.none) (Value.none) (Value.none) (Value.str (Str.ofString "thinstack.sums") 274) (none) (Value.ref 87) (Value.none) (0) ) ::
  (nat_lit 89, { cls := Value.type "tuple", data := Data.seq #[Value.int 0 285] }) ::
  (nat_lit 90, { cls := Value.type "tuple", data := Data.seq #[] }) ::
  (nat_lit 92, { cls := Value.type "tuple", data := Data.seq #[Value.str (Str.ofString "octets") 289, Value.str (Str.ofString "begin") 290, Value.str (Str.ofString "total") 291, Value.str (Str.ofString "even") 292, Value.str (Str.ofString "at") 293] }) ::
  (nat_lit 93, { cls := Value.type "tuple", data := Data.seq #[] }) ::
  (nat_lit 95, { cls := Value.type "code", data := Data.fields #[Value.str (Str.ofString "ones_sum") 286, Value.str (Str.ofString "ones_sum") 287, Value.str (Str.ofString "/claim/cut.py") 288, Value.int 28 0, Value.int 2 0, Value.int 0 0, Value.int 0 0, Value.int 3 0, Value.ref 90, Value.bool Bool.true, Value.int 181 0, Value.ref 91, Value.none, Value.ref 92, Value.ref 93, Value.ref 94, Value.int 294 0, Value.int 28 0, Value.str (Str.ofString "/claim/cut.py") 295] }) ::
  (nat_lit 96, fnObj (st9 12) (Str.ofString "ones_sum") (Value.ref 89) (Value.none) (Value.none) (Value.str (Str.ofString "thinstack.sums") 274) (none) (Value.ref 95) (Value.none) (0) ) ::
  (nat_lit 97, { cls := Value.type "tuple", data := Data.seq #[Value.int 0 297] }) ::
  (nat_lit 98, { cls := Value.type "tuple", data := Data.seq #[] }) ::
  (nat_lit 100, { cls := Value.type "tuple", data := Data.seq #[Value.str (Str.ofString "octets") 301, Value.str (Str.ofString "begin") 302] }) ::
  (nat_lit 101, { cls := Value.type "tuple", data := Data.seq #[] }) ::
  (nat_lit 103, { cls := Value.type "code", data := Data.fields #[Value.str (Str.ofString "checksum") 298, Value.str (Str.ofString "checksum") 299, Value.str (Str.ofString "/claim/cut.py") 300, Value.int 36 0, Value.int 2 0, Value.int 0 0, Value.int 0 0, Value.int 3 0, Value.ref 98, Value.bool Bool.true, Value.int 181 0, Value.ref 99, Value.none, Value.ref 100, Value.ref 101, Value.ref 102, Value.int 303 0, Value.int 36 0, Value.str (Str.ofString "/claim/cut.py") 304] }) ::
  (nat_lit 104, fnObj (st9 13) (Str.ofString "checksum") (Value.ref 97) (Value.none) (Value.none) (Value.str (Str.ofString "thinstack.sums") 274) (none) (Value.ref 103) (Value.none) (0) ) ::
  (nat_lit 112, { cls := Value.type "tuple", data := Data.seq #[] }) ::
  (nat_lit 114, { cls := Value.type "tuple", data := Data.seq #[Value.str (Str.ofString "self") 335, Value.str (Str.ofString "kind") 336, Value.str (Str.ofString "code") 337, Value.str (Str.ofString "rest") 338, Value.str (Str.ofString "payload") 339] }) ::
  (nat_lit 115, { cls := Value.type "tuple", data := Data.seq #[] }) ::
  (nat_lit 117, { cls := Value.type "code", data := Data.fields #[Value.str (Str.ofString "__init__") 332, Value.str (Str.ofString "IcmpMessage.__init__") 333, Value.str (Str.ofString "/claim/cut.py") 334, Value.int 47 0, Value.int 5 0, Value.int 0 0, Value.int 0 0, Value.int 3 0, Value.ref 112, Value.bool Bool.true, Value.int 181 0, Value.ref 113, Value.none, Value.ref 114, Value.ref 115, Value.ref 116, Value.int 340 0, Value.int 47 0, Value.str (Str.ofString "/claim/cut.py") 341] }) ::
  (nat_lit 118, fnObj (in9 21 0) (Str.ofString "IcmpMessage.__init__") (Value.none) (Value.none) (Value.none) (Value.str (Str.ofString "thinstack.icmp") 306) (none) (Value.ref 117) (Value.none) (0) ) ::
  (nat_lit 119, { cls := Value.type "tuple", data := Data.seq #[] }) ::
  (nat_lit 121, { cls := Value.type "tuple", data := Data.seq #[Value.str (Str.ofString "self") 346] }) ::
  (nat_lit 122, { cls := Value.type "tuple", data := Data.seq #[] }) ::
  (nat_lit 124, { cls := Value.type "code", data := Data.fields #[Value.str (Str.ofString "is_error") 343, Value.str (Str.ofString "IcmpMessage.is_error") 344, Value.str (Str.ofString "/claim/cut.py") 345, Value.int 53 0, Value.int 1 0, Value.int 0 0, Value.int 0 0, Value.int 3 0, Value.ref 119, Value.bool Bool.true, Value.int 181 0, Value.ref 120, Value.none, Value.ref 121, Value.ref 122, Value.ref 123, Value.int 347 0, Value.int 53 0, Value.str (Str.ofString "/claim/cut.py") 348] }) ::
  (nat_lit 125, fnObj (in9 21 1) (Str.ofString "IcmpMessage.is_error") (Value.none) (Value.none) (Value.none) (Value.str (Str.ofString "thinstack.icmp") 306) (none) (Value.ref 124) (Value.none) (0) ) ::
  (nat_lit 126, { cls := Value.type "tuple", data := Data.seq #[] }) ::
  (nat_lit 128, { cls := Value.type "tuple", data := Data.seq #[Value.str (Str.ofString "self") 353] }) ::
  (nat_lit 129, { cls := Value.type "tuple", data := Data.seq #[] }) ::
  (nat_lit 131, { cls := Value.type "code", data := Data.fields #[Value.str (Str.ofString "is_echo") 350, Value.str (Str.ofString "IcmpMessage.is_echo") 351, Value.str (Str.ofString "/claim/cut.py") 352, Value.int 56 0, Value.int 1 0, Value.int 0 0, Value.int 0 0, Value.int 3 0, Value.ref 126, Value.bool Bool.true, Value.int 181 0, Value.ref 127, Value.none, Value.ref 128, Value.ref 129, Value.ref 130, Value.int 354 0, Value.int 56 0, Value.str (Str.ofString "/claim/cut.py") 355] }) ::
  (nat_lit 132, fnObj (in9 21 2) (Str.ofString "IcmpMessage.is_echo") (Value.none) (Value.none) (Value.none) (Value.str (Str.ofString "thinstack.icmp") 306) (none) (Value.ref 131) (Value.none) (0) ) ::
  (nat_lit 133, { cls := Value.type "tuple", data := Data.seq #[] }) ::
  (nat_lit 135, { cls := Value.type "tuple", data := Data.seq #[Value.str (Str.ofString "self") 360] }) ::
  (nat_lit 136, { cls := Value.type "tuple", data := Data.seq #[] }) ::
  (nat_lit 138, { cls := Value.type "code", data := Data.fields #[Value.str (Str.ofString "ident") 357, Value.str (Str.ofString "IcmpMessage.ident") 358, Value.str (Str.ofString "/claim/cut.py") 359, Value.int 59 0, Value.int 1 0, Value.int 0 0, Value.int 0 0, Value.int 3 0, Value.ref 133, Value.bool Bool.true, Value.int 181 0, Value.ref 134, Value.none, Value.ref 135, Value.ref 136, Value.ref 137, Value.int 361 0, Value.int 59 0, Value.str (Str.ofString "/claim/cut.py") 362] }) ::
  (nat_lit 139, fnObj (in9 21 3) (Str.ofString "IcmpMessage.ident") (Value.none) (Value.none) (Value.none) (Value.str (Str.ofString "thinstack.icmp") 306) (none) (Value.ref 138) (Value.none) (0) ) ::
  (nat_lit 140, { cls := Value.type "tuple", data := Data.seq #[] }) ::
  (nat_lit 142, { cls := Value.type "tuple", data := Data.seq #[Value.str (Str.ofString "self") 367] }) ::
  (nat_lit 143, { cls := Value.type "tuple", data := Data.seq #[] }) ::
  (nat_lit 145, { cls := Value.type "code", data := Data.fields #[Value.str (Str.ofString "number") 364, Value.str (Str.ofString "IcmpMessage.number") 365, Value.str (Str.ofString "/claim/cut.py") 366, Value.int 62 0, Value.int 1 0, Value.int 0 0, Value.int 0 0, Value.int 3 0, Value.ref 140, Value.bool Bool.true, Value.int 181 0, Value.ref 141, Value.none, Value.ref 142, Value.ref 143, Value.ref 144, Value.int 368 0, Value.int 62 0, Value.str (Str.ofString "/claim/cut.py") 369] }) ::
  (nat_lit 146, fnObj (in9 21 4) (Str.ofString "IcmpMessage.number") (Value.none) (Value.none) (Value.none) (Value.str (Str.ofString "thinstack.icmp") 306) (none) (Value.ref 145) (Value.none) (0) ) ::
  (nat_lit 147, { cls := Value.type "tuple", data := Data.seq #[] }) ::
  (nat_lit 149, { cls := Value.type "tuple", data := Data.seq #[Value.str (Str.ofString "self") 374, Value.str (Str.ofString "other") 375] }) ::
  (nat_lit 150, { cls := Value.type "tuple", data := Data.seq #[] }) ::
  (nat_lit 152, { cls := Value.type "code", data := Data.fields #[Value.str (Str.ofString "like") 371, Value.str (Str.ofString "IcmpMessage.like") 372, Value.str (Str.ofString "/claim/cut.py") 373, Value.int 65 0, Value.int 2 0, Value.int 0 0, Value.int 0 0, Value.int 3 0, Value.ref 147, Value.bool Bool.true, Value.int 181 0, Value.ref 148, Value.none, Value.ref 149, Value.ref 150, Value.ref 151, Value.int 376 0, Value.int 65 0, Value.str (Str.ofString "/claim/cut.py") 377] }) ::
  (nat_lit 153, fnObj (in9 21 5) (Str.ofString "IcmpMessage.like") (Value.none) (Value.none) (Value.none) (Value.str (Str.ofString "thinstack.icmp") 306) (none) (Value.ref 152) (Value.none) (0) ) ::
  (nat_lit 154, { cls := Value.type "tuple", data := Data.seq #[Value.str (Str.ofString "code") 379, Value.str (Str.ofString "kind") 380, Value.str (Str.ofString "payload") 381, Value.str (Str.ofString "rest") 382] }) ::
  (nat_lit 155, { cls := Value.type "dict", data := Data.dict #[{ hash := PyData.keyHash P (Str.ofString "__module__"), key := Value.str (Str.ofString "__module__") 327, val := Value.str (Str.ofString "thinstack.icmp") 306 }, { hash := PyData.keyHash P (Str.ofString "__firstlineno__"), key := Value.str (Str.ofString "__firstlineno__") 331, val := Value.int 45 330 }, { hash := PyData.keyHash P (Str.ofString "__init__"), key := Value.str (Str.ofString "__init__") 342, val := Value.ref 118 }, { hash := PyData.keyHash P (Str.ofString "is_error"), key := Value.str (Str.ofString "is_error") 349, val := Value.ref 125 }, { hash := PyData.keyHash P (Str.ofString "is_echo"), key := Value.str (Str.ofString "is_echo") 356, val := Value.ref 132 }, { hash := PyData.keyHash P (Str.ofString "ident"), key := Value.str (Str.ofString "ident") 363, val := Value.ref 139 }, { hash := PyData.keyHash P (Str.ofString "number"), key := Value.str (Str.ofString "number") 370, val := Value.ref 146 }, { hash := PyData.keyHash P (Str.ofString "like"), key := Value.str (Str.ofString "like") 378, val := Value.ref 153 }, { hash := PyData.keyHash P (Str.ofString "__static_attributes__"), key := Value.str (Str.ofString "__static_attributes__") 383, val := Value.ref 154 }, { hash := PyData.keyHash P (Str.ofString "__dict__"), key := Value.str (Str.ofString "__dict__") 385, val := Value.ref 157 }, { hash := PyData.keyHash P (Str.ofString "__weakref__"), key := Value.str (Str.ofString "__weakref__") 387, val := Value.ref 158 }, { hash := PyData.keyHash P (Str.ofString "__doc__"), key := Value.str (Str.ofString "__doc__") 388, val := Value.none }] 4 }) ::
  (nat_lit 156, { cls := Value.type "type", data := Data.cls { name := Str.ofString "IcmpMessage", bases := [Value.type "object"], mro := [Value.ref 156, Value.type "object"], ns := 155, qualname := Str.ofString "IcmpMessage" }, slots := #[none, none, some (Value.str (Str.ofString "IcmpMessage") 320), some (Value.str (Str.ofString "IcmpMessage") 328), some (Value.builtin "object.__new__"), some (Value.bool Bool.true)] }) ::
  (nat_lit 157, { cls := Value.type "getset_descriptor", data := Data.fields #[Value.str (Str.ofString "__dict__") 384, Value.ref 156, Value.builtin "function.__dict__", Value.builtin "function.__dict__#set"] }) ::
  (nat_lit 158, { cls := Value.type "getset_descriptor", data := Data.fields #[Value.str (Str.ofString "__weakref__") 386, Value.ref 156, Value.builtin "ExceptionGroup.__weakref__", Value.none] }) ::
  (nat_lit 161, { cls := Value.type "tuple", data := Data.seq #[] }) ::
  (nat_lit 163, { cls := Value.type "tuple", data := Data.seq #[Value.str (Str.ofString "kind") 394] }) ::
  (nat_lit 164, { cls := Value.type "tuple", data := Data.seq #[] }) ::
  (nat_lit 166, { cls := Value.type "code", data := Data.fields #[Value.str (Str.ofString "is_error_kind") 391, Value.str (Str.ofString "is_error_kind") 392, Value.str (Str.ofString "/claim/cut.py") 393, Value.int 67 0, Value.int 1 0, Value.int 0 0, Value.int 0 0, Value.int 3 0, Value.ref 161, Value.bool Bool.true, Value.int 181 0, Value.ref 162, Value.none, Value.ref 163, Value.ref 164, Value.ref 165, Value.int 395 0, Value.int 67 0, Value.str (Str.ofString "/claim/cut.py") 396] }) ::
  (nat_lit 167, fnObj (st9 22) (Str.ofString "is_error_kind") (Value.none) (Value.none) (Value.none) (Value.str (Str.ofString "thinstack.icmp") 306) (none) (Value.ref 166) (Value.none) (0) ) ::
  (nat_lit 168, { cls := Value.type "tuple", data := Data.seq #[] }) ::
  (nat_lit 170, { cls := Value.type "tuple", data := Data.seq #[Value.str (Str.ofString "number") 401, Value.str (Str.ofString "what") 402] }) ::
  (nat_lit 171, { cls := Value.type "tuple", data := Data.seq #[] }) ::
  (nat_lit 173, { cls := Value.type "code", data := Data.fields #[Value.str (Str.ofString "check_octet") 398, Value.str (Str.ofString "check_octet") 399, Value.str (Str.ofString "/claim/cut.py") 400, Value.int 69 0, Value.int 2 0, Value.int 0 0, Value.int 0 0, Value.int 3 0, Value.ref 168, Value.bool Bool.true, Value.int 181 0, Value.ref 169, Value.none, Value.ref 170, Value.ref 171, Value.ref 172, Value.int 403 0, Value.int 69 0, Value.str (Str.ofString "/claim/cut.py") 404] }) ::
  (nat_lit 174, fnObj (st9 23) (Str.ofString "check_octet") (Value.none) (Value.none) (Value.none) (Value.str (Str.ofString "thinstack.icmp") 306) (none) (Value.ref 173) (Value.none) (0) ) ::
  (nat_lit 175, { cls := Value.type "tuple", data := Data.seq #[] }) ::
  (nat_lit 177, { cls := Value.type "tuple", data := Data.seq #[Value.str (Str.ofString "message") 409, Value.str (Str.ofString "head") 410, Value.str (Str.ofString "tail") 411] }) ::
  (nat_lit 178, { cls := Value.type "tuple", data := Data.seq #[] }) ::
  (nat_lit 180, { cls := Value.type "code", data := Data.fields #[Value.str (Str.ofString "pack_icmp") 406, Value.str (Str.ofString "pack_icmp") 407, Value.str (Str.ofString "/claim/cut.py") 408, Value.int 72 0, Value.int 1 0, Value.int 0 0, Value.int 0 0, Value.int 3 0, Value.ref 175, Value.bool Bool.true, Value.int 181 0, Value.ref 176, Value.none, Value.ref 177, Value.ref 178, Value.ref 179, Value.int 412 0, Value.int 72 0, Value.str (Str.ofString "/claim/cut.py") 413] }) ::
  (nat_lit 181, fnObj (st9 24) (Str.ofString "pack_icmp") (Value.none) (Value.none) (Value.none) (Value.str (Str.ofString "thinstack.icmp") 306) (none) (Value.ref 180) (Value.none) (0) ) ::
  (nat_lit 182, { cls := Value.type "tuple", data := Data.seq #[] }) ::
  (nat_lit 184, { cls := Value.type "tuple", data := Data.seq #[Value.str (Str.ofString "octets") 418] }) ::
  (nat_lit 185, { cls := Value.type "tuple", data := Data.seq #[] }) ::
  (nat_lit 187, { cls := Value.type "code", data := Data.fields #[Value.str (Str.ofString "sum_in") 415, Value.str (Str.ofString "sum_in") 416, Value.str (Str.ofString "/claim/cut.py") 417, Value.int 80 0, Value.int 1 0, Value.int 0 0, Value.int 0 0, Value.int 3 0, Value.ref 182, Value.bool Bool.true, Value.int 181 0, Value.ref 183, Value.none, Value.ref 184, Value.ref 185, Value.ref 186, Value.int 419 0, Value.int 80 0, Value.str (Str.ofString "/claim/cut.py") 420] }) ::
  (nat_lit 188, fnObj (st9 25) (Str.ofString "sum_in") (Value.none) (Value.none) (Value.none) (Value.str (Str.ofString "thinstack.icmp") 306) (none) (Value.ref 187) (Value.none) (0) ) ::
  (nat_lit 196, { cls := Value.type "tuple", data := Data.seq #[Value.int 0 440, Value.int 64 441, Value.int 0 442, Value.bool Bool.false, Value.bool Bool.false, Value.int 0 443, Value.bytes #[] 444] }) ::
  (nat_lit 197, { cls := Value.type "tuple", data := Data.seq #[] }) ::
  (nat_lit 199, { cls := Value.type "tuple", data := Data.seq #[Value.str (Str.ofString "self") 448, Value.str (Str.ofString "source") 449, Value.str (Str.ofString "target") 450, Value.str (Str.ofString "protocol") 451, Value.str (Str.ofString "ident") 452, Value.str (Str.ofString "ttl") 453, Value.str (Str.ofString "tos") 454, Value.str (Str.ofString "dont") 455, Value.str (Str.ofString "more") 456, Value.str (Str.ofString "offset") 457, Value.str (Str.ofString "options") 458] }) ::
  (nat_lit 200, { cls := Value.type "tuple", data := Data.seq #[] }) ::
  (nat_lit 202, { cls := Value.type "code", data := Data.fields #[Value.str (Str.ofString "__init__") 445, Value.str (Str.ofString "IpHeader.__init__") 446, Value.str (Str.ofString "/claim/cut.py") 447, Value.int 87 0, Value.int 11 0, Value.int 0 0, Value.int 0 0, Value.int 3 0, Value.ref 197, Value.bool Bool.true, Value.int 181 0, Value.ref 198, Value.none, Value.ref 199, Value.ref 200, Value.ref 201, Value.int 459 0, Value.int 87 0, Value.str (Str.ofString "/claim/cut.py") 460] }) ::
  (nat_lit 203, fnObj (in9 29 0) (Str.ofString "IpHeader.__init__") (Value.ref 196) (Value.none) (Value.none) (Value.str (Str.ofString "thinstack.ip_header") 422) (none) (Value.ref 202) (Value.none) (0) ) ::
  (nat_lit 204, { cls := Value.type "tuple", data := Data.seq #[] }) ::
  (nat_lit 206, { cls := Value.type "tuple", data := Data.seq #[Value.str (Str.ofString "self") 465] }) ::
  (nat_lit 207, { cls := Value.type "tuple", data := Data.seq #[] }) ::
  (nat_lit 209, { cls := Value.type "code", data := Data.fields #[Value.str (Str.ofString "size") 462, Value.str (Str.ofString "IpHeader.size") 463, Value.str (Str.ofString "/claim/cut.py") 464, Value.int 99 0, Value.int 1 0, Value.int 0 0, Value.int 0 0, Value.int 3 0, Value.ref 204, Value.bool Bool.true, Value.int 181 0, Value.ref 205, Value.none, Value.ref 206, Value.ref 207, Value.ref 208, Value.int 466 0, Value.int 99 0, Value.str (Str.ofString "/claim/cut.py") 467] }) ::
  (nat_lit 210, fnObj (in9 29 1) (Str.ofString "IpHeader.size") (Value.none) (Value.none) (Value.none) (Value.str (Str.ofString "thinstack.ip_header") 422) (none) (Value.ref 209) (Value.none) (0) ) ::
  (nat_lit 211, { cls := Value.type "tuple", data := Data.seq #[] }) ::
  (nat_lit 213, { cls := Value.type "tuple", data := Data.seq #[Value.str (Str.ofString "self") 472] }) ::
  (nat_lit 214, { cls := Value.type "tuple", data := Data.seq #[] }) ::
  (nat_lit 216, { cls := Value.type "code", data := Data.fields #[Value.str (Str.ofString "is_fragment") 469, Value.str (Str.ofString "IpHeader.is_fragment") 470, Value.str (Str.ofString "/claim/cut.py") 471, Value.int 102 0, Value.int 1 0, Value.int 0 0, Value.int 0 0, Value.int 3 0, Value.ref 211, Value.bool Bool.true, Value.int 181 0, Value.ref 212, Value.none, Value.ref 213, Value.ref 214, Value.ref 215, Value.int 473 0, Value.int 102 0, Value.str (Str.ofString "/claim/cut.py") 474] }) ::
  (nat_lit 217, fnObj (in9 29 2) (Str.ofString "IpHeader.is_fragment") (Value.none) (Value.none) (Value.none) (Value.str (Str.ofString "thinstack.ip_header") 422) (none) (Value.ref 216) (Value.none) (0) ) ::
  (nat_lit 218, { cls := Value.type "tuple", data := Data.seq #[] }) ::
  (nat_lit 220, { cls := Value.type "tuple", data := Data.seq #[Value.str (Str.ofString "self") 479] }) ::
  (nat_lit 221, { cls := Value.type "tuple", data := Data.seq #[] }) ::
  (nat_lit 223, { cls := Value.type "code", data := Data.fields #[Value.str (Str.ofString "is_first") 476, Value.str (Str.ofString "IpHeader.is_first") 477, Value.str (Str.ofString "/claim/cut.py") 478, Value.int 105 0, Value.int 1 0, Value.int 0 0, Value.int 0 0, Value.int 3 0, Value.ref 218, Value.bool Bool.true, Value.int 181 0, Value.ref 219, Value.none, Value.ref 220, Value.ref 221, Value.ref 222, Value.int 480 0, Value.int 105 0, Value.str (Str.ofString "/claim/cut.py") 481] }) ::
  (nat_lit 224, fnObj (in9 29 3) (Str.ofString "IpHeader.is_first") (Value.none) (Value.none) (Value.none) (Value.str (Str.ofString "thinstack.ip_header") 422) (none) (Value.ref 223) (Value.none) (0) ) ::
  (nat_lit 225, { cls := Value.type "tuple", data := Data.seq #[] }) ::
  (nat_lit 227, { cls := Value.type "tuple", data := Data.seq #[Value.str (Str.ofString "self") 486, Value.str (Str.ofString "more") 487, Value.str (Str.ofString "offset") 488, Value.str (Str.ofString "options") 489] }) ::
  (nat_lit 228, { cls := Value.type "tuple", data := Data.seq #[] }) ::
  (nat_lit 230, { cls := Value.type "code", data := Data.fields #[Value.str (Str.ofString "part") 483, Value.str (Str.ofString "IpHeader.part") 484, Value.str (Str.ofString "/claim/cut.py") 485, Value.int 108 0, Value.int 4 0, Value.int 0 0, Value.int 0 0, Value.int 3 0, Value.ref 225, Value.bool Bool.true, Value.int 181 0, Value.ref 226, Value.none, Value.ref 227, Value.ref 228, Value.ref 229, Value.int 490 0, Value.int 108 0, Value.str (Str.ofString "/claim/cut.py") 491] }) ::
  (nat_lit 231, fnObj (in9 29 4) (Str.ofString "IpHeader.part") (Value.none) (Value.none) (Value.none) (Value.str (Str.ofString "thinstack.ip_header") 422) (none) (Value.ref 230) (Value.none) (0) ) ::
  (nat_lit 232, { cls := Value.type "tuple", data := Data.seq #[] }) ::
  (nat_lit 234, { cls := Value.type "tuple", data := Data.seq #[Value.str (Str.ofString "self") 496] }) ::
  (nat_lit 235, { cls := Value.type "tuple", data := Data.seq #[] }) ::
  (nat_lit 237, { cls := Value.type "code", data := Data.fields #[Value.str (Str.ofString "row") 493, Value.str (Str.ofString "IpHeader.row") 494, Value.str (Str.ofString "/claim/cut.py") 495, Value.int 111 0, Value.int 1 0, Value.int 0 0, Value.int 0 0, Value.int 3 0, Value.ref 232, Value.bool Bool.true, Value.int 181 0, Value.ref 233, Value.none, Value.ref 234, Value.ref 235, Value.ref 236, Value.int 497 0, Value.int 111 0, Value.str (Str.ofString "/claim/cut.py") 498] }) ::
  (nat_lit 238, fnObj (in9 29 5) (Str.ofString "IpHeader.row") (Value.none) (Value.none) (Value.none) (Value.str (Str.ofString "thinstack.ip_header") 422) (none) (Value.ref 237) (Value.none) (0) ) ::
  (nat_lit 239, { cls := Value.type "tuple", data := Data.seq #[Value.str (Str.ofString "dont") 500, Value.str (Str.ofString "ident") 501, Value.str (Str.ofString "more") 502, Value.str (Str.ofString "offset") 503, Value.str (Str.ofString "options") 504, Value.str (Str.ofString "protocol") 505, Value.str (Str.ofString "source") 506, Value.str (Str.ofString "target") 507, Value.str (Str.ofString "tos") 508, Value.str (Str.ofString "ttl") 509] }) ::
  (nat_lit 240, { cls := Value.type "dict", data := Data.dict #[{ hash := PyData.keyHash P (Str.ofString "__module__"), key := Value.str (Str.ofString "__module__") 435, val := Value.str (Str.ofString "thinstack.ip_header") 422 }, { hash := PyData.keyHash P (Str.ofString "__firstlineno__"), key := Value.str (Str.ofString "__firstlineno__") 439, val := Value.int 85 438 }, { hash := PyData.keyHash P (Str.ofString "__init__"), key := Value.str (Str.ofString "__init__") 461, val := Value.ref 203 }, { hash := PyData.keyHash P (Str.ofString "size"), key := Value.str (Str.ofString "size") 468, val := Value.ref 210 }, { hash := PyData.keyHash P (Str.ofString "is_fragment"), key := Value.str (Str.ofString "is_fragment") 475, val := Value.ref 217 }, { hash := PyData.keyHash P (Str.ofString "is_first"), key := Value.str (Str.ofString "is_first") 482, val := Value.ref 224 }, { hash := PyData.keyHash P (Str.ofString "part"), key := Value.str (Str.ofString "part") 492, val := Value.ref 231 }, { hash := PyData.keyHash P (Str.ofString "row"), key := Value.str (Str.ofString "row") 499, val := Value.ref 238 }, { hash := PyData.keyHash P (Str.ofString "__static_attributes__"), key := Value.str (Str.ofString "__static_attributes__") 510, val := Value.ref 239 }, { hash := PyData.keyHash P (Str.ofString "__dict__"), key := Value.str (Str.ofString "__dict__") 512, val := Value.ref 242 }, { hash := PyData.keyHash P (Str.ofString "__weakref__"), key := Value.str (Str.ofString "__weakref__") 514, val := Value.ref 243 }, { hash := PyData.keyHash P (Str.ofString "__doc__"), key := Value.str (Str.ofString "__doc__") 515, val := Value.none }] 4 }) ::
  (nat_lit 241, { cls := Value.type "type", data := Data.cls { name := Str.ofString "IpHeader", bases := [Value.type "object"], mro := [Value.ref 241, Value.type "object"], ns := 240, qualname := Str.ofString "IpHeader" }, slots := #[none, none, some (Value.str (Str.ofString "IpHeader") 428), some (Value.str (Str.ofString "IpHeader") 436), some (Value.builtin "object.__new__"), some (Value.bool Bool.true)] }) ::
  (nat_lit 242, { cls := Value.type "getset_descriptor", data := Data.fields #[Value.str (Str.ofString "__dict__") 511, Value.ref 241, Value.builtin "function.__dict__", Value.builtin "function.__dict__#set"] }) ::
  (nat_lit 243, { cls := Value.type "getset_descriptor", data := Data.fields #[Value.str (Str.ofString "__weakref__") 513, Value.ref 241, Value.builtin "ExceptionGroup.__weakref__", Value.none] }) ::
  (nat_lit 246, { cls := Value.type "tuple", data := Data.seq #[] }) ::
  (nat_lit 248, { cls := Value.type "tuple", data := Data.seq #[Value.str (Str.ofString "address") 529] }) ::
  (nat_lit 249, { cls := Value.type "tuple", data := Data.seq #[] }) ::
  (nat_lit 251, { cls := Value.type "code", data := Data.fields #[Value.str (Str.ofString "is_group") 526, Value.str (Str.ofString "is_group") 527, Value.str (Str.ofString "/claim/cut.py") 528, Value.int 116 0, Value.int 1 0, Value.int 0 0, Value.int 0 0, Value.int 3 0, Value.ref 246, Value.bool Bool.true, Value.int 181 0, Value.ref 247, Value.none, Value.ref 248, Value.ref 249, Value.ref 250, Value.int 530 0, Value.int 116 0, Value.str (Str.ofString "/claim/cut.py") 531] }) ::
  (nat_lit 252, fnObj (st9 33) (Str.ofString "is_group") (Value.none) (Value.none) (Value.none) (Value.str (Str.ofString "thinstack.icmp_rules") 518) (none) (Value.ref 251) (Value.none) (0) ) ::
  (nat_lit 253, { cls := Value.type "tuple", data := Data.seq #[] }) ::
  (nat_lit 255, { cls := Value.type "tuple", data := Data.seq #[Value.str (Str.ofString "address") 536] }) ::
  (nat_lit 256, { cls := Value.type "tuple", data := Data.seq #[] }) ::
  (nat_lit 258, { cls := Value.type "code", data := Data.fields #[Value.str (Str.ofString "is_one_host") 533, Value.str (Str.ofString "is_one_host") 534, Value.str (Str.ofString "/claim/cut.py") 535, Value.int 118 0, Value.int 1 0, Value.int 0 0, Value.int 0 0, Value.int 3 0, Value.ref 253, Value.bool Bool.true, Value.int 181 0, Value.ref 254, Value.none, Value.ref 255, Value.ref 256, Value.ref 257, Value.int 537 0, Value.int 118 0, Value.str (Str.ofString "/claim/cut.py") 538] }) ::
  (nat_lit 259, fnObj (st9 34) (Str.ofString "is_one_host") (Value.none) (Value.none) (Value.none) (Value.str (Str.ofString "thinstack.icmp_rules") 518) (none) (Value.ref 258) (Value.none) (0) ) ::
  (nat_lit 260, { cls := Value.type "tuple", data := Data.seq #[] }) ::
  (nat_lit 262, { cls := Value.type "tuple", data := Data.seq #[Value.str (Str.ofString "header") 543, Value.str (Str.ofString "payload") 544] }) ::
  (nat_lit 263, { cls := Value.type "tuple", data := Data.seq #[] }) ::
  (nat_lit 265, { cls := Value.type "code", data := Data.fields #[Value.str (Str.ofString "carries_error") 540, Value.str (Str.ofString "carries_error") 541, Value.str (Str.ofString "/claim/cut.py") 542, Value.int 120 0, Value.int 2 0, Value.int 0 0, Value.int 0 0, Value.int 3 0, Value.ref 260, Value.bool Bool.true, Value.int 181 0, Value.ref 261, Value.none, Value.ref 262, Value.ref 263, Value.ref 264, Value.int 545 0, Value.int 120 0, Value.str (Str.ofString "/claim/cut.py") 546] }) ::
  (nat_lit 266, fnObj (st9 35) (Str.ofString "carries_error") (Value.none) (Value.none) (Value.none) (Value.str (Str.ofString "thinstack.icmp_rules") 518) (none) (Value.ref 265) (Value.none) (0) ) ::
  (nat_lit 267, { cls := Value.type "tuple", data := Data.seq #[] }) ::
  (nat_lit 269, { cls := Value.type "tuple", data := Data.seq #[Value.str (Str.ofString "message") 551] }) ::
  (nat_lit 270, { cls := Value.type "tuple", data := Data.seq #[] }) ::
  (nat_lit 272, { cls := Value.type "code", data := Data.fields #[Value.str (Str.ofString "told_size") 548, Value.str (Str.ofString "told_size") 549, Value.str (Str.ofString "/claim/cut.py") 550, Value.int 124 0, Value.int 1 0, Value.int 0 0, Value.int 0 0, Value.int 3 0, Value.ref 267, Value.bool Bool.true, Value.int 181 0, Value.ref 268, Value.none, Value.ref 269, Value.ref 270, Value.ref 271, Value.int 552 0, Value.int 124 0, Value.str (Str.ofString "/claim/cut.py") 553] }) ::
  (nat_lit 273, fnObj (st9 36) (Str.ofString "told_size") (Value.none) (Value.none) (Value.none) (Value.str (Str.ofString "thinstack.icmp_rules") 518) (none) (Value.ref 272) (Value.none) (0) ) ::
  (nat_lit 281, { cls := Value.type "tuple", data := Data.seq #[] }) ::
  (nat_lit 283, { cls := Value.type "tuple", data := Data.seq #[Value.str (Str.ofString "self") 570, Value.str (Str.ofString "most") 571, Value.str (Str.ofString "refill_after") 572] }) ::
  (nat_lit 284, { cls := Value.type "tuple", data := Data.seq #[] }) ::
  (nat_lit 286, { cls := Value.type "code", data := Data.fields #[Value.str (Str.ofString "__init__") 567, Value.str (Str.ofString "ErrorBudget.__init__") 568, Value.str (Str.ofString "/claim/cut.py") 569, Value.int 128 0, Value.int 3 0, Value.int 0 0, Value.int 0 0, Value.int 3 0, Value.ref 281, Value.bool Bool.true, Value.int 181 0, Value.ref 282, Value.none, Value.ref 283, Value.ref 284, Value.ref 285, Value.int 573 0, Value.int 128 0, Value.str (Str.ofString "/claim/cut.py") 574] }) ::
  (nat_lit 287, fnObj (in9 37 0) (Str.ofString "ErrorBudget.__init__") (Value.none) (Value.none) (Value.none) (Value.str (Str.ofString "thinstack.icmp_rules") 518) (none) (Value.ref 286) (Value.none) (0) ) ::
  (nat_lit 288, { cls := Value.type "tuple", data := Data.seq #[] }) ::
  (nat_lit 290, { cls := Value.type "tuple", data := Data.seq #[Value.str (Str.ofString "self") 579, Value.str (Str.ofString "now") 580, Value.str (Str.ofString "many") 581] }) ::
  (nat_lit 291, { cls := Value.type "tuple", data := Data.seq #[] }) ::
  (nat_lit 293, { cls := Value.type "code", data := Data.fields #[Value.str (Str.ofString "refill") 576, Value.str (Str.ofString "ErrorBudget.refill") 577, Value.str (Str.ofString "/claim/cut.py") 578, Value.int 134 0, Value.int 2 0, Value.int 0 0, Value.int 0 0, Value.int 3 0, Value.ref 288, Value.bool Bool.true, Value.int 181 0, Value.ref 289, Value.none, Value.ref 290, Value.ref 291, Value.ref 292, Value.int 582 0, Value.int 134 0, Value.str (Str.ofString "/claim/cut.py") 583] }) ::
  (nat_lit 294, fnObj (in9 37 1) (Str.ofString "ErrorBudget.refill") (Value.none) (Value.none) (Value.none) (Value.str (Str.ofString "thinstack.icmp_rules") 518) (none) (Value.ref 293) (Value.none) (0) ) ::
  (nat_lit 295, { cls := Value.type "tuple", data := Data.seq #[] }) ::
  (nat_lit 297, { cls := Value.type "tuple", data := Data.seq #[Value.str (Str.ofString "self") 588, Value.str (Str.ofString "now") 589] }) ::
  (nat_lit 298, { cls := Value.type "tuple", data := Data.seq #[] }) ::
  (nat_lit 300, { cls := Value.type "code", data := Data.fields #[Value.str (Str.ofString "take") 585, Value.str (Str.ofString "ErrorBudget.take") 586, Value.str (Str.ofString "/claim/cut.py") 587, Value.int 146 0, Value.int 2 0, Value.int 0 0, Value.int 0 0, Value.int 3 0, Value.ref 295, Value.bool Bool.true, Value.int 181 0, Value.ref 296, Value.none, Value.ref 297, Value.ref 298, Value.ref 299, Value.int 590 0, Value.int 146 0, Value.str (Str.ofString "/claim/cut.py") 591] }) ::
  (nat_lit 301, fnObj (in9 37 2) (Str.ofString "ErrorBudget.take") (Value.none) (Value.none) (Value.none) (Value.str (Str.ofString "thinstack.icmp_rules") 518) (none) (Value.ref 300) (Value.none) (0) ) ::
  (nat_lit 302, { cls := Value.type "tuple", data := Data.seq #[Value.str (Str.ofString "left") 593, Value.str (Str.ofString "most") 594, Value.str (Str.ofString "refill_after") 595, Value.str (Str.ofString "since") 596] }) ::
  (nat_lit 303, { cls := Value.type "dict", data := Data.dict #[{ hash := PyData.keyHash P (Str.ofString "__module__"), key := Value.str (Str.ofString "__module__") 562, val := Value.str (Str.ofString "thinstack.icmp_rules") 518 }, { hash := PyData.keyHash P (Str.ofString "__firstlineno__"), key := Value.str (Str.ofString "__firstlineno__") 566, val := Value.int 126 565 }, { hash := PyData.keyHash P (Str.ofString "__init__"), key := Value.str (Str.ofString "__init__") 575, val := Value.ref 287 }, { hash := PyData.keyHash P (Str.ofString "refill"), key := Value.str (Str.ofString "refill") 584, val := Value.ref 294 }, { hash := PyData.keyHash P (Str.ofString "take"), key := Value.str (Str.ofString "take") 592, val := Value.ref 301 }, { hash := PyData.keyHash P (Str.ofString "__static_attributes__"), key := Value.str (Str.ofString "__static_attributes__") 597, val := Value.ref 302 }, { hash := PyData.keyHash P (Str.ofString "__dict__"), key := Value.str (Str.ofString "__dict__") 599, val := Value.ref 305 }, { hash := PyData.keyHash P (Str.ofString "__weakref__"), key := Value.str (Str.ofString "__weakref__") 601, val := Value.ref 306 }, { hash := PyData.keyHash P (Str.ofString "__doc__"), key := Value.str (Str.ofString "__doc__") 602, val := Value.none }] 4 }) ::
  (nat_lit 304, { cls := Value.type "type", data := Data.cls { name := Str.ofString "ErrorBudget", bases := [Value.type "object"], mro := [Value.ref 304, Value.type "object"], ns := 303, qualname := Str.ofString "ErrorBudget" }, slots := #[none, none, some (Value.str (Str.ofString "ErrorBudget") 555), some (Value.str (Str.ofString "ErrorBudget") 563), some (Value.builtin "object.__new__"), some (Value.bool Bool.true)] }) ::
  (nat_lit 305, { cls := Value.type "getset_descriptor", data := Data.fields #[Value.str (Str.ofString "__dict__") 598, Value.ref 304, Value.builtin "function.__dict__", Value.builtin "function.__dict__#set"] }) ::
  (nat_lit 306, { cls := Value.type "getset_descriptor", data := Data.fields #[Value.str (Str.ofString "__weakref__") 600, Value.ref 304, Value.builtin "ExceptionGroup.__weakref__", Value.none] }) ::
  (nat_lit 309, { cls := Value.type "tuple", data := Data.seq #[] }) ::
  (nat_lit 311, { cls := Value.type "tuple", data := Data.seq #[Value.str (Str.ofString "script") 610, Value.str (Str.ofString "k") 611, Value.str (Str.ofString "cell") 612, Value.str (Str.ofString "big") 613, Value.str (Str.ofString "mixed") 614] }) ::
  (nat_lit 312, { cls := Value.type "tuple", data := Data.seq #[] }) ::
  (nat_lit 314, { cls := Value.type "code", data := Data.fields #[Value.str (Str.ofString "_law_pool") 607, Value.str (Str.ofString "_law_pool") 608, Value.str (Str.ofString "/claim/cut.py") 609, Value.int 153 0, Value.int 2 0, Value.int 0 0, Value.int 0 0, Value.int 3 0, Value.ref 309, Value.bool Bool.true, Value.int 181 0, Value.ref 310, Value.none, Value.ref 311, Value.ref 312, Value.ref 313, Value.int 615 0, Value.int 153 0, Value.str (Str.ofString "/claim/cut.py") 616] }) ::
  (nat_lit 315, fnObj (st9 39) (Str.ofString "_law_pool") (Value.none) (Value.none) (Value.none) (Value.str (Str.ofString "law_on0342_01") 605) (none) (Value.ref 314) (Value.none) (0) ) ::
  (nat_lit 316, { cls := Value.type "tuple", data := Data.seq #[] }) ::
  (nat_lit 318, { cls := Value.type "tuple", data := Data.seq #[Value.str (Str.ofString "source") 621, Value.str (Str.ofString "top") 622, Value.str (Str.ofString "drawn") 623] }) ::
  (nat_lit 319, { cls := Value.type "tuple", data := Data.seq #[] }) ::
  (nat_lit 321, { cls := Value.type "code", data := Data.fields #[Value.str (Str.ofString "_law_take") 618, Value.str (Str.ofString "_law_take") 619, Value.str (Str.ofString "/claim/cut.py") 620, Value.int 160 0, Value.int 2 0, Value.int 0 0, Value.int 0 0, Value.int 3 0, Value.ref 316, Value.bool Bool.true, Value.int 181 0, Value.ref 317, Value.none, Value.ref 318, Value.ref 319, Value.ref 320, Value.int 624 0, Value.int 160 0, Value.str (Str.ofString "/claim/cut.py") 625] }) ::
  (nat_lit 322, fnObj (st9 40) (Str.ofString "_law_take") (Value.none) (Value.none) (Value.none) (Value.str (Str.ofString "law_on0342_01") 605) (none) (Value.ref 321) (Value.none) (0) ) ::
  (nat_lit 323, { cls := Value.type "tuple", data := Data.seq #[] }) ::
  (nat_lit 325, { cls := Value.type "tuple", data := Data.seq #[Value.str (Str.ofString "source") 630, Value.str (Str.ofString "things") 631] }) ::
  (nat_lit 326, { cls := Value.type "tuple", data := Data.seq #[] }) ::
  (nat_lit 328, { cls := Value.type "code", data := Data.fields #[Value.str (Str.ofString "_law_one") 627, Value.str (Str.ofString "_law_one") 628, Value.str (Str.ofString "/claim/cut.py") 629, Value.int 167 0, Value.int 2 0, Value.int 0 0, Value.int 0 0, Value.int 3 0, Value.ref 323, Value.bool Bool.true, Value.int 181 0, Value.ref 324, Value.none, Value.ref 325, Value.ref 326, Value.ref 327, Value.int 632 0, Value.int 167 0, Value.str (Str.ofString "/claim/cut.py") 633] }) ::
  (nat_lit 329, fnObj (st9 41) (Str.ofString "_law_one") (Value.none) (Value.none) (Value.none) (Value.str (Str.ofString "law_on0342_01") 605) (none) (Value.ref 328) (Value.none) (0) ) ::
  (nat_lit 330, { cls := Value.type "tuple", data := Data.seq #[] }) ::
  (nat_lit 332, { cls := Value.type "tuple", data := Data.seq #[Value.str (Str.ofString "source") 638, Value.str (Str.ofString "first") 639] }) ::
  (nat_lit 333, { cls := Value.type "tuple", data := Data.seq #[] }) ::
  (nat_lit 335, { cls := Value.type "code", data := Data.fields #[Value.str (Str.ofString "_law_address") 635, Value.str (Str.ofString "_law_address") 636, Value.str (Str.ofString "/claim/cut.py") 637, Value.int 169 0, Value.int 1 0, Value.int 0 0, Value.int 0 0, Value.int 3 0, Value.ref 330, Value.bool Bool.true, Value.int 181 0, Value.ref 331, Value.none, Value.ref 332, Value.ref 333, Value.ref 334, Value.int 640 0, Value.int 169 0, Value.str (Str.ofString "/claim/cut.py") 641] }) ::
  (nat_lit 336, fnObj (st9 42) (Str.ofString "_law_address") (Value.none) (Value.none) (Value.none) (Value.str (Str.ofString "law_on0342_01") 605) (none) (Value.ref 335) (Value.none) (0) ) ::
  (nat_lit 337, { cls := Value.type "tuple", data := Data.seq #[] }) ::
  (nat_lit 339, { cls := Value.type "tuple", data := Data.seq #[Value.str (Str.ofString "octets") 646, Value.str (Str.ofString "total") 647, Value.str (Str.ofString "padded") 648, Value.str (Str.ofString "k") 649] }) ::
  (nat_lit 340, { cls := Value.type "tuple", data := Data.seq #[] }) ::
  (nat_lit 342, { cls := Value.type "code", data := Data.fields #[Value.str (Str.ofString "_law_words") 643, Value.str (Str.ofString "_law_words") 644, Value.str (Str.ofString "/claim/cut.py") 645, Value.int 172 0, Value.int 1 0, Value.int 0 0, Value.int 0 0, Value.int 3 0, Value.ref 337, Value.bool Bool.true, Value.int 181 0, Value.ref 338, Value.none, Value.ref 339, Value.ref 340, Value.ref 341, Value.int 650 0, Value.int 172 0, Value.str (Str.ofString "/claim/cut.py") 651] }) ::
  (nat_lit 343, fnObj (st9 43) (Str.ofString "_law_words") (Value.none) (Value.none) (Value.none) (Value.str (Str.ofString "law_on0342_01") 605) (none) (Value.ref 342) (Value.none) (0) ) ::
  (nat_lit 344, { cls := Value.type "tuple", data := Data.seq #[] }) ::
  (nat_lit 346, { cls := Value.type "tuple", data := Data.seq #[Value.str (Str.ofString "call") 656] }) ::
  (nat_lit 347, { cls := Value.type "tuple", data := Data.seq #[] }) ::
  (nat_lit 349, { cls := Value.type "code", data := Data.fields #[Value.str (Str.ofString "_law_refused") 653, Value.str (Str.ofString "_law_refused") 654, Value.str (Str.ofString "/claim/cut.py") 655, Value.int 180 0, Value.int 1 0, Value.int 0 0, Value.int 0 0, Value.int 3 0, Value.ref 344, Value.bool Bool.true, Value.int 181 0, Value.ref 345, Value.none, Value.ref 346, Value.ref 347, Value.ref 348, Value.int 657 0, Value.int 180 0, Value.str (Str.ofString "/claim/cut.py") 658] }) ::
  (nat_lit 350, fnObj (st9 44) (Str.ofString "_law_refused") (Value.none) (Value.none) (Value.none) (Value.str (Str.ofString "law_on0342_01") 605) (none) (Value.ref 349) (Value.none) (0) ) ::
  (nat_lit 351, { cls := Value.type "tuple", data := Data.seq #[] }) ::
  (nat_lit 354, { cls := Value.type "code", data := Data.fields #[Value.str (Str.ofString "_law_packet_right") 660, Value.str (Str.ofString "_law_packet_right") 661, Value.str (Str.ofString "/claim/cut.py") 662, Value.int 186 0, Value.int 1 0, Value.int 0 0, Value.int 0 0, Value.int 3 0, Value.ref 351, Value.bool Bool.true, Value.int 181 0, Value.ref 352, Value.none, Value.none, Value.none, Value.ref 353, Value.int 663 0, Value.int 186 0, Value.str (Str.ofString "/claim/cut.py") 664] }) ::
  (nat_lit 355, fnObj (st9 45) (Str.ofString "_law_packet_right") (Value.none) (Value.none) (Value.none) (Value.str (Str.ofString "law_on0342_01") 605) (none) (Value.ref 354) (Value.none) (0) ) ::
  (nat_lit 356, { cls := Value.type "tuple", data := Data.seq #[] }) ::
  (nat_lit 358, { cls := Value.type "tuple", data := Data.seq #[Value.str (Str.ofString "source") 669, Value.str (Str.ofString "most") 670, Value.str (Str.ofString "every") 671, Value.str (Str.ofString "budget") 672, Value.str (Str.ofString "now") 673, Value.str (Str.ofString "left") 674, Value.str (Str.ofString "waited") 675, Value.str (Str.ofString "turn") 676, Value.str (Str.ofString "tick") 677, Value.str (Str.ofString "due") 678] }) ::
  (nat_lit 359, { cls := Value.type "tuple", data := Data.seq #[] }) ::
  (nat_lit 361, { cls := Value.type "code", data := Data.fields #[Value.str (Str.ofString "_law_budget_right") 666, Value.str (Str.ofString "_law_budget_right") 667, Value.str (Str.ofString "/claim/cut.py") 668, Value.int 198 0, Value.int 1 0, Value.int 0 0, Value.int 0 0, Value.int 3 0, Value.ref 356, Value.bool Bool.true, Value.int 181 0, Value.ref 357, Value.none, Value.ref 358, Value.ref 359, Value.ref 360, Value.int 679 0, Value.int 198 0, Value.str (Str.ofString "/claim/cut.py") 680] }) ::
  (nat_lit 362, fnObj (st9 46) (Str.ofString "_law_budget_right") (Value.none) (Value.none) (Value.none) (Value.str (Str.ofString "law_on0342_01") 605) (none) (Value.ref 361) (Value.none) (0) ) ::
  (nat_lit 363, { cls := Value.type "tuple", data := Data.seq #[] }) ::
  (nat_lit 365, { cls := Value.type "tuple", data := Data.seq #[Value.str (Str.ofString "script") 685, Value.str (Str.ofString "k") 686, Value.str (Str.ofString "source") 687, Value.str (Str.ofString "turn") 688, Value.str (Str.ofString "address") 689, Value.str (Str.ofString "first") 690, Value.str (Str.ofString "budget") 691] }) ::
  (nat_lit 366, { cls := Value.type "tuple", data := Data.seq #[Value.str (Str.ofString "number") 692] }) ::
  (nat_lit 368, { cls := Value.type "code", data := Data.fields #[Value.str (Str.ofString "law") 682, Value.str (Str.ofString "law") 683, Value.str (Str.ofString "/claim/cut.py") 684, Value.int 217 0, Value.int 1 0, Value.int 0 0, Value.int 0 0, Value.int 3 0, Value.ref 363, Value.bool Bool.true, Value.int 181 0, Value.ref 364, Value.none, Value.ref 365, Value.ref 366, Value.ref 367, Value.int 693 0, Value.int 217 0, Value.str (Str.ofString "/claim/cut.py") 694] }) ::
  (nat_lit 369, fnObj (st9 47) (Str.ofString "law") (Value.none) (Value.none) (Value.none) (Value.str (Str.ofString "law_on0342_01") 605) (none) (Value.ref 368) (Value.none) (0) ) :: []
noncomputable def as9 : List Addr := [nat_lit 2, nat_lit 3, nat_lit 15, nat_lit 17, nat_lit 18, nat_lit 20, nat_lit 21, nat_lit 22, nat_lit 29, nat_lit 31, nat_lit 32, nat_lit 34, nat_lit 35, nat_lit 36, nat_lit 37, nat_lit 38, nat_lit 39, nat_lit 42, nat_lit 49, nat_lit 50, nat_lit 51, nat_lit 54, nat_lit 56, nat_lit 57, nat_lit 59, nat_lit 60, nat_lit 61, nat_lit 63, nat_lit 64, nat_lit 66, nat_lit 67, nat_lit 68, nat_lit 70, nat_lit 71, nat_lit 73, nat_lit 74, nat_lit 75, nat_lit 77, nat_lit 78, nat_lit 80, nat_lit 81, nat_lit 82, nat_lit 84, nat_lit 85, nat_lit 87, nat_lit 88, nat_lit 89, nat_lit 90, nat_lit 92, nat_lit 93, nat_lit 95, nat_lit 96, nat_lit 97, nat_lit 98, nat_lit 100, nat_lit 101, nat_lit 103, nat_lit 104, nat_lit 112, nat_lit 114, nat_lit 115, nat_lit 117, nat_lit 118, nat_lit 119, nat_lit 121, nat_lit 122, nat_lit 124, nat_lit 125, nat_lit 126, nat_lit 128, nat_lit 129, nat_lit 131, nat_lit 132, nat_lit 133, nat_lit 135, nat_lit 136, nat_lit 138, nat_lit 139, nat_lit 140, nat_lit 142, nat_lit 143, nat_lit 145, nat_lit 146, nat_lit 147, nat_lit 149, nat_lit 150, nat_lit 152, nat_lit 153, nat_lit 154, nat_lit 155, nat_lit 156, nat_lit 157, nat_lit 158, nat_lit 161, nat_lit 163, nat_lit 164, nat_lit 166, nat_lit 167, nat_lit 168, nat_lit 170, nat_lit 171, nat_lit 173, nat_lit 174, nat_lit 175, nat_lit 177, nat_lit 178, nat_lit 180, nat_lit 181, nat_lit 182, nat_lit 184, nat_lit 185, nat_lit 187, nat_lit 188, nat_lit 196, nat_lit 197, nat_lit 199, nat_lit 200, nat_lit 202, nat_lit 203, nat_lit 204, nat_lit 206, nat_lit 207, nat_lit 209, nat_lit 210, nat_lit 211, nat_lit 213, nat_lit 214, nat_lit 216, nat_lit 217, nat_lit 218, nat_lit 220, nat_lit 221, nat_lit 223, nat_lit 224, nat_lit 225, nat_lit 227, nat_lit 228, nat_lit 230, nat_lit 231, nat_lit 232, nat_lit 234, nat_lit 235, nat_lit 237, nat_lit 238, nat_lit 239, nat_lit 240, nat_lit 241, nat_lit 242, nat_lit 243, nat_lit 246, nat_lit 248, nat_lit 249, nat_lit 251, nat_lit 252, nat_lit 253, nat_lit 255, nat_lit 256, nat_lit 258, nat_lit 259, nat_lit 260, nat_lit 262, nat_lit 263, nat_lit 265, nat_lit 266, nat_lit 267, nat_lit 269, nat_lit 270, nat_lit 272, nat_lit 273, nat_lit 281, nat_lit 283, nat_lit 284, nat_lit 286, nat_lit 287, nat_lit 288, nat_lit 290, nat_lit 291, nat_lit 293, nat_lit 294, nat_lit 295, nat_lit 297, nat_lit 298, nat_lit 300, nat_lit 301, nat_lit 302, nat_lit 303, nat_lit 304, nat_lit 305, nat_lit 306, nat_lit 309, nat_lit 311, nat_lit 312, nat_lit 314, nat_lit 315, nat_lit 316, nat_lit 318, nat_lit 319, nat_lit 321, nat_lit 322, nat_lit 323, nat_lit 325, nat_lit 326, nat_lit 328, nat_lit 329, nat_lit 330, nat_lit 332, nat_lit 333, nat_lit 335, nat_lit 336, nat_lit 337, nat_lit 339, nat_lit 340, nat_lit 342, nat_lit 343, nat_lit 344, nat_lit 346, nat_lit 347, nat_lit 349, nat_lit 350, nat_lit 351, nat_lit 354, nat_lit 355, nat_lit 356, nat_lit 358, nat_lit 359, nat_lit 361, nat_lit 362, nat_lit 363, nat_lit 365, nat_lit 366, nat_lit 368, nat_lit 369]
theorem as9_eq (P : Params) : as9 = (K9 P).map (·.1) := by kernel_rfl
noncomputable abbrev H9 : Hook := kmHook K9 as9 as9_eq [364]
noncomputable def view9 : Program := PySem.W.view PySem.Challenge.pw_on0342_01 [0, 2, 3, 5, 6, 7, 8, 10, 11, 15, 16, 17, 18, 19, 20, 21, 22, 23, 24, 25, 27, 28, 29, 31, 32, 33, 34, 35, 36, 37, 39, 40, 41, 42, 43, 44, 45, 46, 47]
noncomputable abbrev loose9 : List Str := [Str.ofString "ones_sum", Str.ofString "checksum", Str.ofString "IpHeader", Str.ofString "FIRST_GROUP"]
noncomputable abbrev lv9 : List (Str × WData) := [(Str.ofString "FIRST_GROUP", WData.int 3758096384)]
noncomputable abbrev row9 : RowW := OpenRow.toRowW PySem.Challenge.rw_on0342_01.row
theorem law9 (h : PySem.Challenge.rw_on0342_01.row.wellSaid = true → PySem.Challenge.rw_on0342_01.row.Holds) : PySem.Challenge.rw_on0342_01.Holds := by
  o_law
  exact h (by assumption)

-- Left9
open PySem.Calls
noncomputable def fnObj0 (s : Stmt) (qual : Str) (dV kV doc pm : Value) (an : Option Addr) (cd ct : Value) (bl : Addr) : Obj := match s with
  | .FunctionDef name args body _ _ _ scope _ _ _ => { cls := .none, data := .func { name := name, qualname := qual, params := args, body := .stmts body, scope := scope, globals := 0, closure := [], defaults := dV, kwdefaults := kV, doc := doc, pyModule := pm, annotations := an, code := cd, closureTuple := ct, builtins := bl } }
  | _ => { cls := .none, data := .dict #[] 0 }
noncomputable def hdO11 (_ : Params) : Obj := { cls := Value.type "code", data := Data.fields #[Value.str (Str.ofString "<module>") 182, Value.str (Str.ofString "<module>") 183, Value.str (Str.ofString "/claim/cut.py") 184, Value.int 1 0, Value.int 0 0, Value.int 0 0, Value.int 0 0, Value.int 0 0, Value.ref 11, Value.bool Bool.false, Value.int 181 0, Value.ref 12, Value.none, Value.none, Value.none, Value.none, Value.int 185 0, Value.int 1 0, Value.str (Str.ofString "/claim/cut.py") 186] }
noncomputable def hdO12 (_ : Params) : Obj := { cls := Value.type "frame", slots := #[some (Value.ref 13), some (Value.ref 3), some (Value.ref 3), none, some (Value.str (Str.ofString "__main__") 164), none, some (Value.ref 0)] }
noncomputable def hdO15 (_ : Params) : Obj := { cls := Value.type "tuple", data := Data.seq #[Value.str (Str.ofString "k") 190] }
noncomputable def hdO16 (_ : Params) : Obj := fnObj0 (st9 0) (Str.ofString "_wall") (Value.none) (Value.none) (Value.none) (Value.none) (none) (Value.none) (Value.none) (0)
noncomputable def hdO17 (_ : Params) : Obj := { cls := Value.type "code", data := Data.fields #[Value.str (Str.ofString "_wall") 187, Value.str (Str.ofString "_wall") 188, Value.str (Str.ofString "/claim/cut.py") 189, Value.int 1 0, Value.int 1 0, Value.int 0 0, Value.int 0 0, Value.int 3 0, Value.ref 15, Value.bool Bool.true, Value.int 181 0, Value.ref 16, Value.none, Value.ref 17, Value.ref 18, Value.ref 19, Value.int 191 0, Value.int 1 0, Value.str (Str.ofString "/claim/cut.py") 192] }
noncomputable def hdO18 (_ : Params) : Obj := fnObj (st9 0) (Str.ofString "_wall") (Value.none) (Value.none) (Value.none) (Value.str (Str.ofString "__main__") 164) (none) (Value.ref 20) (Value.none) (0)
noncomputable def hdO20 (P : Params) : Obj := { cls := Value.none, data := Data.dict #[{ hash := PyData.keyHash P (Str.ofString "type.__subclasses__.Exception.0"), key := Value.str (Str.ofString "type.__subclasses__.Exception.0") 221, val := Value.int 38 0 }, { hash := PyData.keyHash P (Str.ofString "type.__subclasses__.Exception.n"), key := Value.str (Str.ofString "type.__subclasses__.Exception.n") 222, val := Value.int 1 0 }] 2 }
noncomputable def hdO23 (_ : Params) : Obj := { cls := Value.type "tuple", data := Data.seq #[Value.type "Exception"] }
noncomputable def hdO24 (_ : Params) : Obj := { cls := Value.type "builtin_function_or_method", data := Data.fields #[Value.builtin "type.__prepare__", Value.type "type"] }
noncomputable def hdO25 (P : Params) : Obj := { cls := Value.type "dict", data := Data.dict #[{ hash := PyData.keyHash P (Str.ofString "__module__"), key := Value.str (Str.ofString "__module__") 203, val := Value.str (Str.ofString "thinstack.errors") 194 }, { hash := PyData.keyHash P (Str.ofString "__qualname__"), key := Value.str (Str.ofString "__qualname__") 205, val := Value.str (Str.ofString "StackError") 204 }, { hash := PyData.keyHash P (Str.ofString "__firstlineno__"), key := Value.str (Str.ofString "__firstlineno__") 207, val := Value.int 5 206 }, { hash := PyData.keyHash P (Str.ofString "__init__"), key := Value.str (Str.ofString "__init__") 215, val := Value.ref 35 }, { hash := PyData.keyHash P (Str.ofString "__static_attributes__"), key := Value.str (Str.ofString "__static_attributes__") 217, val := Value.ref 36 }] 5 }
noncomputable def hdO26 (_ : Params) : Obj := { cls := Value.none, data := Data.fields #[Value.int 7 0, Value.int 4 0, Value.ref 34] }
noncomputable def hdO27 (_ : Params) : Obj := { cls := Value.type "code", data := Data.fields #[Value.str (Str.ofString "StackError") 198, Value.str (Str.ofString "StackError") 199, Value.str (Str.ofString "/claim/cut.py") 200, Value.int 5 0, Value.int 0 0, Value.int 0 0, Value.int 0 0, Value.int 0 0, Value.ref 25, Value.bool Bool.false, Value.int 181 0, Value.ref 26, Value.none, Value.none, Value.none, Value.none, Value.int 201 0, Value.int 5 0, Value.str (Str.ofString "/claim/cut.py") 202] }
noncomputable def hdO28 (_ : Params) : Obj := { cls := Value.type "frame", slots := #[some (Value.ref 27), some (Value.ref 3), some (Value.ref 24), none, some (Value.str (Str.ofString "thinstack.errors") 194), none, some (Value.ref 0)] }
noncomputable def hdO29 (_ : Params) : Obj := { cls := Value.type "tuple", data := Data.seq #[Value.str (Str.ofString "self") 211, Value.str (Str.ofString "message") 212] }
noncomputable def hdO30 (_ : Params) : Obj := fnObj0 (in9 2 0) (Str.ofString "StackError.__init__") (Value.none) (Value.none) (Value.none) (Value.none) (none) (Value.none) (Value.none) (0)
noncomputable def hdO31 (_ : Params) : Obj := { cls := Value.type "code", data := Data.fields #[Value.str (Str.ofString "__init__") 208, Value.str (Str.ofString "StackError.__init__") 209, Value.str (Str.ofString "/claim/cut.py") 210, Value.int 7 0, Value.int 2 0, Value.int 0 0, Value.int 0 0, Value.int 3 0, Value.ref 29, Value.bool Bool.true, Value.int 181 0, Value.ref 30, Value.none, Value.ref 31, Value.ref 32, Value.ref 33, Value.int 213 0, Value.int 7 0, Value.str (Str.ofString "/claim/cut.py") 214] }
noncomputable def hdO32 (_ : Params) : Obj := fnObj (in9 2 0) (Str.ofString "StackError.__init__") (Value.none) (Value.none) (Value.none) (Value.str (Str.ofString "thinstack.errors") 194) (none) (Value.ref 34) (Value.none) (0)
noncomputable def hdO33 (_ : Params) : Obj := { cls := Value.type "tuple", data := Data.seq #[Value.str (Str.ofString "message") 216] }
noncomputable def hdO34 (P : Params) : Obj := { cls := Value.type "dict", data := Data.dict #[{ hash := PyData.keyHash P (Str.ofString "__module__"), key := Value.str (Str.ofString "__module__") 203, val := Value.str (Str.ofString "thinstack.errors") 194 }, { hash := PyData.keyHash P (Str.ofString "__firstlineno__"), key := Value.str (Str.ofString "__firstlineno__") 207, val := Value.int 5 206 }, { hash := PyData.keyHash P (Str.ofString "__init__"), key := Value.str (Str.ofString "__init__") 215, val := Value.ref 35 }, { hash := PyData.keyHash P (Str.ofString "__static_attributes__"), key := Value.str (Str.ofString "__static_attributes__") 217, val := Value.ref 36 }, { hash := PyData.keyHash P (Str.ofString "__weakref__"), key := Value.str (Str.ofString "__weakref__") 219, val := Value.ref 39 }, { hash := PyData.keyHash P (Str.ofString "__doc__"), key := Value.str (Str.ofString "__doc__") 220, val := Value.none }] 3 }
noncomputable def hdO36 (_ : Params) : Obj := { cls := Value.type "getset_descriptor", data := Data.fields #[Value.str (Str.ofString "__weakref__") 218, Value.ref 38, Value.builtin "ExceptionGroup.__weakref__", Value.none] }
noncomputable def hdO37 (_ : Params) : Obj := { cls := Value.type "super", data := Data.fields #[Value.ref 38, Value.ref 38, Value.ref 38] }
noncomputable def hdO38 (_ : Params) : Obj := { cls := Value.type "builtin_function_or_method", data := Data.fields #[Value.builtin "object.__init_subclass__", Value.ref 38] }
noncomputable def hdO39 (P : Params) : Obj := { cls := Value.type "dict", data := Data.dict #[{ hash := PyData.keyHash P (Str.ofString "__name__"), key := Value.str (Str.ofString "__name__") 165, val := Value.str (Str.ofString "thinstack.errors") 194 }, { hash := PyData.keyHash P (Str.ofString "__doc__"), key := Value.str (Str.ofString "__doc__") 166, val := Value.none }, { hash := PyData.keyHash P (Str.ofString "__package__"), key := Value.str (Str.ofString "__package__") 167, val := Value.none }, { hash := PyData.keyHash P (Str.ofString "__loader__"), key := Value.str (Str.ofString "__loader__") 168, val := Value.builtin "__main__.__loader__#opaque" }, { hash := PyData.keyHash P (Str.ofString "__spec__"), key := Value.str (Str.ofString "__spec__") 169, val := Value.none }, { hash := PyData.keyHash P (Str.ofString "__annotations__"), key := Value.str (Str.ofString "__annotations__") 170, val := Value.ref 6 }, { hash := PyData.keyHash P (Str.ofString "__builtins__"), key := Value.str (Str.ofString "__builtins__") 171, val := Value.ref 4 }, { hash := PyData.keyHash P (Str.ofString "__file__"), key := Value.str (Str.ofString "__file__") 173, val := Value.str (Str.ofString "/claim/cut.py") 172 }, { hash := PyData.keyHash P (Str.ofString "__cached__"), key := Value.str (Str.ofString "__cached__") 174, val := Value.none }, { hash := PyData.keyHash P (Str.ofString "_wall"), key := Value.str (Str.ofString "_wall") 193, val := Value.ref 21 }, { hash := PyData.keyHash P (Str.ofString "StackError"), key := Value.str (Str.ofString "StackError") 224, val := Value.ref 38 }, { hash := PyData.keyHash P (Str.ofString "FormError"), key := Value.str (Str.ofString "FormError") 240, val := Value.ref 51 }] 12 }
noncomputable def hdO40 (_ : Params) : Obj := { cls := Value.none, data := Data.fields #[Value.int 1 0, Value.int 0 0, Value.ref 20, Value.int 5 0, Value.int 0 0, Value.ref 27, Value.int 9 0, Value.int 0 0, Value.ref 47] }
noncomputable def hdO41 (_ : Params) : Obj := { cls := Value.type "type", data := Data.cls { name := Str.ofString "StackError", bases := [Value.type "Exception"], mro := [Value.ref 38, Value.type "Exception", Value.type "BaseException", Value.type "object"], ns := 37, qualname := Str.ofString "StackError", subclasses := [Value.ref 51] }, slots := #[some (Value.ref 22), none, some (Value.str (Str.ofString "StackError") 196), some (Value.str (Str.ofString "StackError") 204), some (Value.builtin "Exception.__new__"), some (Value.bool Bool.true)] }
noncomputable def hdO42 (_ : Params) : Obj := { cls := Value.type "tuple", data := Data.seq #[Value.ref 38] }
noncomputable def hdO43 (P : Params) : Obj := { cls := Value.type "dict", data := Data.dict #[{ hash := PyData.keyHash P (Str.ofString "__module__"), key := Value.str (Str.ofString "__module__") 232, val := Value.str (Str.ofString "thinstack.errors") 194 }, { hash := PyData.keyHash P (Str.ofString "__qualname__"), key := Value.str (Str.ofString "__qualname__") 234, val := Value.str (Str.ofString "FormError") 233 }, { hash := PyData.keyHash P (Str.ofString "__firstlineno__"), key := Value.str (Str.ofString "__firstlineno__") 236, val := Value.int 9 235 }, { hash := PyData.keyHash P (Str.ofString "__static_attributes__"), key := Value.str (Str.ofString "__static_attributes__") 237, val := Value.ref 49 }] 4 }
noncomputable def hdO44 (_ : Params) : Obj := { cls := Value.type "code", data := Data.fields #[Value.str (Str.ofString "FormError") 227, Value.str (Str.ofString "FormError") 228, Value.str (Str.ofString "/claim/cut.py") 229, Value.int 9 0, Value.int 0 0, Value.int 0 0, Value.int 0 0, Value.int 0 0, Value.ref 45, Value.bool Bool.false, Value.int 181 0, Value.ref 46, Value.none, Value.none, Value.none, Value.none, Value.int 230 0, Value.int 9 0, Value.str (Str.ofString "/claim/cut.py") 231] }
noncomputable def hdO45 (_ : Params) : Obj := { cls := Value.type "frame", slots := #[some (Value.ref 47), some (Value.ref 3), some (Value.ref 44), none, some (Value.str (Str.ofString "thinstack.errors") 194), none, some (Value.ref 0)] }
noncomputable def hdO46 (P : Params) : Obj := { cls := Value.type "dict", data := Data.dict #[{ hash := PyData.keyHash P (Str.ofString "__module__"), key := Value.str (Str.ofString "__module__") 232, val := Value.str (Str.ofString "thinstack.errors") 194 }, { hash := PyData.keyHash P (Str.ofString "__firstlineno__"), key := Value.str (Str.ofString "__firstlineno__") 236, val := Value.int 9 235 }, { hash := PyData.keyHash P (Str.ofString "__static_attributes__"), key := Value.str (Str.ofString "__static_attributes__") 237, val := Value.ref 49 }, { hash := PyData.keyHash P (Str.ofString "__doc__"), key := Value.str (Str.ofString "__doc__") 238, val := Value.none }] 2 }
noncomputable def hdO47 (_ : Params) : Obj := { cls := Value.type "type", data := Data.cls { name := Str.ofString "FormError", bases := [Value.ref 38], mro := [Value.ref 51, Value.ref 38, Value.type "Exception", Value.type "BaseException", Value.type "object"], ns := 50, qualname := Str.ofString "FormError" }, slots := #[some (Value.ref 42), none, some (Value.str (Str.ofString "FormError") 225), some (Value.str (Str.ofString "FormError") 233), some (Value.builtin "Exception.__new__"), some (Value.bool Bool.true)] }
noncomputable def hdO48 (_ : Params) : Obj := { cls := Value.type "super", data := Data.fields #[Value.ref 51, Value.ref 51, Value.ref 51] }
noncomputable def hdO49 (_ : Params) : Obj := { cls := Value.type "builtin_function_or_method", data := Data.fields #[Value.builtin "object.__init_subclass__", Value.ref 51] }
noncomputable def hdO53 (_ : Params) : Obj := { cls := Value.type "tuple", data := Data.seq #[Value.str (Str.ofString "n") 246] }
noncomputable def hdO54 (_ : Params) : Obj := fnObj0 (st9 5) (Str.ofString "put16") (Value.none) (Value.none) (Value.none) (Value.none) (none) (Value.none) (Value.none) (0)
noncomputable def hdO55 (_ : Params) : Obj := { cls := Value.type "code", data := Data.fields #[Value.str (Str.ofString "put16") 243, Value.str (Str.ofString "put16") 244, Value.str (Str.ofString "/claim/cut.py") 245, Value.int 12 0, Value.int 1 0, Value.int 0 0, Value.int 0 0, Value.int 3 0, Value.ref 54, Value.bool Bool.true, Value.int 181 0, Value.ref 55, Value.none, Value.ref 56, Value.ref 57, Value.ref 58, Value.int 247 0, Value.int 12 0, Value.str (Str.ofString "/claim/cut.py") 248] }
noncomputable def hdO56 (_ : Params) : Obj := fnObj (st9 5) (Str.ofString "put16") (Value.none) (Value.none) (Value.none) (Value.str (Str.ofString "thinstack.octets") 241) (none) (Value.ref 59) (Value.none) (0)
noncomputable def hdO59 (_ : Params) : Obj := { cls := Value.type "tuple", data := Data.seq #[Value.str (Str.ofString "n") 253] }
noncomputable def hdO60 (_ : Params) : Obj := fnObj0 (st9 6) (Str.ofString "put32") (Value.none) (Value.none) (Value.none) (Value.none) (none) (Value.none) (Value.none) (0)
noncomputable def hdO61 (_ : Params) : Obj := { cls := Value.type "code", data := Data.fields #[Value.str (Str.ofString "put32") 250, Value.str (Str.ofString "put32") 251, Value.str (Str.ofString "/claim/cut.py") 252, Value.int 14 0, Value.int 1 0, Value.int 0 0, Value.int 0 0, Value.int 3 0, Value.ref 61, Value.bool Bool.true, Value.int 181 0, Value.ref 62, Value.none, Value.ref 63, Value.ref 64, Value.ref 65, Value.int 254 0, Value.int 14 0, Value.str (Str.ofString "/claim/cut.py") 255] }
noncomputable def hdO62 (_ : Params) : Obj := fnObj (st9 6) (Str.ofString "put32") (Value.none) (Value.none) (Value.none) (Value.str (Str.ofString "thinstack.octets") 241) (none) (Value.ref 66) (Value.none) (0)
noncomputable def hdO65 (_ : Params) : Obj := { cls := Value.type "tuple", data := Data.seq #[Value.str (Str.ofString "octets") 260, Value.str (Str.ofString "at") 261, Value.str (Str.ofString "size") 262] }
noncomputable def hdO66 (_ : Params) : Obj := fnObj0 (st9 7) (Str.ofString "need") (Value.none) (Value.none) (Value.none) (Value.none) (none) (Value.none) (Value.none) (0)
noncomputable def hdO67 (_ : Params) : Obj := { cls := Value.type "code", data := Data.fields #[Value.str (Str.ofString "need") 257, Value.str (Str.ofString "need") 258, Value.str (Str.ofString "/claim/cut.py") 259, Value.int 16 0, Value.int 3 0, Value.int 0 0, Value.int 0 0, Value.int 3 0, Value.ref 68, Value.bool Bool.true, Value.int 181 0, Value.ref 69, Value.none, Value.ref 70, Value.ref 71, Value.ref 72, Value.int 263 0, Value.int 16 0, Value.str (Str.ofString "/claim/cut.py") 264] }
noncomputable def hdO68 (_ : Params) : Obj := fnObj (st9 7) (Str.ofString "need") (Value.none) (Value.none) (Value.none) (Value.str (Str.ofString "thinstack.octets") 241) (none) (Value.ref 73) (Value.none) (0)
noncomputable def hdO71 (_ : Params) : Obj := { cls := Value.type "tuple", data := Data.seq #[Value.str (Str.ofString "octets") 269, Value.str (Str.ofString "at") 270] }
noncomputable def hdO72 (_ : Params) : Obj := fnObj0 (st9 8) (Str.ofString "get16") (Value.none) (Value.none) (Value.none) (Value.none) (none) (Value.none) (Value.none) (0)
noncomputable def hdO73 (_ : Params) : Obj := { cls := Value.type "code", data := Data.fields #[Value.str (Str.ofString "get16") 266, Value.str (Str.ofString "get16") 267, Value.str (Str.ofString "/claim/cut.py") 268, Value.int 19 0, Value.int 2 0, Value.int 0 0, Value.int 0 0, Value.int 3 0, Value.ref 75, Value.bool Bool.true, Value.int 181 0, Value.ref 76, Value.none, Value.ref 77, Value.ref 78, Value.ref 79, Value.int 271 0, Value.int 19 0, Value.str (Str.ofString "/claim/cut.py") 272] }
noncomputable def hdO74 (_ : Params) : Obj := fnObj (st9 8) (Str.ofString "get16") (Value.none) (Value.none) (Value.none) (Value.str (Str.ofString "thinstack.octets") 241) (none) (Value.ref 80) (Value.none) (0)
noncomputable def hdO79 (_ : Params) : Obj := { cls := Value.type "tuple", data := Data.seq #[Value.str (Str.ofString "total") 281] }
noncomputable def hdO80 (_ : Params) : Obj := fnObj0 (st9 11) (Str.ofString "fold") (Value.none) (Value.none) (Value.none) (Value.none) (none) (Value.none) (Value.none) (0)
noncomputable def hdO81 (_ : Params) : Obj := { cls := Value.type "code", data := Data.fields #[Value.str (Str.ofString "fold") 278, Value.str (Str.ofString "fold") 279, Value.str (Str.ofString "/claim/cut.py") 280, Value.int 24 0, Value.int 1 0, Value.int 0 0, Value.int 0 0, Value.int 3 0, Value.ref 82, Value.bool Bool.true, Value.int 181 0, Value.ref 83, Value.none, Value.ref 84, Value.ref 85, Value.ref 86, Value.int 282 0, Value.int 24 0, Value.str (Str.ofString "/claim/cut.py") 283] }
noncomputable def hdO82 (_ : Params) : Obj := fnObj (st9 11) (Str.ofString "fold") (Value.none) (Value.none) (Value.none) (Value.str (Str.ofString "thinstack.sums") 274) (none) (Value.ref 87) (Value.none) (0)
noncomputable def hdO85 (_ : Params) : Obj := { cls := Value.type "tuple", data := Data.seq #[Value.int 0 285] }
noncomputable def hdO86 (_ : Params) : Obj := { cls := Value.type "tuple", data := Data.seq #[Value.str (Str.ofString "octets") 289, Value.str (Str.ofString "begin") 290, Value.str (Str.ofString "total") 291, Value.str (Str.ofString "even") 292, Value.str (Str.ofString "at") 293] }
noncomputable def hdO87 (_ : Params) : Obj := fnObj0 (st9 12) (Str.ofString "ones_sum") (Value.none) (Value.none) (Value.none) (Value.none) (none) (Value.none) (Value.none) (0)
noncomputable def hdO88 (_ : Params) : Obj := { cls := Value.type "code", data := Data.fields #[Value.str (Str.ofString "ones_sum") 286, Value.str (Str.ofString "ones_sum") 287, Value.str (Str.ofString "/claim/cut.py") 288, Value.int 28 0, Value.int 2 0, Value.int 0 0, Value.int 0 0, Value.int 3 0, Value.ref 90, Value.bool Bool.true, Value.int 181 0, Value.ref 91, Value.none, Value.ref 92, Value.ref 93, Value.ref 94, Value.int 294 0, Value.int 28 0, Value.str (Str.ofString "/claim/cut.py") 295] }
noncomputable def hdO89 (_ : Params) : Obj := fnObj (st9 12) (Str.ofString "ones_sum") (Value.ref 89) (Value.none) (Value.none) (Value.str (Str.ofString "thinstack.sums") 274) (none) (Value.ref 95) (Value.none) (0)
noncomputable def hdO91 (_ : Params) : Obj := { cls := Value.none, data := Data.fields #[Value.int 1 0, Value.int 0 0, Value.ref 20, Value.int 5 0, Value.int 0 0, Value.ref 27, Value.int 9 0, Value.int 0 0, Value.ref 47, Value.int 12 0, Value.int 0 0, Value.ref 59, Value.int 14 0, Value.int 0 0, Value.ref 66, Value.int 16 0, Value.int 0 0, Value.ref 73, Value.int 19 0, Value.int 0 0, Value.ref 80, Value.int 24 0, Value.int 0 0, Value.ref 87, Value.int 28 0, Value.int 0 0, Value.ref 95, Value.int 36 0, Value.int 0 0, Value.ref 103] }
noncomputable def hdO92 (_ : Params) : Obj := { cls := Value.type "tuple", data := Data.seq #[Value.int 0 297] }
noncomputable def hdO93 (_ : Params) : Obj := { cls := Value.type "tuple", data := Data.seq #[Value.str (Str.ofString "octets") 301, Value.str (Str.ofString "begin") 302] }
noncomputable def hdO94 (_ : Params) : Obj := fnObj0 (st9 13) (Str.ofString "checksum") (Value.none) (Value.none) (Value.none) (Value.none) (none) (Value.none) (Value.none) (0)
noncomputable def hdO95 (_ : Params) : Obj := { cls := Value.type "code", data := Data.fields #[Value.str (Str.ofString "checksum") 298, Value.str (Str.ofString "checksum") 299, Value.str (Str.ofString "/claim/cut.py") 300, Value.int 36 0, Value.int 2 0, Value.int 0 0, Value.int 0 0, Value.int 3 0, Value.ref 98, Value.bool Bool.true, Value.int 181 0, Value.ref 99, Value.none, Value.ref 100, Value.ref 101, Value.ref 102, Value.int 303 0, Value.int 36 0, Value.str (Str.ofString "/claim/cut.py") 304] }
noncomputable def hdO96 (_ : Params) : Obj := fnObj (st9 13) (Str.ofString "checksum") (Value.ref 97) (Value.none) (Value.none) (Value.str (Str.ofString "thinstack.sums") 274) (none) (Value.ref 103) (Value.none) (0)
noncomputable def hdO103 (P : Params) : Obj := { cls := Value.type "dict", data := Data.dict #[{ hash := PyData.keyHash P (Str.ofString "__name__"), key := Value.str (Str.ofString "__name__") 165, val := Value.str (Str.ofString "thinstack.icmp") 306 }, { hash := PyData.keyHash P (Str.ofString "__doc__"), key := Value.str (Str.ofString "__doc__") 166, val := Value.none }, { hash := PyData.keyHash P (Str.ofString "__package__"), key := Value.str (Str.ofString "__package__") 167, val := Value.none }, { hash := PyData.keyHash P (Str.ofString "__loader__"), key := Value.str (Str.ofString "__loader__") 168, val := Value.builtin "__main__.__loader__#opaque" }, { hash := PyData.keyHash P (Str.ofString "__spec__"), key := Value.str (Str.ofString "__spec__") 169, val := Value.none }, { hash := PyData.keyHash P (Str.ofString "__annotations__"), key := Value.str (Str.ofString "__annotations__") 170, val := Value.ref 6 }, { hash := PyData.keyHash P (Str.ofString "__builtins__"), key := Value.str (Str.ofString "__builtins__") 171, val := Value.ref 4 }, { hash := PyData.keyHash P (Str.ofString "__file__"), key := Value.str (Str.ofString "__file__") 173, val := Value.str (Str.ofString "/claim/cut.py") 172 }, { hash := PyData.keyHash P (Str.ofString "__cached__"), key := Value.str (Str.ofString "__cached__") 174, val := Value.none }, { hash := PyData.keyHash P (Str.ofString "_wall"), key := Value.str (Str.ofString "_wall") 193, val := Value.ref 21 }, { hash := PyData.keyHash P (Str.ofString "StackError"), key := Value.str (Str.ofString "StackError") 224, val := Value.ref 38 }, { hash := PyData.keyHash P (Str.ofString "FormError"), key := Value.str (Str.ofString "FormError") 240, val := Value.ref 51 }, { hash := PyData.keyHash P (Str.ofString "put16"), key := Value.str (Str.ofString "put16") 249, val := Value.ref 60 }, { hash := PyData.keyHash P (Str.ofString "put32"), key := Value.str (Str.ofString "put32") 256, val := Value.ref 67 }, { hash := PyData.keyHash P (Str.ofString "need"), key := Value.str (Str.ofString "need") 265, val := Value.ref 74 }, { hash := PyData.keyHash P (Str.ofString "get16"), key := Value.str (Str.ofString "get16") 273, val := Value.ref 81 }, { hash := PyData.keyHash P (Str.ofString "ALL_ONES"), key := Value.str (Str.ofString "ALL_ONES") 277, val := Value.int 65535 276 }, { hash := PyData.keyHash P (Str.ofString "fold"), key := Value.str (Str.ofString "fold") 284, val := Value.ref 88 }, { hash := PyData.keyHash P (Str.ofString "ones_sum"), key := Value.str (Str.ofString "ones_sum") 296, val := Value.ref 96 }, { hash := PyData.keyHash P (Str.ofString "checksum"), key := Value.str (Str.ofString "checksum") 305, val := Value.ref 104 }, { hash := PyData.keyHash P (Str.ofString "UNREACHABLE"), key := Value.str (Str.ofString "UNREACHABLE") 309, val := Value.int 3 308 }, { hash := PyData.keyHash P (Str.ofString "SOURCE_QUENCH"), key := Value.str (Str.ofString "SOURCE_QUENCH") 311, val := Value.int 4 310 }, { hash := PyData.keyHash P (Str.ofString "REDIRECT"), key := Value.str (Str.ofString "REDIRECT") 313, val := Value.int 5 312 }, { hash := PyData.keyHash P (Str.ofString "EXCEEDED"), key := Value.str (Str.ofString "EXCEEDED") 315, val := Value.int 11 314 }, { hash := PyData.keyHash P (Str.ofString "PROBLEM"), key := Value.str (Str.ofString "PROBLEM") 317, val := Value.int 12 316 }, { hash := PyData.keyHash P (Str.ofString "HEAD_SIZE"), key := Value.str (Str.ofString "HEAD_SIZE") 319, val := Value.int 8 318 }] 26 }
noncomputable def hdO106 (P : Params) : Obj := { cls := Value.type "dict", data := Data.dict #[{ hash := PyData.keyHash P (Str.ofString "__module__"), key := Value.str (Str.ofString "__module__") 327, val := Value.str (Str.ofString "thinstack.icmp") 306 }, { hash := PyData.keyHash P (Str.ofString "__qualname__"), key := Value.str (Str.ofString "__qualname__") 329, val := Value.str (Str.ofString "IcmpMessage") 328 }, { hash := PyData.keyHash P (Str.ofString "__firstlineno__"), key := Value.str (Str.ofString "__firstlineno__") 331, val := Value.int 45 330 }, { hash := PyData.keyHash P (Str.ofString "__init__"), key := Value.str (Str.ofString "__init__") 342, val := Value.ref 118 }, { hash := PyData.keyHash P (Str.ofString "is_error"), key := Value.str (Str.ofString "is_error") 349, val := Value.ref 125 }, { hash := PyData.keyHash P (Str.ofString "is_echo"), key := Value.str (Str.ofString "is_echo") 356, val := Value.ref 132 }, { hash := PyData.keyHash P (Str.ofString "ident"), key := Value.str (Str.ofString "ident") 363, val := Value.ref 139 }, { hash := PyData.keyHash P (Str.ofString "number"), key := Value.str (Str.ofString "number") 370, val := Value.ref 146 }, { hash := PyData.keyHash P (Str.ofString "like"), key := Value.str (Str.ofString "like") 378, val := Value.ref 153 }, { hash := PyData.keyHash P (Str.ofString "__static_attributes__"), key := Value.str (Str.ofString "__static_attributes__") 383, val := Value.ref 154 }] 10 }
noncomputable def hdO107 (_ : Params) : Obj := { cls := Value.none, data := Data.fields #[Value.int 47 0, Value.int 4 0, Value.ref 117, Value.int 53 0, Value.int 4 0, Value.ref 124, Value.int 56 0, Value.int 4 0, Value.ref 131, Value.int 59 0, Value.int 4 0, Value.ref 138, Value.int 62 0, Value.int 4 0, Value.ref 145, Value.int 65 0, Value.int 4 0, Value.ref 152] }
noncomputable def hdO108 (_ : Params) : Obj := { cls := Value.type "code", data := Data.fields #[Value.str (Str.ofString "IcmpMessage") 322, Value.str (Str.ofString "IcmpMessage") 323, Value.str (Str.ofString "/claim/cut.py") 324, Value.int 45 0, Value.int 0 0, Value.int 0 0, Value.int 0 0, Value.int 0 0, Value.ref 108, Value.bool Bool.false, Value.int 181 0, Value.ref 109, Value.none, Value.none, Value.none, Value.none, Value.int 325 0, Value.int 45 0, Value.str (Str.ofString "/claim/cut.py") 326] }
noncomputable def hdO109 (_ : Params) : Obj := { cls := Value.type "frame", slots := #[some (Value.ref 110), some (Value.ref 3), some (Value.ref 107), none, some (Value.str (Str.ofString "thinstack.icmp") 306), none, some (Value.ref 0)] }
noncomputable def hdO110 (_ : Params) : Obj := { cls := Value.type "tuple", data := Data.seq #[Value.str (Str.ofString "self") 335, Value.str (Str.ofString "kind") 336, Value.str (Str.ofString "code") 337, Value.str (Str.ofString "rest") 338, Value.str (Str.ofString "payload") 339] }
noncomputable def hdO111 (_ : Params) : Obj := fnObj0 (in9 21 0) (Str.ofString "IcmpMessage.__init__") (Value.none) (Value.none) (Value.none) (Value.none) (none) (Value.none) (Value.none) (0)
noncomputable def hdO112 (_ : Params) : Obj := { cls := Value.type "code", data := Data.fields #[Value.str (Str.ofString "__init__") 332, Value.str (Str.ofString "IcmpMessage.__init__") 333, Value.str (Str.ofString "/claim/cut.py") 334, Value.int 47 0, Value.int 5 0, Value.int 0 0, Value.int 0 0, Value.int 3 0, Value.ref 112, Value.bool Bool.true, Value.int 181 0, Value.ref 113, Value.none, Value.ref 114, Value.ref 115, Value.ref 116, Value.int 340 0, Value.int 47 0, Value.str (Str.ofString "/claim/cut.py") 341] }
noncomputable def hdO113 (_ : Params) : Obj := fnObj (in9 21 0) (Str.ofString "IcmpMessage.__init__") (Value.none) (Value.none) (Value.none) (Value.str (Str.ofString "thinstack.icmp") 306) (none) (Value.ref 117) (Value.none) (0)
noncomputable def hdO114 (_ : Params) : Obj := { cls := Value.type "tuple", data := Data.seq #[Value.str (Str.ofString "self") 346] }
noncomputable def hdO115 (_ : Params) : Obj := fnObj0 (in9 21 1) (Str.ofString "IcmpMessage.is_error") (Value.none) (Value.none) (Value.none) (Value.none) (none) (Value.none) (Value.none) (0)
noncomputable def hdO116 (_ : Params) : Obj := { cls := Value.type "code", data := Data.fields #[Value.str (Str.ofString "is_error") 343, Value.str (Str.ofString "IcmpMessage.is_error") 344, Value.str (Str.ofString "/claim/cut.py") 345, Value.int 53 0, Value.int 1 0, Value.int 0 0, Value.int 0 0, Value.int 3 0, Value.ref 119, Value.bool Bool.true, Value.int 181 0, Value.ref 120, Value.none, Value.ref 121, Value.ref 122, Value.ref 123, Value.int 347 0, Value.int 53 0, Value.str (Str.ofString "/claim/cut.py") 348] }
noncomputable def hdO117 (_ : Params) : Obj := fnObj (in9 21 1) (Str.ofString "IcmpMessage.is_error") (Value.none) (Value.none) (Value.none) (Value.str (Str.ofString "thinstack.icmp") 306) (none) (Value.ref 124) (Value.none) (0)
noncomputable def hdO118 (_ : Params) : Obj := { cls := Value.type "tuple", data := Data.seq #[Value.str (Str.ofString "self") 353] }
noncomputable def hdO119 (_ : Params) : Obj := fnObj0 (in9 21 2) (Str.ofString "IcmpMessage.is_echo") (Value.none) (Value.none) (Value.none) (Value.none) (none) (Value.none) (Value.none) (0)
noncomputable def hdO120 (_ : Params) : Obj := { cls := Value.type "code", data := Data.fields #[Value.str (Str.ofString "is_echo") 350, Value.str (Str.ofString "IcmpMessage.is_echo") 351, Value.str (Str.ofString "/claim/cut.py") 352, Value.int 56 0, Value.int 1 0, Value.int 0 0, Value.int 0 0, Value.int 3 0, Value.ref 126, Value.bool Bool.true, Value.int 181 0, Value.ref 127, Value.none, Value.ref 128, Value.ref 129, Value.ref 130, Value.int 354 0, Value.int 56 0, Value.str (Str.ofString "/claim/cut.py") 355] }
noncomputable def hdO121 (_ : Params) : Obj := fnObj (in9 21 2) (Str.ofString "IcmpMessage.is_echo") (Value.none) (Value.none) (Value.none) (Value.str (Str.ofString "thinstack.icmp") 306) (none) (Value.ref 131) (Value.none) (0)
noncomputable def hdO122 (_ : Params) : Obj := { cls := Value.type "tuple", data := Data.seq #[Value.str (Str.ofString "self") 360] }
noncomputable def hdO123 (_ : Params) : Obj := fnObj0 (in9 21 3) (Str.ofString "IcmpMessage.ident") (Value.none) (Value.none) (Value.none) (Value.none) (none) (Value.none) (Value.none) (0)
noncomputable def hdO124 (_ : Params) : Obj := { cls := Value.type "code", data := Data.fields #[Value.str (Str.ofString "ident") 357, Value.str (Str.ofString "IcmpMessage.ident") 358, Value.str (Str.ofString "/claim/cut.py") 359, Value.int 59 0, Value.int 1 0, Value.int 0 0, Value.int 0 0, Value.int 3 0, Value.ref 133, Value.bool Bool.true, Value.int 181 0, Value.ref 134, Value.none, Value.ref 135, Value.ref 136, Value.ref 137, Value.int 361 0, Value.int 59 0, Value.str (Str.ofString "/claim/cut.py") 362] }
noncomputable def hdO125 (_ : Params) : Obj := fnObj (in9 21 3) (Str.ofString "IcmpMessage.ident") (Value.none) (Value.none) (Value.none) (Value.str (Str.ofString "thinstack.icmp") 306) (none) (Value.ref 138) (Value.none) (0)
noncomputable def hdO126 (_ : Params) : Obj := { cls := Value.type "tuple", data := Data.seq #[Value.str (Str.ofString "self") 367] }
noncomputable def hdO127 (_ : Params) : Obj := fnObj0 (in9 21 4) (Str.ofString "IcmpMessage.number") (Value.none) (Value.none) (Value.none) (Value.none) (none) (Value.none) (Value.none) (0)
noncomputable def hdO128 (_ : Params) : Obj := { cls := Value.type "code", data := Data.fields #[Value.str (Str.ofString "number") 364, Value.str (Str.ofString "IcmpMessage.number") 365, Value.str (Str.ofString "/claim/cut.py") 366, Value.int 62 0, Value.int 1 0, Value.int 0 0, Value.int 0 0, Value.int 3 0, Value.ref 140, Value.bool Bool.true, Value.int 181 0, Value.ref 141, Value.none, Value.ref 142, Value.ref 143, Value.ref 144, Value.int 368 0, Value.int 62 0, Value.str (Str.ofString "/claim/cut.py") 369] }
noncomputable def hdO129 (_ : Params) : Obj := fnObj (in9 21 4) (Str.ofString "IcmpMessage.number") (Value.none) (Value.none) (Value.none) (Value.str (Str.ofString "thinstack.icmp") 306) (none) (Value.ref 145) (Value.none) (0)
noncomputable def hdO130 (_ : Params) : Obj := { cls := Value.type "tuple", data := Data.seq #[Value.str (Str.ofString "self") 374, Value.str (Str.ofString "other") 375] }
noncomputable def hdO131 (_ : Params) : Obj := fnObj0 (in9 21 5) (Str.ofString "IcmpMessage.like") (Value.none) (Value.none) (Value.none) (Value.none) (none) (Value.none) (Value.none) (0)
noncomputable def hdO132 (_ : Params) : Obj := { cls := Value.type "code", data := Data.fields #[Value.str (Str.ofString "like") 371, Value.str (Str.ofString "IcmpMessage.like") 372, Value.str (Str.ofString "/claim/cut.py") 373, Value.int 65 0, Value.int 2 0, Value.int 0 0, Value.int 0 0, Value.int 3 0, Value.ref 147, Value.bool Bool.true, Value.int 181 0, Value.ref 148, Value.none, Value.ref 149, Value.ref 150, Value.ref 151, Value.int 376 0, Value.int 65 0, Value.str (Str.ofString "/claim/cut.py") 377] }
noncomputable def hdO133 (_ : Params) : Obj := fnObj (in9 21 5) (Str.ofString "IcmpMessage.like") (Value.none) (Value.none) (Value.none) (Value.str (Str.ofString "thinstack.icmp") 306) (none) (Value.ref 152) (Value.none) (0)
noncomputable def hdO134 (_ : Params) : Obj := { cls := Value.type "tuple", data := Data.seq #[Value.str (Str.ofString "code") 379, Value.str (Str.ofString "kind") 380, Value.str (Str.ofString "payload") 381, Value.str (Str.ofString "rest") 382] }
noncomputable def hdO135 (P : Params) : Obj := { cls := Value.type "dict", data := Data.dict #[{ hash := PyData.keyHash P (Str.ofString "__module__"), key := Value.str (Str.ofString "__module__") 327, val := Value.str (Str.ofString "thinstack.icmp") 306 }, { hash := PyData.keyHash P (Str.ofString "__firstlineno__"), key := Value.str (Str.ofString "__firstlineno__") 331, val := Value.int 45 330 }, { hash := PyData.keyHash P (Str.ofString "__init__"), key := Value.str (Str.ofString "__init__") 342, val := Value.ref 118 }, { hash := PyData.keyHash P (Str.ofString "is_error"), key := Value.str (Str.ofString "is_error") 349, val := Value.ref 125 }, { hash := PyData.keyHash P (Str.ofString "is_echo"), key := Value.str (Str.ofString "is_echo") 356, val := Value.ref 132 }, { hash := PyData.keyHash P (Str.ofString "ident"), key := Value.str (Str.ofString "ident") 363, val := Value.ref 139 }, { hash := PyData.keyHash P (Str.ofString "number"), key := Value.str (Str.ofString "number") 370, val := Value.ref 146 }, { hash := PyData.keyHash P (Str.ofString "like"), key := Value.str (Str.ofString "like") 378, val := Value.ref 153 }, { hash := PyData.keyHash P (Str.ofString "__static_attributes__"), key := Value.str (Str.ofString "__static_attributes__") 383, val := Value.ref 154 }, { hash := PyData.keyHash P (Str.ofString "__dict__"), key := Value.str (Str.ofString "__dict__") 385, val := Value.ref 157 }, { hash := PyData.keyHash P (Str.ofString "__weakref__"), key := Value.str (Str.ofString "__weakref__") 387, val := Value.ref 158 }, { hash := PyData.keyHash P (Str.ofString "__doc__"), key := Value.str (Str.ofString "__doc__") 388, val := Value.none }] 4 }
noncomputable def hdO136 (_ : Params) : Obj := { cls := Value.type "type", data := Data.cls { name := Str.ofString "IcmpMessage", bases := [Value.type "object"], mro := [Value.ref 156, Value.type "object"], ns := 155, qualname := Str.ofString "IcmpMessage" }, slots := #[none, none, some (Value.str (Str.ofString "IcmpMessage") 320), some (Value.str (Str.ofString "IcmpMessage") 328), some (Value.builtin "object.__new__"), some (Value.bool Bool.true)] }
noncomputable def hdO137 (_ : Params) : Obj := { cls := Value.type "getset_descriptor", data := Data.fields #[Value.str (Str.ofString "__dict__") 384, Value.ref 156, Value.builtin "function.__dict__", Value.builtin "function.__dict__#set"] }
noncomputable def hdO138 (_ : Params) : Obj := { cls := Value.type "getset_descriptor", data := Data.fields #[Value.str (Str.ofString "__weakref__") 386, Value.ref 156, Value.builtin "ExceptionGroup.__weakref__", Value.none] }
noncomputable def hdO139 (_ : Params) : Obj := { cls := Value.type "super", data := Data.fields #[Value.ref 156, Value.ref 156, Value.ref 156] }
noncomputable def hdO140 (_ : Params) : Obj := { cls := Value.type "builtin_function_or_method", data := Data.fields #[Value.builtin "object.__init_subclass__", Value.ref 156] }
noncomputable def hdO143 (_ : Params) : Obj := { cls := Value.type "tuple", data := Data.seq #[Value.str (Str.ofString "kind") 394] }
noncomputable def hdO144 (_ : Params) : Obj := fnObj0 (st9 22) (Str.ofString "is_error_kind") (Value.none) (Value.none) (Value.none) (Value.none) (none) (Value.none) (Value.none) (0)
noncomputable def hdO145 (_ : Params) : Obj := { cls := Value.type "code", data := Data.fields #[Value.str (Str.ofString "is_error_kind") 391, Value.str (Str.ofString "is_error_kind") 392, Value.str (Str.ofString "/claim/cut.py") 393, Value.int 67 0, Value.int 1 0, Value.int 0 0, Value.int 0 0, Value.int 3 0, Value.ref 161, Value.bool Bool.true, Value.int 181 0, Value.ref 162, Value.none, Value.ref 163, Value.ref 164, Value.ref 165, Value.int 395 0, Value.int 67 0, Value.str (Str.ofString "/claim/cut.py") 396] }
noncomputable def hdO146 (_ : Params) : Obj := fnObj (st9 22) (Str.ofString "is_error_kind") (Value.none) (Value.none) (Value.none) (Value.str (Str.ofString "thinstack.icmp") 306) (none) (Value.ref 166) (Value.none) (0)
noncomputable def hdO149 (_ : Params) : Obj := { cls := Value.type "tuple", data := Data.seq #[Value.str (Str.ofString "number") 401, Value.str (Str.ofString "what") 402] }
noncomputable def hdO150 (_ : Params) : Obj := fnObj0 (st9 23) (Str.ofString "check_octet") (Value.none) (Value.none) (Value.none) (Value.none) (none) (Value.none) (Value.none) (0)
noncomputable def hdO151 (_ : Params) : Obj := { cls := Value.type "code", data := Data.fields #[Value.str (Str.ofString "check_octet") 398, Value.str (Str.ofString "check_octet") 399, Value.str (Str.ofString "/claim/cut.py") 400, Value.int 69 0, Value.int 2 0, Value.int 0 0, Value.int 0 0, Value.int 3 0, Value.ref 168, Value.bool Bool.true, Value.int 181 0, Value.ref 169, Value.none, Value.ref 170, Value.ref 171, Value.ref 172, Value.int 403 0, Value.int 69 0, Value.str (Str.ofString "/claim/cut.py") 404] }
noncomputable def hdO152 (_ : Params) : Obj := fnObj (st9 23) (Str.ofString "check_octet") (Value.none) (Value.none) (Value.none) (Value.str (Str.ofString "thinstack.icmp") 306) (none) (Value.ref 173) (Value.none) (0)
noncomputable def hdO155 (_ : Params) : Obj := { cls := Value.type "tuple", data := Data.seq #[Value.str (Str.ofString "message") 409, Value.str (Str.ofString "head") 410, Value.str (Str.ofString "tail") 411] }
noncomputable def hdO156 (_ : Params) : Obj := fnObj0 (st9 24) (Str.ofString "pack_icmp") (Value.none) (Value.none) (Value.none) (Value.none) (none) (Value.none) (Value.none) (0)
noncomputable def hdO157 (_ : Params) : Obj := { cls := Value.type "code", data := Data.fields #[Value.str (Str.ofString "pack_icmp") 406, Value.str (Str.ofString "pack_icmp") 407, Value.str (Str.ofString "/claim/cut.py") 408, Value.int 72 0, Value.int 1 0, Value.int 0 0, Value.int 0 0, Value.int 3 0, Value.ref 175, Value.bool Bool.true, Value.int 181 0, Value.ref 176, Value.none, Value.ref 177, Value.ref 178, Value.ref 179, Value.int 412 0, Value.int 72 0, Value.str (Str.ofString "/claim/cut.py") 413] }
noncomputable def hdO158 (_ : Params) : Obj := fnObj (st9 24) (Str.ofString "pack_icmp") (Value.none) (Value.none) (Value.none) (Value.str (Str.ofString "thinstack.icmp") 306) (none) (Value.ref 180) (Value.none) (0)
noncomputable def hdO160 (_ : Params) : Obj := { cls := Value.none, data := Data.fields #[Value.int 1 0, Value.int 0 0, Value.ref 20, Value.int 5 0, Value.int 0 0, Value.ref 27, Value.int 9 0, Value.int 0 0, Value.ref 47, Value.int 12 0, Value.int 0 0, Value.ref 59, Value.int 14 0, Value.int 0 0, Value.ref 66, Value.int 16 0, Value.int 0 0, Value.ref 73, Value.int 19 0, Value.int 0 0, Value.ref 80, Value.int 24 0, Value.int 0 0, Value.ref 87, Value.int 28 0, Value.int 0 0, Value.ref 95, Value.int 36 0, Value.int 0 0, Value.ref 103, Value.int 45 0, Value.int 0 0, Value.ref 110, Value.int 67 0, Value.int 0 0, Value.ref 166, Value.int 69 0, Value.int 0 0, Value.ref 173, Value.int 72 0, Value.int 0 0, Value.ref 180, Value.int 80 0, Value.int 0 0, Value.ref 187] }
noncomputable def hdO161 (_ : Params) : Obj := { cls := Value.type "tuple", data := Data.seq #[Value.str (Str.ofString "octets") 418] }
noncomputable def hdO162 (_ : Params) : Obj := fnObj0 (st9 25) (Str.ofString "sum_in") (Value.none) (Value.none) (Value.none) (Value.none) (none) (Value.none) (Value.none) (0)
noncomputable def hdO163 (_ : Params) : Obj := { cls := Value.type "code", data := Data.fields #[Value.str (Str.ofString "sum_in") 415, Value.str (Str.ofString "sum_in") 416, Value.str (Str.ofString "/claim/cut.py") 417, Value.int 80 0, Value.int 1 0, Value.int 0 0, Value.int 0 0, Value.int 3 0, Value.ref 182, Value.bool Bool.true, Value.int 181 0, Value.ref 183, Value.none, Value.ref 184, Value.ref 185, Value.ref 186, Value.int 419 0, Value.int 80 0, Value.str (Str.ofString "/claim/cut.py") 420] }
noncomputable def hdO164 (_ : Params) : Obj := fnObj (st9 25) (Str.ofString "sum_in") (Value.none) (Value.none) (Value.none) (Value.str (Str.ofString "thinstack.icmp") 306) (none) (Value.ref 187) (Value.none) (0)
noncomputable def hdO167 (P : Params) : Obj := { cls := Value.type "dict", data := Data.dict #[{ hash := PyData.keyHash P (Str.ofString "__name__"), key := Value.str (Str.ofString "__name__") 165, val := Value.str (Str.ofString "thinstack.ip_header") 422 }, { hash := PyData.keyHash P (Str.ofString "__doc__"), key := Value.str (Str.ofString "__doc__") 166, val := Value.none }, { hash := PyData.keyHash P (Str.ofString "__package__"), key := Value.str (Str.ofString "__package__") 167, val := Value.none }, { hash := PyData.keyHash P (Str.ofString "__loader__"), key := Value.str (Str.ofString "__loader__") 168, val := Value.builtin "__main__.__loader__#opaque" }, { hash := PyData.keyHash P (Str.ofString "__spec__"), key := Value.str (Str.ofString "__spec__") 169, val := Value.none }, { hash := PyData.keyHash P (Str.ofString "__annotations__"), key := Value.str (Str.ofString "__annotations__") 170, val := Value.ref 6 }, { hash := PyData.keyHash P (Str.ofString "__builtins__"), key := Value.str (Str.ofString "__builtins__") 171, val := Value.ref 4 }, { hash := PyData.keyHash P (Str.ofString "__file__"), key := Value.str (Str.ofString "__file__") 173, val := Value.str (Str.ofString "/claim/cut.py") 172 }, { hash := PyData.keyHash P (Str.ofString "__cached__"), key := Value.str (Str.ofString "__cached__") 174, val := Value.none }, { hash := PyData.keyHash P (Str.ofString "_wall"), key := Value.str (Str.ofString "_wall") 193, val := Value.ref 21 }, { hash := PyData.keyHash P (Str.ofString "StackError"), key := Value.str (Str.ofString "StackError") 224, val := Value.ref 38 }, { hash := PyData.keyHash P (Str.ofString "FormError"), key := Value.str (Str.ofString "FormError") 240, val := Value.ref 51 }, { hash := PyData.keyHash P (Str.ofString "put16"), key := Value.str (Str.ofString "put16") 249, val := Value.ref 60 }, { hash := PyData.keyHash P (Str.ofString "put32"), key := Value.str (Str.ofString "put32") 256, val := Value.ref 67 }, { hash := PyData.keyHash P (Str.ofString "need"), key := Value.str (Str.ofString "need") 265, val := Value.ref 74 }, { hash := PyData.keyHash P (Str.ofString "get16"), key := Value.str (Str.ofString "get16") 273, val := Value.ref 81 }, { hash := PyData.keyHash P (Str.ofString "ALL_ONES"), key := Value.str (Str.ofString "ALL_ONES") 277, val := Value.int 65535 276 }, { hash := PyData.keyHash P (Str.ofString "fold"), key := Value.str (Str.ofString "fold") 284, val := Value.ref 88 }, { hash := PyData.keyHash P (Str.ofString "ones_sum"), key := Value.str (Str.ofString "ones_sum") 296, val := Value.ref 96 }, { hash := PyData.keyHash P (Str.ofString "checksum"), key := Value.str (Str.ofString "checksum") 305, val := Value.ref 104 }, { hash := PyData.keyHash P (Str.ofString "UNREACHABLE"), key := Value.str (Str.ofString "UNREACHABLE") 309, val := Value.int 3 308 }, { hash := PyData.keyHash P (Str.ofString "SOURCE_QUENCH"), key := Value.str (Str.ofString "SOURCE_QUENCH") 311, val := Value.int 4 310 }, { hash := PyData.keyHash P (Str.ofString "REDIRECT"), key := Value.str (Str.ofString "REDIRECT") 313, val := Value.int 5 312 }, { hash := PyData.keyHash P (Str.ofString "EXCEEDED"), key := Value.str (Str.ofString "EXCEEDED") 315, val := Value.int 11 314 }, { hash := PyData.keyHash P (Str.ofString "PROBLEM"), key := Value.str (Str.ofString "PROBLEM") 317, val := Value.int 12 316 }, { hash := PyData.keyHash P (Str.ofString "HEAD_SIZE"), key := Value.str (Str.ofString "HEAD_SIZE") 319, val := Value.int 8 318 }, { hash := PyData.keyHash P (Str.ofString "IcmpMessage"), key := Value.str (Str.ofString "IcmpMessage") 390, val := Value.ref 156 }, { hash := PyData.keyHash P (Str.ofString "is_error_kind"), key := Value.str (Str.ofString "is_error_kind") 397, val := Value.ref 167 }, { hash := PyData.keyHash P (Str.ofString "check_octet"), key := Value.str (Str.ofString "check_octet") 405, val := Value.ref 174 }, { hash := PyData.keyHash P (Str.ofString "pack_icmp"), key := Value.str (Str.ofString "pack_icmp") 414, val := Value.ref 181 }, { hash := PyData.keyHash P (Str.ofString "sum_in"), key := Value.str (Str.ofString "sum_in") 421, val := Value.ref 188 }, { hash := PyData.keyHash P (Str.ofString "ICMP"), key := Value.str (Str.ofString "ICMP") 425, val := Value.int 1 424 }, { hash := PyData.keyHash P (Str.ofString "LEAST_HEAD"), key := Value.str (Str.ofString "LEAST_HEAD") 427, val := Value.int 20 426 }] 33 }
noncomputable def hdO170 (P : Params) : Obj := { cls := Value.type "dict", data := Data.dict #[{ hash := PyData.keyHash P (Str.ofString "__module__"), key := Value.str (Str.ofString "__module__") 435, val := Value.str (Str.ofString "thinstack.ip_header") 422 }, { hash := PyData.keyHash P (Str.ofString "__qualname__"), key := Value.str (Str.ofString "__qualname__") 437, val := Value.str (Str.ofString "IpHeader") 436 }, { hash := PyData.keyHash P (Str.ofString "__firstlineno__"), key := Value.str (Str.ofString "__firstlineno__") 439, val := Value.int 85 438 }, { hash := PyData.keyHash P (Str.ofString "__init__"), key := Value.str (Str.ofString "__init__") 461, val := Value.ref 203 }, { hash := PyData.keyHash P (Str.ofString "size"), key := Value.str (Str.ofString "size") 468, val := Value.ref 210 }, { hash := PyData.keyHash P (Str.ofString "is_fragment"), key := Value.str (Str.ofString "is_fragment") 475, val := Value.ref 217 }, { hash := PyData.keyHash P (Str.ofString "is_first"), key := Value.str (Str.ofString "is_first") 482, val := Value.ref 224 }, { hash := PyData.keyHash P (Str.ofString "part"), key := Value.str (Str.ofString "part") 492, val := Value.ref 231 }, { hash := PyData.keyHash P (Str.ofString "row"), key := Value.str (Str.ofString "row") 499, val := Value.ref 238 }, { hash := PyData.keyHash P (Str.ofString "__static_attributes__"), key := Value.str (Str.ofString "__static_attributes__") 510, val := Value.ref 239 }] 10 }
noncomputable def hdO171 (_ : Params) : Obj := { cls := Value.none, data := Data.fields #[Value.int 87 0, Value.int 4 0, Value.ref 202, Value.int 99 0, Value.int 4 0, Value.ref 209, Value.int 102 0, Value.int 4 0, Value.ref 216, Value.int 105 0, Value.int 4 0, Value.ref 223, Value.int 108 0, Value.int 4 0, Value.ref 230, Value.int 111 0, Value.int 4 0, Value.ref 237] }
noncomputable def hdO172 (_ : Params) : Obj := { cls := Value.type "code", data := Data.fields #[Value.str (Str.ofString "IpHeader") 430, Value.str (Str.ofString "IpHeader") 431, Value.str (Str.ofString "/claim/cut.py") 432, Value.int 85 0, Value.int 0 0, Value.int 0 0, Value.int 0 0, Value.int 0 0, Value.ref 192, Value.bool Bool.false, Value.int 181 0, Value.ref 193, Value.none, Value.none, Value.none, Value.none, Value.int 433 0, Value.int 85 0, Value.str (Str.ofString "/claim/cut.py") 434] }
noncomputable def hdO173 (_ : Params) : Obj := { cls := Value.type "frame", slots := #[some (Value.ref 194), some (Value.ref 3), some (Value.ref 191), none, some (Value.str (Str.ofString "thinstack.ip_header") 422), none, some (Value.ref 0)] }
noncomputable def hdO174 (_ : Params) : Obj := { cls := Value.type "tuple", data := Data.seq #[Value.int 0 440, Value.int 64 441, Value.int 0 442, Value.bool Bool.false, Value.bool Bool.false, Value.int 0 443, Value.bytes #[] 444] }
noncomputable def hdO175 (_ : Params) : Obj := { cls := Value.type "tuple", data := Data.seq #[Value.str (Str.ofString "self") 448, Value.str (Str.ofString "source") 449, Value.str (Str.ofString "target") 450, Value.str (Str.ofString "protocol") 451, Value.str (Str.ofString "ident") 452, Value.str (Str.ofString "ttl") 453, Value.str (Str.ofString "tos") 454, Value.str (Str.ofString "dont") 455, Value.str (Str.ofString "more") 456, Value.str (Str.ofString "offset") 457, Value.str (Str.ofString "options") 458] }
noncomputable def hdO176 (_ : Params) : Obj := fnObj0 (in9 29 0) (Str.ofString "IpHeader.__init__") (Value.none) (Value.none) (Value.none) (Value.none) (none) (Value.none) (Value.none) (0)
noncomputable def hdO177 (_ : Params) : Obj := { cls := Value.type "code", data := Data.fields #[Value.str (Str.ofString "__init__") 445, Value.str (Str.ofString "IpHeader.__init__") 446, Value.str (Str.ofString "/claim/cut.py") 447, Value.int 87 0, Value.int 11 0, Value.int 0 0, Value.int 0 0, Value.int 3 0, Value.ref 197, Value.bool Bool.true, Value.int 181 0, Value.ref 198, Value.none, Value.ref 199, Value.ref 200, Value.ref 201, Value.int 459 0, Value.int 87 0, Value.str (Str.ofString "/claim/cut.py") 460] }
noncomputable def hdO178 (_ : Params) : Obj := fnObj (in9 29 0) (Str.ofString "IpHeader.__init__") (Value.ref 196) (Value.none) (Value.none) (Value.str (Str.ofString "thinstack.ip_header") 422) (none) (Value.ref 202) (Value.none) (0)
noncomputable def hdO179 (_ : Params) : Obj := { cls := Value.type "tuple", data := Data.seq #[Value.str (Str.ofString "self") 465] }
noncomputable def hdO180 (_ : Params) : Obj := fnObj0 (in9 29 1) (Str.ofString "IpHeader.size") (Value.none) (Value.none) (Value.none) (Value.none) (none) (Value.none) (Value.none) (0)
noncomputable def hdO181 (_ : Params) : Obj := { cls := Value.type "code", data := Data.fields #[Value.str (Str.ofString "size") 462, Value.str (Str.ofString "IpHeader.size") 463, Value.str (Str.ofString "/claim/cut.py") 464, Value.int 99 0, Value.int 1 0, Value.int 0 0, Value.int 0 0, Value.int 3 0, Value.ref 204, Value.bool Bool.true, Value.int 181 0, Value.ref 205, Value.none, Value.ref 206, Value.ref 207, Value.ref 208, Value.int 466 0, Value.int 99 0, Value.str (Str.ofString "/claim/cut.py") 467] }
noncomputable def hdO182 (_ : Params) : Obj := fnObj (in9 29 1) (Str.ofString "IpHeader.size") (Value.none) (Value.none) (Value.none) (Value.str (Str.ofString "thinstack.ip_header") 422) (none) (Value.ref 209) (Value.none) (0)
noncomputable def hdO183 (_ : Params) : Obj := { cls := Value.type "tuple", data := Data.seq #[Value.str (Str.ofString "self") 472] }
noncomputable def hdO184 (_ : Params) : Obj := fnObj0 (in9 29 2) (Str.ofString "IpHeader.is_fragment") (Value.none) (Value.none) (Value.none) (Value.none) (none) (Value.none) (Value.none) (0)
noncomputable def hdO185 (_ : Params) : Obj := { cls := Value.type "code", data := Data.fields #[Value.str (Str.ofString "is_fragment") 469, Value.str (Str.ofString "IpHeader.is_fragment") 470, Value.str (Str.ofString "/claim/cut.py") 471, Value.int 102 0, Value.int 1 0, Value.int 0 0, Value.int 0 0, Value.int 3 0, Value.ref 211, Value.bool Bool.true, Value.int 181 0, Value.ref 212, Value.none, Value.ref 213, Value.ref 214, Value.ref 215, Value.int 473 0, Value.int 102 0, Value.str (Str.ofString "/claim/cut.py") 474] }
noncomputable def hdO186 (_ : Params) : Obj := fnObj (in9 29 2) (Str.ofString "IpHeader.is_fragment") (Value.none) (Value.none) (Value.none) (Value.str (Str.ofString "thinstack.ip_header") 422) (none) (Value.ref 216) (Value.none) (0)
noncomputable def hdO187 (_ : Params) : Obj := { cls := Value.type "tuple", data := Data.seq #[Value.str (Str.ofString "self") 479] }
noncomputable def hdO188 (_ : Params) : Obj := fnObj0 (in9 29 3) (Str.ofString "IpHeader.is_first") (Value.none) (Value.none) (Value.none) (Value.none) (none) (Value.none) (Value.none) (0)
noncomputable def hdO189 (_ : Params) : Obj := { cls := Value.type "code", data := Data.fields #[Value.str (Str.ofString "is_first") 476, Value.str (Str.ofString "IpHeader.is_first") 477, Value.str (Str.ofString "/claim/cut.py") 478, Value.int 105 0, Value.int 1 0, Value.int 0 0, Value.int 0 0, Value.int 3 0, Value.ref 218, Value.bool Bool.true, Value.int 181 0, Value.ref 219, Value.none, Value.ref 220, Value.ref 221, Value.ref 222, Value.int 480 0, Value.int 105 0, Value.str (Str.ofString "/claim/cut.py") 481] }
noncomputable def hdO190 (_ : Params) : Obj := fnObj (in9 29 3) (Str.ofString "IpHeader.is_first") (Value.none) (Value.none) (Value.none) (Value.str (Str.ofString "thinstack.ip_header") 422) (none) (Value.ref 223) (Value.none) (0)
noncomputable def hdO191 (_ : Params) : Obj := { cls := Value.type "tuple", data := Data.seq #[Value.str (Str.ofString "self") 486, Value.str (Str.ofString "more") 487, Value.str (Str.ofString "offset") 488, Value.str (Str.ofString "options") 489] }
noncomputable def hdO192 (_ : Params) : Obj := fnObj0 (in9 29 4) (Str.ofString "IpHeader.part") (Value.none) (Value.none) (Value.none) (Value.none) (none) (Value.none) (Value.none) (0)
noncomputable def hdO193 (_ : Params) : Obj := { cls := Value.type "code", data := Data.fields #[Value.str (Str.ofString "part") 483, Value.str (Str.ofString "IpHeader.part") 484, Value.str (Str.ofString "/claim/cut.py") 485, Value.int 108 0, Value.int 4 0, Value.int 0 0, Value.int 0 0, Value.int 3 0, Value.ref 225, Value.bool Bool.true, Value.int 181 0, Value.ref 226, Value.none, Value.ref 227, Value.ref 228, Value.ref 229, Value.int 490 0, Value.int 108 0, Value.str (Str.ofString "/claim/cut.py") 491] }
noncomputable def hdO194 (_ : Params) : Obj := fnObj (in9 29 4) (Str.ofString "IpHeader.part") (Value.none) (Value.none) (Value.none) (Value.str (Str.ofString "thinstack.ip_header") 422) (none) (Value.ref 230) (Value.none) (0)
noncomputable def hdO195 (_ : Params) : Obj := { cls := Value.type "tuple", data := Data.seq #[Value.str (Str.ofString "self") 496] }
noncomputable def hdO196 (_ : Params) : Obj := fnObj0 (in9 29 5) (Str.ofString "IpHeader.row") (Value.none) (Value.none) (Value.none) (Value.none) (none) (Value.none) (Value.none) (0)
noncomputable def hdO197 (_ : Params) : Obj := { cls := Value.type "code", data := Data.fields #[Value.str (Str.ofString "row") 493, Value.str (Str.ofString "IpHeader.row") 494, Value.str (Str.ofString "/claim/cut.py") 495, Value.int 111 0, Value.int 1 0, Value.int 0 0, Value.int 0 0, Value.int 3 0, Value.ref 232, Value.bool Bool.true, Value.int 181 0, Value.ref 233, Value.none, Value.ref 234, Value.ref 235, Value.ref 236, Value.int 497 0, Value.int 111 0, Value.str (Str.ofString "/claim/cut.py") 498] }
noncomputable def hdO198 (_ : Params) : Obj := fnObj (in9 29 5) (Str.ofString "IpHeader.row") (Value.none) (Value.none) (Value.none) (Value.str (Str.ofString "thinstack.ip_header") 422) (none) (Value.ref 237) (Value.none) (0)
noncomputable def hdO199 (_ : Params) : Obj := { cls := Value.type "tuple", data := Data.seq #[Value.str (Str.ofString "dont") 500, Value.str (Str.ofString "ident") 501, Value.str (Str.ofString "more") 502, Value.str (Str.ofString "offset") 503, Value.str (Str.ofString "options") 504, Value.str (Str.ofString "protocol") 505, Value.str (Str.ofString "source") 506, Value.str (Str.ofString "target") 507, Value.str (Str.ofString "tos") 508, Value.str (Str.ofString "ttl") 509] }
noncomputable def hdO200 (P : Params) : Obj := { cls := Value.type "dict", data := Data.dict #[{ hash := PyData.keyHash P (Str.ofString "__module__"), key := Value.str (Str.ofString "__module__") 435, val := Value.str (Str.ofString "thinstack.ip_header") 422 }, { hash := PyData.keyHash P (Str.ofString "__firstlineno__"), key := Value.str (Str.ofString "__firstlineno__") 439, val := Value.int 85 438 }, { hash := PyData.keyHash P (Str.ofString "__init__"), key := Value.str (Str.ofString "__init__") 461, val := Value.ref 203 }, { hash := PyData.keyHash P (Str.ofString "size"), key := Value.str (Str.ofString "size") 468, val := Value.ref 210 }, { hash := PyData.keyHash P (Str.ofString "is_fragment"), key := Value.str (Str.ofString "is_fragment") 475, val := Value.ref 217 }, { hash := PyData.keyHash P (Str.ofString "is_first"), key := Value.str (Str.ofString "is_first") 482, val := Value.ref 224 }, { hash := PyData.keyHash P (Str.ofString "part"), key := Value.str (Str.ofString "part") 492, val := Value.ref 231 }, { hash := PyData.keyHash P (Str.ofString "row"), key := Value.str (Str.ofString "row") 499, val := Value.ref 238 }, { hash := PyData.keyHash P (Str.ofString "__static_attributes__"), key := Value.str (Str.ofString "__static_attributes__") 510, val := Value.ref 239 }, { hash := PyData.keyHash P (Str.ofString "__dict__"), key := Value.str (Str.ofString "__dict__") 512, val := Value.ref 242 }, { hash := PyData.keyHash P (Str.ofString "__weakref__"), key := Value.str (Str.ofString "__weakref__") 514, val := Value.ref 243 }, { hash := PyData.keyHash P (Str.ofString "__doc__"), key := Value.str (Str.ofString "__doc__") 515, val := Value.none }] 4 }
noncomputable def hdO201 (_ : Params) : Obj := { cls := Value.type "type", data := Data.cls { name := Str.ofString "IpHeader", bases := [Value.type "object"], mro := [Value.ref 241, Value.type "object"], ns := 240, qualname := Str.ofString "IpHeader" }, slots := #[none, none, some (Value.str (Str.ofString "IpHeader") 428), some (Value.str (Str.ofString "IpHeader") 436), some (Value.builtin "object.__new__"), some (Value.bool Bool.true)] }
noncomputable def hdO202 (_ : Params) : Obj := { cls := Value.type "getset_descriptor", data := Data.fields #[Value.str (Str.ofString "__dict__") 511, Value.ref 241, Value.builtin "function.__dict__", Value.builtin "function.__dict__#set"] }
noncomputable def hdO203 (_ : Params) : Obj := { cls := Value.type "getset_descriptor", data := Data.fields #[Value.str (Str.ofString "__weakref__") 513, Value.ref 241, Value.builtin "ExceptionGroup.__weakref__", Value.none] }
noncomputable def hdO204 (_ : Params) : Obj := { cls := Value.type "super", data := Data.fields #[Value.ref 241, Value.ref 241, Value.ref 241] }
noncomputable def hdO205 (_ : Params) : Obj := { cls := Value.type "builtin_function_or_method", data := Data.fields #[Value.builtin "object.__init_subclass__", Value.ref 241] }
noncomputable def hdO211 (_ : Params) : Obj := { cls := Value.type "tuple", data := Data.seq #[Value.str (Str.ofString "address") 529] }
noncomputable def hdO212 (_ : Params) : Obj := fnObj0 (st9 33) (Str.ofString "is_group") (Value.none) (Value.none) (Value.none) (Value.none) (none) (Value.none) (Value.none) (0)
noncomputable def hdO213 (_ : Params) : Obj := { cls := Value.type "code", data := Data.fields #[Value.str (Str.ofString "is_group") 526, Value.str (Str.ofString "is_group") 527, Value.str (Str.ofString "/claim/cut.py") 528, Value.int 116 0, Value.int 1 0, Value.int 0 0, Value.int 0 0, Value.int 3 0, Value.ref 246, Value.bool Bool.true, Value.int 181 0, Value.ref 247, Value.none, Value.ref 248, Value.ref 249, Value.ref 250, Value.int 530 0, Value.int 116 0, Value.str (Str.ofString "/claim/cut.py") 531] }
noncomputable def hdO214 (_ : Params) : Obj := fnObj (st9 33) (Str.ofString "is_group") (Value.none) (Value.none) (Value.none) (Value.str (Str.ofString "thinstack.icmp_rules") 518) (none) (Value.ref 251) (Value.none) (0)
noncomputable def hdO217 (_ : Params) : Obj := { cls := Value.type "tuple", data := Data.seq #[Value.str (Str.ofString "address") 536] }
noncomputable def hdO218 (_ : Params) : Obj := fnObj0 (st9 34) (Str.ofString "is_one_host") (Value.none) (Value.none) (Value.none) (Value.none) (none) (Value.none) (Value.none) (0)
noncomputable def hdO219 (_ : Params) : Obj := { cls := Value.type "code", data := Data.fields #[Value.str (Str.ofString "is_one_host") 533, Value.str (Str.ofString "is_one_host") 534, Value.str (Str.ofString "/claim/cut.py") 535, Value.int 118 0, Value.int 1 0, Value.int 0 0, Value.int 0 0, Value.int 3 0, Value.ref 253, Value.bool Bool.true, Value.int 181 0, Value.ref 254, Value.none, Value.ref 255, Value.ref 256, Value.ref 257, Value.int 537 0, Value.int 118 0, Value.str (Str.ofString "/claim/cut.py") 538] }
noncomputable def hdO220 (_ : Params) : Obj := fnObj (st9 34) (Str.ofString "is_one_host") (Value.none) (Value.none) (Value.none) (Value.str (Str.ofString "thinstack.icmp_rules") 518) (none) (Value.ref 258) (Value.none) (0)
noncomputable def hdO223 (_ : Params) : Obj := { cls := Value.type "tuple", data := Data.seq #[Value.str (Str.ofString "header") 543, Value.str (Str.ofString "payload") 544] }
noncomputable def hdO224 (_ : Params) : Obj := fnObj0 (st9 35) (Str.ofString "carries_error") (Value.none) (Value.none) (Value.none) (Value.none) (none) (Value.none) (Value.none) (0)
noncomputable def hdO225 (_ : Params) : Obj := { cls := Value.type "code", data := Data.fields #[Value.str (Str.ofString "carries_error") 540, Value.str (Str.ofString "carries_error") 541, Value.str (Str.ofString "/claim/cut.py") 542, Value.int 120 0, Value.int 2 0, Value.int 0 0, Value.int 0 0, Value.int 3 0, Value.ref 260, Value.bool Bool.true, Value.int 181 0, Value.ref 261, Value.none, Value.ref 262, Value.ref 263, Value.ref 264, Value.int 545 0, Value.int 120 0, Value.str (Str.ofString "/claim/cut.py") 546] }
noncomputable def hdO226 (_ : Params) : Obj := fnObj (st9 35) (Str.ofString "carries_error") (Value.none) (Value.none) (Value.none) (Value.str (Str.ofString "thinstack.icmp_rules") 518) (none) (Value.ref 265) (Value.none) (0)
noncomputable def hdO227 (P : Params) : Obj := { cls := Value.type "dict", data := Data.dict #[{ hash := PyData.keyHash P (Str.ofString "__name__"), key := Value.str (Str.ofString "__name__") 165, val := Value.str (Str.ofString "thinstack.icmp_rules") 518 }, { hash := PyData.keyHash P (Str.ofString "__doc__"), key := Value.str (Str.ofString "__doc__") 166, val := Value.none }, { hash := PyData.keyHash P (Str.ofString "__package__"), key := Value.str (Str.ofString "__package__") 167, val := Value.none }, { hash := PyData.keyHash P (Str.ofString "__loader__"), key := Value.str (Str.ofString "__loader__") 168, val := Value.builtin "__main__.__loader__#opaque" }, { hash := PyData.keyHash P (Str.ofString "__spec__"), key := Value.str (Str.ofString "__spec__") 169, val := Value.none }, { hash := PyData.keyHash P (Str.ofString "__annotations__"), key := Value.str (Str.ofString "__annotations__") 170, val := Value.ref 6 }, { hash := PyData.keyHash P (Str.ofString "__builtins__"), key := Value.str (Str.ofString "__builtins__") 171, val := Value.ref 4 }, { hash := PyData.keyHash P (Str.ofString "__file__"), key := Value.str (Str.ofString "__file__") 173, val := Value.str (Str.ofString "/claim/cut.py") 172 }, { hash := PyData.keyHash P (Str.ofString "__cached__"), key := Value.str (Str.ofString "__cached__") 174, val := Value.none }, { hash := PyData.keyHash P (Str.ofString "_wall"), key := Value.str (Str.ofString "_wall") 193, val := Value.ref 21 }, { hash := PyData.keyHash P (Str.ofString "StackError"), key := Value.str (Str.ofString "StackError") 224, val := Value.ref 38 }, { hash := PyData.keyHash P (Str.ofString "FormError"), key := Value.str (Str.ofString "FormError") 240, val := Value.ref 51 }, { hash := PyData.keyHash P (Str.ofString "put16"), key := Value.str (Str.ofString "put16") 249, val := Value.ref 60 }, { hash := PyData.keyHash P (Str.ofString "put32"), key := Value.str (Str.ofString "put32") 256, val := Value.ref 67 }, { hash := PyData.keyHash P (Str.ofString "need"), key := Value.str (Str.ofString "need") 265, val := Value.ref 74 }, { hash := PyData.keyHash P (Str.ofString "get16"), key := Value.str (Str.ofString "get16") 273, val := Value.ref 81 }, { hash := PyData.keyHash P (Str.ofString "ALL_ONES"), key := Value.str (Str.ofString "ALL_ONES") 277, val := Value.int 65535 276 }, { hash := PyData.keyHash P (Str.ofString "fold"), key := Value.str (Str.ofString "fold") 284, val := Value.ref 88 }, { hash := PyData.keyHash P (Str.ofString "ones_sum"), key := Value.str (Str.ofString "ones_sum") 296, val := Value.ref 96 }, { hash := PyData.keyHash P (Str.ofString "checksum"), key := Value.str (Str.ofString "checksum") 305, val := Value.ref 104 }, { hash := PyData.keyHash P (Str.ofString "UNREACHABLE"), key := Value.str (Str.ofString "UNREACHABLE") 309, val := Value.int 3 308 }, { hash := PyData.keyHash P (Str.ofString "SOURCE_QUENCH"), key := Value.str (Str.ofString "SOURCE_QUENCH") 311, val := Value.int 4 310 }, { hash := PyData.keyHash P (Str.ofString "REDIRECT"), key := Value.str (Str.ofString "REDIRECT") 313, val := Value.int 5 312 }, { hash := PyData.keyHash P (Str.ofString "EXCEEDED"), key := Value.str (Str.ofString "EXCEEDED") 315, val := Value.int 11 314 }, { hash := PyData.keyHash P (Str.ofString "PROBLEM"), key := Value.str (Str.ofString "PROBLEM") 317, val := Value.int 12 316 }, { hash := PyData.keyHash P (Str.ofString "HEAD_SIZE"), key := Value.str (Str.ofString "HEAD_SIZE") 319, val := Value.int 8 318 }, { hash := PyData.keyHash P (Str.ofString "IcmpMessage"), key := Value.str (Str.ofString "IcmpMessage") 390, val := Value.ref 156 }, { hash := PyData.keyHash P (Str.ofString "is_error_kind"), key := Value.str (Str.ofString "is_error_kind") 397, val := Value.ref 167 }, { hash := PyData.keyHash P (Str.ofString "check_octet"), key := Value.str (Str.ofString "check_octet") 405, val := Value.ref 174 }, { hash := PyData.keyHash P (Str.ofString "pack_icmp"), key := Value.str (Str.ofString "pack_icmp") 414, val := Value.ref 181 }, { hash := PyData.keyHash P (Str.ofString "sum_in"), key := Value.str (Str.ofString "sum_in") 421, val := Value.ref 188 }, { hash := PyData.keyHash P (Str.ofString "ICMP"), key := Value.str (Str.ofString "ICMP") 425, val := Value.int 1 424 }, { hash := PyData.keyHash P (Str.ofString "LEAST_HEAD"), key := Value.str (Str.ofString "LEAST_HEAD") 427, val := Value.int 20 426 }, { hash := PyData.keyHash P (Str.ofString "IpHeader"), key := Value.str (Str.ofString "IpHeader") 517, val := Value.ref 241 }, { hash := PyData.keyHash P (Str.ofString "FIRST_GROUP"), key := Value.str (Str.ofString "FIRST_GROUP") 523, val := Value.int 3758096384 522 }, { hash := PyData.keyHash P (Str.ofString "LOOP_NET"), key := Value.str (Str.ofString "LOOP_NET") 525, val := Value.int 127 524 }, { hash := PyData.keyHash P (Str.ofString "is_group"), key := Value.str (Str.ofString "is_group") 532, val := Value.ref 252 }, { hash := PyData.keyHash P (Str.ofString "is_one_host"), key := Value.str (Str.ofString "is_one_host") 539, val := Value.ref 259 }, { hash := PyData.keyHash P (Str.ofString "carries_error"), key := Value.str (Str.ofString "carries_error") 547, val := Value.ref 266 }, { hash := PyData.keyHash P (Str.ofString "told_size"), key := Value.str (Str.ofString "told_size") 554, val := Value.ref 273 }] 40 }
noncomputable def hdO228 (_ : Params) : Obj := { cls := Value.none, data := Data.fields #[Value.int 1 0, Value.int 0 0, Value.ref 20, Value.int 5 0, Value.int 0 0, Value.ref 27, Value.int 9 0, Value.int 0 0, Value.ref 47, Value.int 12 0, Value.int 0 0, Value.ref 59, Value.int 14 0, Value.int 0 0, Value.ref 66, Value.int 16 0, Value.int 0 0, Value.ref 73, Value.int 19 0, Value.int 0 0, Value.ref 80, Value.int 24 0, Value.int 0 0, Value.ref 87, Value.int 28 0, Value.int 0 0, Value.ref 95, Value.int 36 0, Value.int 0 0, Value.ref 103, Value.int 45 0, Value.int 0 0, Value.ref 110, Value.int 67 0, Value.int 0 0, Value.ref 166, Value.int 69 0, Value.int 0 0, Value.ref 173, Value.int 72 0, Value.int 0 0, Value.ref 180, Value.int 80 0, Value.int 0 0, Value.ref 187, Value.int 85 0, Value.int 0 0, Value.ref 194, Value.int 116 0, Value.int 0 0, Value.ref 251, Value.int 118 0, Value.int 0 0, Value.ref 258, Value.int 120 0, Value.int 0 0, Value.ref 265, Value.int 124 0, Value.int 0 0, Value.ref 272] }
noncomputable def hdO229 (_ : Params) : Obj := { cls := Value.type "tuple", data := Data.seq #[Value.str (Str.ofString "message") 551] }
noncomputable def hdO230 (_ : Params) : Obj := fnObj0 (st9 36) (Str.ofString "told_size") (Value.none) (Value.none) (Value.none) (Value.none) (none) (Value.none) (Value.none) (0)
noncomputable def hdO231 (_ : Params) : Obj := { cls := Value.type "code", data := Data.fields #[Value.str (Str.ofString "told_size") 548, Value.str (Str.ofString "told_size") 549, Value.str (Str.ofString "/claim/cut.py") 550, Value.int 124 0, Value.int 1 0, Value.int 0 0, Value.int 0 0, Value.int 3 0, Value.ref 267, Value.bool Bool.true, Value.int 181 0, Value.ref 268, Value.none, Value.ref 269, Value.ref 270, Value.ref 271, Value.int 552 0, Value.int 124 0, Value.str (Str.ofString "/claim/cut.py") 553] }
noncomputable def hdO232 (_ : Params) : Obj := fnObj (st9 36) (Str.ofString "told_size") (Value.none) (Value.none) (Value.none) (Value.str (Str.ofString "thinstack.icmp_rules") 518) (none) (Value.ref 272) (Value.none) (0)
noncomputable def hdO235 (P : Params) : Obj := { cls := Value.type "dict", data := Data.dict #[{ hash := PyData.keyHash P (Str.ofString "__module__"), key := Value.str (Str.ofString "__module__") 562, val := Value.str (Str.ofString "thinstack.icmp_rules") 518 }, { hash := PyData.keyHash P (Str.ofString "__qualname__"), key := Value.str (Str.ofString "__qualname__") 564, val := Value.str (Str.ofString "ErrorBudget") 563 }, { hash := PyData.keyHash P (Str.ofString "__firstlineno__"), key := Value.str (Str.ofString "__firstlineno__") 566, val := Value.int 126 565 }, { hash := PyData.keyHash P (Str.ofString "__init__"), key := Value.str (Str.ofString "__init__") 575, val := Value.ref 287 }, { hash := PyData.keyHash P (Str.ofString "refill"), key := Value.str (Str.ofString "refill") 584, val := Value.ref 294 }, { hash := PyData.keyHash P (Str.ofString "take"), key := Value.str (Str.ofString "take") 592, val := Value.ref 301 }, { hash := PyData.keyHash P (Str.ofString "__static_attributes__"), key := Value.str (Str.ofString "__static_attributes__") 597, val := Value.ref 302 }] 7 }
noncomputable def hdO236 (_ : Params) : Obj := { cls := Value.none, data := Data.fields #[Value.int 128 0, Value.int 4 0, Value.ref 286, Value.int 134 0, Value.int 4 0, Value.ref 293, Value.int 146 0, Value.int 4 0, Value.ref 300] }
noncomputable def hdO237 (_ : Params) : Obj := { cls := Value.type "code", data := Data.fields #[Value.str (Str.ofString "ErrorBudget") 557, Value.str (Str.ofString "ErrorBudget") 558, Value.str (Str.ofString "/claim/cut.py") 559, Value.int 126 0, Value.int 0 0, Value.int 0 0, Value.int 0 0, Value.int 0 0, Value.ref 277, Value.bool Bool.false, Value.int 181 0, Value.ref 278, Value.none, Value.none, Value.none, Value.none, Value.int 560 0, Value.int 126 0, Value.str (Str.ofString "/claim/cut.py") 561] }
noncomputable def hdO238 (_ : Params) : Obj := { cls := Value.type "frame", slots := #[some (Value.ref 279), some (Value.ref 3), some (Value.ref 276), none, some (Value.str (Str.ofString "thinstack.icmp_rules") 518), none, some (Value.ref 0)] }
noncomputable def hdO239 (_ : Params) : Obj := { cls := Value.type "tuple", data := Data.seq #[Value.str (Str.ofString "self") 570, Value.str (Str.ofString "most") 571, Value.str (Str.ofString "refill_after") 572] }
noncomputable def hdO240 (_ : Params) : Obj := fnObj0 (in9 37 0) (Str.ofString "ErrorBudget.__init__") (Value.none) (Value.none) (Value.none) (Value.none) (none) (Value.none) (Value.none) (0)
noncomputable def hdO241 (_ : Params) : Obj := { cls := Value.type "code", data := Data.fields #[Value.str (Str.ofString "__init__") 567, Value.str (Str.ofString "ErrorBudget.__init__") 568, Value.str (Str.ofString "/claim/cut.py") 569, Value.int 128 0, Value.int 3 0, Value.int 0 0, Value.int 0 0, Value.int 3 0, Value.ref 281, Value.bool Bool.true, Value.int 181 0, Value.ref 282, Value.none, Value.ref 283, Value.ref 284, Value.ref 285, Value.int 573 0, Value.int 128 0, Value.str (Str.ofString "/claim/cut.py") 574] }
noncomputable def hdO242 (_ : Params) : Obj := fnObj (in9 37 0) (Str.ofString "ErrorBudget.__init__") (Value.none) (Value.none) (Value.none) (Value.str (Str.ofString "thinstack.icmp_rules") 518) (none) (Value.ref 286) (Value.none) (0)
noncomputable def hdO243 (_ : Params) : Obj := { cls := Value.type "tuple", data := Data.seq #[Value.str (Str.ofString "self") 579, Value.str (Str.ofString "now") 580, Value.str (Str.ofString "many") 581] }
noncomputable def hdO244 (_ : Params) : Obj := fnObj0 (in9 37 1) (Str.ofString "ErrorBudget.refill") (Value.none) (Value.none) (Value.none) (Value.none) (none) (Value.none) (Value.none) (0)
noncomputable def hdO245 (_ : Params) : Obj := { cls := Value.type "code", data := Data.fields #[Value.str (Str.ofString "refill") 576, Value.str (Str.ofString "ErrorBudget.refill") 577, Value.str (Str.ofString "/claim/cut.py") 578, Value.int 134 0, Value.int 2 0, Value.int 0 0, Value.int 0 0, Value.int 3 0, Value.ref 288, Value.bool Bool.true, Value.int 181 0, Value.ref 289, Value.none, Value.ref 290, Value.ref 291, Value.ref 292, Value.int 582 0, Value.int 134 0, Value.str (Str.ofString "/claim/cut.py") 583] }
noncomputable def hdO246 (_ : Params) : Obj := fnObj (in9 37 1) (Str.ofString "ErrorBudget.refill") (Value.none) (Value.none) (Value.none) (Value.str (Str.ofString "thinstack.icmp_rules") 518) (none) (Value.ref 293) (Value.none) (0)
noncomputable def hdO247 (_ : Params) : Obj := { cls := Value.type "tuple", data := Data.seq #[Value.str (Str.ofString "self") 588, Value.str (Str.ofString "now") 589] }
noncomputable def hdO248 (_ : Params) : Obj := fnObj0 (in9 37 2) (Str.ofString "ErrorBudget.take") (Value.none) (Value.none) (Value.none) (Value.none) (none) (Value.none) (Value.none) (0)
noncomputable def hdO249 (_ : Params) : Obj := { cls := Value.type "code", data := Data.fields #[Value.str (Str.ofString "take") 585, Value.str (Str.ofString "ErrorBudget.take") 586, Value.str (Str.ofString "/claim/cut.py") 587, Value.int 146 0, Value.int 2 0, Value.int 0 0, Value.int 0 0, Value.int 3 0, Value.ref 295, Value.bool Bool.true, Value.int 181 0, Value.ref 296, Value.none, Value.ref 297, Value.ref 298, Value.ref 299, Value.int 590 0, Value.int 146 0, Value.str (Str.ofString "/claim/cut.py") 591] }
noncomputable def hdO250 (_ : Params) : Obj := fnObj (in9 37 2) (Str.ofString "ErrorBudget.take") (Value.none) (Value.none) (Value.none) (Value.str (Str.ofString "thinstack.icmp_rules") 518) (none) (Value.ref 300) (Value.none) (0)
noncomputable def hdO251 (_ : Params) : Obj := { cls := Value.type "tuple", data := Data.seq #[Value.str (Str.ofString "left") 593, Value.str (Str.ofString "most") 594, Value.str (Str.ofString "refill_after") 595, Value.str (Str.ofString "since") 596] }
noncomputable def hdO252 (P : Params) : Obj := { cls := Value.type "dict", data := Data.dict #[{ hash := PyData.keyHash P (Str.ofString "__module__"), key := Value.str (Str.ofString "__module__") 562, val := Value.str (Str.ofString "thinstack.icmp_rules") 518 }, { hash := PyData.keyHash P (Str.ofString "__firstlineno__"), key := Value.str (Str.ofString "__firstlineno__") 566, val := Value.int 126 565 }, { hash := PyData.keyHash P (Str.ofString "__init__"), key := Value.str (Str.ofString "__init__") 575, val := Value.ref 287 }, { hash := PyData.keyHash P (Str.ofString "refill"), key := Value.str (Str.ofString "refill") 584, val := Value.ref 294 }, { hash := PyData.keyHash P (Str.ofString "take"), key := Value.str (Str.ofString "take") 592, val := Value.ref 301 }, { hash := PyData.keyHash P (Str.ofString "__static_attributes__"), key := Value.str (Str.ofString "__static_attributes__") 597, val := Value.ref 302 }, { hash := PyData.keyHash P (Str.ofString "__dict__"), key := Value.str (Str.ofString "__dict__") 599, val := Value.ref 305 }, { hash := PyData.keyHash P (Str.ofString "__weakref__"), key := Value.str (Str.ofString "__weakref__") 601, val := Value.ref 306 }, { hash := PyData.keyHash P (Str.ofString "__doc__"), key := Value.str (Str.ofString "__doc__") 602, val := Value.none }] 4 }
noncomputable def hdO253 (_ : Params) : Obj := { cls := Value.type "type", data := Data.cls { name := Str.ofString "ErrorBudget", bases := [Value.type "object"], mro := [Value.ref 304, Value.type "object"], ns := 303, qualname := Str.ofString "ErrorBudget" }, slots := #[none, none, some (Value.str (Str.ofString "ErrorBudget") 555), some (Value.str (Str.ofString "ErrorBudget") 563), some (Value.builtin "object.__new__"), some (Value.bool Bool.true)] }
noncomputable def hdO254 (_ : Params) : Obj := { cls := Value.type "getset_descriptor", data := Data.fields #[Value.str (Str.ofString "__dict__") 598, Value.ref 304, Value.builtin "function.__dict__", Value.builtin "function.__dict__#set"] }
noncomputable def hdO255 (_ : Params) : Obj := { cls := Value.type "getset_descriptor", data := Data.fields #[Value.str (Str.ofString "__weakref__") 600, Value.ref 304, Value.builtin "ExceptionGroup.__weakref__", Value.none] }
noncomputable def hdO256 (_ : Params) : Obj := { cls := Value.type "super", data := Data.fields #[Value.ref 304, Value.ref 304, Value.ref 304] }
noncomputable def hdO257 (_ : Params) : Obj := { cls := Value.type "builtin_function_or_method", data := Data.fields #[Value.builtin "object.__init_subclass__", Value.ref 304] }
noncomputable def hdO261 (_ : Params) : Obj := { cls := Value.type "tuple", data := Data.seq #[Value.str (Str.ofString "script") 610, Value.str (Str.ofString "k") 611, Value.str (Str.ofString "cell") 612, Value.str (Str.ofString "big") 613, Value.str (Str.ofString "mixed") 614] }
noncomputable def hdO262 (_ : Params) : Obj := fnObj0 (st9 39) (Str.ofString "_law_pool") (Value.none) (Value.none) (Value.none) (Value.none) (none) (Value.none) (Value.none) (0)
noncomputable def hdO263 (_ : Params) : Obj := { cls := Value.type "code", data := Data.fields #[Value.str (Str.ofString "_law_pool") 607, Value.str (Str.ofString "_law_pool") 608, Value.str (Str.ofString "/claim/cut.py") 609, Value.int 153 0, Value.int 2 0, Value.int 0 0, Value.int 0 0, Value.int 3 0, Value.ref 309, Value.bool Bool.true, Value.int 181 0, Value.ref 310, Value.none, Value.ref 311, Value.ref 312, Value.ref 313, Value.int 615 0, Value.int 153 0, Value.str (Str.ofString "/claim/cut.py") 616] }
noncomputable def hdO264 (_ : Params) : Obj := fnObj (st9 39) (Str.ofString "_law_pool") (Value.none) (Value.none) (Value.none) (Value.str (Str.ofString "law_on0342_01") 605) (none) (Value.ref 314) (Value.none) (0)
noncomputable def hdO267 (_ : Params) : Obj := { cls := Value.type "tuple", data := Data.seq #[Value.str (Str.ofString "source") 621, Value.str (Str.ofString "top") 622, Value.str (Str.ofString "drawn") 623] }
noncomputable def hdO268 (_ : Params) : Obj := fnObj0 (st9 40) (Str.ofString "_law_take") (Value.none) (Value.none) (Value.none) (Value.none) (none) (Value.none) (Value.none) (0)
noncomputable def hdO269 (_ : Params) : Obj := { cls := Value.type "code", data := Data.fields #[Value.str (Str.ofString "_law_take") 618, Value.str (Str.ofString "_law_take") 619, Value.str (Str.ofString "/claim/cut.py") 620, Value.int 160 0, Value.int 2 0, Value.int 0 0, Value.int 0 0, Value.int 3 0, Value.ref 316, Value.bool Bool.true, Value.int 181 0, Value.ref 317, Value.none, Value.ref 318, Value.ref 319, Value.ref 320, Value.int 624 0, Value.int 160 0, Value.str (Str.ofString "/claim/cut.py") 625] }
noncomputable def hdO270 (_ : Params) : Obj := fnObj (st9 40) (Str.ofString "_law_take") (Value.none) (Value.none) (Value.none) (Value.str (Str.ofString "law_on0342_01") 605) (none) (Value.ref 321) (Value.none) (0)
noncomputable def hdO273 (_ : Params) : Obj := { cls := Value.type "tuple", data := Data.seq #[Value.str (Str.ofString "source") 630, Value.str (Str.ofString "things") 631] }
noncomputable def hdO274 (_ : Params) : Obj := fnObj0 (st9 41) (Str.ofString "_law_one") (Value.none) (Value.none) (Value.none) (Value.none) (none) (Value.none) (Value.none) (0)
noncomputable def hdO275 (_ : Params) : Obj := { cls := Value.type "code", data := Data.fields #[Value.str (Str.ofString "_law_one") 627, Value.str (Str.ofString "_law_one") 628, Value.str (Str.ofString "/claim/cut.py") 629, Value.int 167 0, Value.int 2 0, Value.int 0 0, Value.int 0 0, Value.int 3 0, Value.ref 323, Value.bool Bool.true, Value.int 181 0, Value.ref 324, Value.none, Value.ref 325, Value.ref 326, Value.ref 327, Value.int 632 0, Value.int 167 0, Value.str (Str.ofString "/claim/cut.py") 633] }
noncomputable def hdO276 (_ : Params) : Obj := fnObj (st9 41) (Str.ofString "_law_one") (Value.none) (Value.none) (Value.none) (Value.str (Str.ofString "law_on0342_01") 605) (none) (Value.ref 328) (Value.none) (0)
noncomputable def hdO279 (_ : Params) : Obj := { cls := Value.type "tuple", data := Data.seq #[Value.str (Str.ofString "source") 638, Value.str (Str.ofString "first") 639] }
noncomputable def hdO280 (_ : Params) : Obj := fnObj0 (st9 42) (Str.ofString "_law_address") (Value.none) (Value.none) (Value.none) (Value.none) (none) (Value.none) (Value.none) (0)
noncomputable def hdO281 (_ : Params) : Obj := { cls := Value.type "code", data := Data.fields #[Value.str (Str.ofString "_law_address") 635, Value.str (Str.ofString "_law_address") 636, Value.str (Str.ofString "/claim/cut.py") 637, Value.int 169 0, Value.int 1 0, Value.int 0 0, Value.int 0 0, Value.int 3 0, Value.ref 330, Value.bool Bool.true, Value.int 181 0, Value.ref 331, Value.none, Value.ref 332, Value.ref 333, Value.ref 334, Value.int 640 0, Value.int 169 0, Value.str (Str.ofString "/claim/cut.py") 641] }
noncomputable def hdO282 (_ : Params) : Obj := fnObj (st9 42) (Str.ofString "_law_address") (Value.none) (Value.none) (Value.none) (Value.str (Str.ofString "law_on0342_01") 605) (none) (Value.ref 335) (Value.none) (0)
noncomputable def hdO285 (_ : Params) : Obj := { cls := Value.type "tuple", data := Data.seq #[Value.str (Str.ofString "octets") 646, Value.str (Str.ofString "total") 647, Value.str (Str.ofString "padded") 648, Value.str (Str.ofString "k") 649] }
noncomputable def hdO286 (_ : Params) : Obj := fnObj0 (st9 43) (Str.ofString "_law_words") (Value.none) (Value.none) (Value.none) (Value.none) (none) (Value.none) (Value.none) (0)
noncomputable def hdO287 (_ : Params) : Obj := { cls := Value.type "code", data := Data.fields #[Value.str (Str.ofString "_law_words") 643, Value.str (Str.ofString "_law_words") 644, Value.str (Str.ofString "/claim/cut.py") 645, Value.int 172 0, Value.int 1 0, Value.int 0 0, Value.int 0 0, Value.int 3 0, Value.ref 337, Value.bool Bool.true, Value.int 181 0, Value.ref 338, Value.none, Value.ref 339, Value.ref 340, Value.ref 341, Value.int 650 0, Value.int 172 0, Value.str (Str.ofString "/claim/cut.py") 651] }
noncomputable def hdO288 (_ : Params) : Obj := fnObj (st9 43) (Str.ofString "_law_words") (Value.none) (Value.none) (Value.none) (Value.str (Str.ofString "law_on0342_01") 605) (none) (Value.ref 342) (Value.none) (0)
noncomputable def hdO291 (_ : Params) : Obj := { cls := Value.type "tuple", data := Data.seq #[Value.str (Str.ofString "call") 656] }
noncomputable def hdO292 (_ : Params) : Obj := fnObj0 (st9 44) (Str.ofString "_law_refused") (Value.none) (Value.none) (Value.none) (Value.none) (none) (Value.none) (Value.none) (0)
noncomputable def hdO293 (_ : Params) : Obj := { cls := Value.type "code", data := Data.fields #[Value.str (Str.ofString "_law_refused") 653, Value.str (Str.ofString "_law_refused") 654, Value.str (Str.ofString "/claim/cut.py") 655, Value.int 180 0, Value.int 1 0, Value.int 0 0, Value.int 0 0, Value.int 3 0, Value.ref 344, Value.bool Bool.true, Value.int 181 0, Value.ref 345, Value.none, Value.ref 346, Value.ref 347, Value.ref 348, Value.int 657 0, Value.int 180 0, Value.str (Str.ofString "/claim/cut.py") 658] }
noncomputable def hdO294 (_ : Params) : Obj := fnObj (st9 44) (Str.ofString "_law_refused") (Value.none) (Value.none) (Value.none) (Value.str (Str.ofString "law_on0342_01") 605) (none) (Value.ref 349) (Value.none) (0)
noncomputable def hdO297 (_ : Params) : Obj := fnObj0 (st9 45) (Str.ofString "_law_packet_right") (Value.none) (Value.none) (Value.none) (Value.none) (none) (Value.none) (Value.none) (0)
noncomputable def hdO298 (_ : Params) : Obj := { cls := Value.type "code", data := Data.fields #[Value.str (Str.ofString "_law_packet_right") 660, Value.str (Str.ofString "_law_packet_right") 661, Value.str (Str.ofString "/claim/cut.py") 662, Value.int 186 0, Value.int 1 0, Value.int 0 0, Value.int 0 0, Value.int 3 0, Value.ref 351, Value.bool Bool.true, Value.int 181 0, Value.ref 352, Value.none, Value.none, Value.none, Value.ref 353, Value.int 663 0, Value.int 186 0, Value.str (Str.ofString "/claim/cut.py") 664] }
noncomputable def hdO299 (_ : Params) : Obj := fnObj (st9 45) (Str.ofString "_law_packet_right") (Value.none) (Value.none) (Value.none) (Value.str (Str.ofString "law_on0342_01") 605) (none) (Value.ref 354) (Value.none) (0)
noncomputable def hdO302 (_ : Params) : Obj := { cls := Value.type "tuple", data := Data.seq #[Value.str (Str.ofString "source") 669, Value.str (Str.ofString "most") 670, Value.str (Str.ofString "every") 671, Value.str (Str.ofString "budget") 672, Value.str (Str.ofString "now") 673, Value.str (Str.ofString "left") 674, Value.str (Str.ofString "waited") 675, Value.str (Str.ofString "turn") 676, Value.str (Str.ofString "tick") 677, Value.str (Str.ofString "due") 678] }
noncomputable def hdO303 (_ : Params) : Obj := fnObj0 (st9 46) (Str.ofString "_law_budget_right") (Value.none) (Value.none) (Value.none) (Value.none) (none) (Value.none) (Value.none) (0)
noncomputable def hdO304 (_ : Params) : Obj := { cls := Value.type "code", data := Data.fields #[Value.str (Str.ofString "_law_budget_right") 666, Value.str (Str.ofString "_law_budget_right") 667, Value.str (Str.ofString "/claim/cut.py") 668, Value.int 198 0, Value.int 1 0, Value.int 0 0, Value.int 0 0, Value.int 3 0, Value.ref 356, Value.bool Bool.true, Value.int 181 0, Value.ref 357, Value.none, Value.ref 358, Value.ref 359, Value.ref 360, Value.int 679 0, Value.int 198 0, Value.str (Str.ofString "/claim/cut.py") 680] }
noncomputable def hdO305 (_ : Params) : Obj := fnObj (st9 46) (Str.ofString "_law_budget_right") (Value.none) (Value.none) (Value.none) (Value.str (Str.ofString "law_on0342_01") 605) (none) (Value.ref 361) (Value.none) (0)
noncomputable def hdO306 (P : Params) : Obj := { cls := Value.type "dict", data := Data.dict #[{ hash := PyData.keyHash P (Str.ofString "__name__"), key := Value.str (Str.ofString "__name__") 165, val := Value.str (Str.ofString "law_on0342_01") 605 }, { hash := PyData.keyHash P (Str.ofString "__doc__"), key := Value.str (Str.ofString "__doc__") 166, val := Value.none }, { hash := PyData.keyHash P (Str.ofString "__package__"), key := Value.str (Str.ofString "__package__") 167, val := Value.none }, { hash := PyData.keyHash P (Str.ofString "__loader__"), key := Value.str (Str.ofString "__loader__") 168, val := Value.builtin "__main__.__loader__#opaque" }, { hash := PyData.keyHash P (Str.ofString "__spec__"), key := Value.str (Str.ofString "__spec__") 169, val := Value.none }, { hash := PyData.keyHash P (Str.ofString "__annotations__"), key := Value.str (Str.ofString "__annotations__") 170, val := Value.ref 6 }, { hash := PyData.keyHash P (Str.ofString "__builtins__"), key := Value.str (Str.ofString "__builtins__") 171, val := Value.ref 4 }, { hash := PyData.keyHash P (Str.ofString "__file__"), key := Value.str (Str.ofString "__file__") 173, val := Value.str (Str.ofString "/claim/cut.py") 172 }, { hash := PyData.keyHash P (Str.ofString "__cached__"), key := Value.str (Str.ofString "__cached__") 174, val := Value.none }, { hash := PyData.keyHash P (Str.ofString "_wall"), key := Value.str (Str.ofString "_wall") 193, val := Value.ref 21 }, { hash := PyData.keyHash P (Str.ofString "StackError"), key := Value.str (Str.ofString "StackError") 224, val := Value.ref 38 }, { hash := PyData.keyHash P (Str.ofString "FormError"), key := Value.str (Str.ofString "FormError") 240, val := Value.ref 51 }, { hash := PyData.keyHash P (Str.ofString "put16"), key := Value.str (Str.ofString "put16") 249, val := Value.ref 60 }, { hash := PyData.keyHash P (Str.ofString "put32"), key := Value.str (Str.ofString "put32") 256, val := Value.ref 67 }, { hash := PyData.keyHash P (Str.ofString "need"), key := Value.str (Str.ofString "need") 265, val := Value.ref 74 }, { hash := PyData.keyHash P (Str.ofString "get16"), key := Value.str (Str.ofString "get16") 273, val := Value.ref 81 }, { hash := PyData.keyHash P (Str.ofString "ALL_ONES"), key := Value.str (Str.ofString "ALL_ONES") 277, val := Value.int 65535 276 }, { hash := PyData.keyHash P (Str.ofString "fold"), key := Value.str (Str.ofString "fold") 284, val := Value.ref 88 }, { hash := PyData.keyHash P (Str.ofString "ones_sum"), key := Value.str (Str.ofString "ones_sum") 296, val := Value.ref 96 }, { hash := PyData.keyHash P (Str.ofString "checksum"), key := Value.str (Str.ofString "checksum") 305, val := Value.ref 104 }, { hash := PyData.keyHash P (Str.ofString "UNREACHABLE"), key := Value.str (Str.ofString "UNREACHABLE") 309, val := Value.int 3 308 }, { hash := PyData.keyHash P (Str.ofString "SOURCE_QUENCH"), key := Value.str (Str.ofString "SOURCE_QUENCH") 311, val := Value.int 4 310 }, { hash := PyData.keyHash P (Str.ofString "REDIRECT"), key := Value.str (Str.ofString "REDIRECT") 313, val := Value.int 5 312 }, { hash := PyData.keyHash P (Str.ofString "EXCEEDED"), key := Value.str (Str.ofString "EXCEEDED") 315, val := Value.int 11 314 }, { hash := PyData.keyHash P (Str.ofString "PROBLEM"), key := Value.str (Str.ofString "PROBLEM") 317, val := Value.int 12 316 }, { hash := PyData.keyHash P (Str.ofString "HEAD_SIZE"), key := Value.str (Str.ofString "HEAD_SIZE") 319, val := Value.int 8 318 }, { hash := PyData.keyHash P (Str.ofString "IcmpMessage"), key := Value.str (Str.ofString "IcmpMessage") 390, val := Value.ref 156 }, { hash := PyData.keyHash P (Str.ofString "is_error_kind"), key := Value.str (Str.ofString "is_error_kind") 397, val := Value.ref 167 }, { hash := PyData.keyHash P (Str.ofString "check_octet"), key := Value.str (Str.ofString "check_octet") 405, val := Value.ref 174 }, { hash := PyData.keyHash P (Str.ofString "pack_icmp"), key := Value.str (Str.ofString "pack_icmp") 414, val := Value.ref 181 }, { hash := PyData.keyHash P (Str.ofString "sum_in"), key := Value.str (Str.ofString "sum_in") 421, val := Value.ref 188 }, { hash := PyData.keyHash P (Str.ofString "ICMP"), key := Value.str (Str.ofString "ICMP") 425, val := Value.int 1 424 }, { hash := PyData.keyHash P (Str.ofString "LEAST_HEAD"), key := Value.str (Str.ofString "LEAST_HEAD") 427, val := Value.int 20 426 }, { hash := PyData.keyHash P (Str.ofString "IpHeader"), key := Value.str (Str.ofString "IpHeader") 517, val := Value.ref 241 }, { hash := PyData.keyHash P (Str.ofString "FIRST_GROUP"), key := Value.str (Str.ofString "FIRST_GROUP") 523, val := Value.int 3758096384 522 }, { hash := PyData.keyHash P (Str.ofString "LOOP_NET"), key := Value.str (Str.ofString "LOOP_NET") 525, val := Value.int 127 524 }, { hash := PyData.keyHash P (Str.ofString "is_group"), key := Value.str (Str.ofString "is_group") 532, val := Value.ref 252 }, { hash := PyData.keyHash P (Str.ofString "is_one_host"), key := Value.str (Str.ofString "is_one_host") 539, val := Value.ref 259 }, { hash := PyData.keyHash P (Str.ofString "carries_error"), key := Value.str (Str.ofString "carries_error") 547, val := Value.ref 266 }, { hash := PyData.keyHash P (Str.ofString "told_size"), key := Value.str (Str.ofString "told_size") 554, val := Value.ref 273 }, { hash := PyData.keyHash P (Str.ofString "ErrorBudget"), key := Value.str (Str.ofString "ErrorBudget") 604, val := Value.ref 304 }, { hash := PyData.keyHash P (Str.ofString "_law_pool"), key := Value.str (Str.ofString "_law_pool") 617, val := Value.ref 315 }, { hash := PyData.keyHash P (Str.ofString "_law_take"), key := Value.str (Str.ofString "_law_take") 626, val := Value.ref 322 }, { hash := PyData.keyHash P (Str.ofString "_law_one"), key := Value.str (Str.ofString "_law_one") 634, val := Value.ref 329 }, { hash := PyData.keyHash P (Str.ofString "_law_address"), key := Value.str (Str.ofString "_law_address") 642, val := Value.ref 336 }, { hash := PyData.keyHash P (Str.ofString "_law_words"), key := Value.str (Str.ofString "_law_words") 652, val := Value.ref 343 }, { hash := PyData.keyHash P (Str.ofString "_law_refused"), key := Value.str (Str.ofString "_law_refused") 659, val := Value.ref 350 }, { hash := PyData.keyHash P (Str.ofString "_law_packet_right"), key := Value.str (Str.ofString "_law_packet_right") 665, val := Value.ref 355 }, { hash := PyData.keyHash P (Str.ofString "_law_budget_right"), key := Value.str (Str.ofString "_law_budget_right") 681, val := Value.ref 362 }, { hash := PyData.keyHash P (Str.ofString "law"), key := Value.str (Str.ofString "law") 695, val := Value.ref 369 }] 50 }
noncomputable def hdO307 (_ : Params) : Obj := { cls := Value.none, data := Data.fields #[Value.int 1 0, Value.int 0 0, Value.ref 20, Value.int 5 0, Value.int 0 0, Value.ref 27, Value.int 9 0, Value.int 0 0, Value.ref 47, Value.int 12 0, Value.int 0 0, Value.ref 59, Value.int 14 0, Value.int 0 0, Value.ref 66, Value.int 16 0, Value.int 0 0, Value.ref 73, Value.int 19 0, Value.int 0 0, Value.ref 80, Value.int 24 0, Value.int 0 0, Value.ref 87, Value.int 28 0, Value.int 0 0, Value.ref 95, Value.int 36 0, Value.int 0 0, Value.ref 103, Value.int 45 0, Value.int 0 0, Value.ref 110, Value.int 67 0, Value.int 0 0, Value.ref 166, Value.int 69 0, Value.int 0 0, Value.ref 173, Value.int 72 0, Value.int 0 0, Value.ref 180, Value.int 80 0, Value.int 0 0, Value.ref 187, Value.int 85 0, Value.int 0 0, Value.ref 194, Value.int 116 0, Value.int 0 0, Value.ref 251, Value.int 118 0, Value.int 0 0, Value.ref 258, Value.int 120 0, Value.int 0 0, Value.ref 265, Value.int 124 0, Value.int 0 0, Value.ref 272, Value.int 126 0, Value.int 0 0, Value.ref 279, Value.int 153 0, Value.int 0 0, Value.ref 314, Value.int 160 0, Value.int 0 0, Value.ref 321, Value.int 167 0, Value.int 0 0, Value.ref 328, Value.int 169 0, Value.int 0 0, Value.ref 335, Value.int 172 0, Value.int 0 0, Value.ref 342, Value.int 180 0, Value.int 0 0, Value.ref 349, Value.int 186 0, Value.int 0 0, Value.ref 354, Value.int 198 0, Value.int 0 0, Value.ref 361, Value.int 217 0, Value.int 0 0, Value.ref 368] }
noncomputable def hdO308 (_ : Params) : Obj := { cls := Value.type "tuple", data := Data.seq #[Value.str (Str.ofString "script") 685, Value.str (Str.ofString "k") 686, Value.str (Str.ofString "source") 687, Value.str (Str.ofString "turn") 688, Value.str (Str.ofString "address") 689, Value.str (Str.ofString "first") 690, Value.str (Str.ofString "budget") 691] }
noncomputable def hdO309 (_ : Params) : Obj := { cls := Value.type "tuple", data := Data.seq #[Value.str (Str.ofString "number") 692] }
noncomputable def hdO310 (_ : Params) : Obj := fnObj0 (st9 47) (Str.ofString "law") (Value.none) (Value.none) (Value.none) (Value.none) (none) (Value.none) (Value.none) (0)
noncomputable def hdO311 (_ : Params) : Obj := { cls := Value.type "code", data := Data.fields #[Value.str (Str.ofString "law") 682, Value.str (Str.ofString "law") 683, Value.str (Str.ofString "/claim/cut.py") 684, Value.int 217 0, Value.int 1 0, Value.int 0 0, Value.int 0 0, Value.int 3 0, Value.ref 363, Value.bool Bool.true, Value.int 181 0, Value.ref 364, Value.none, Value.ref 365, Value.ref 366, Value.ref 367, Value.int 693 0, Value.int 217 0, Value.str (Str.ofString "/claim/cut.py") 694] }
noncomputable def hdO312 (_ : Params) : Obj := fnObj (st9 47) (Str.ofString "law") (Value.none) (Value.none) (Value.none) (Value.str (Str.ofString "law_on0342_01") 605) (none) (Value.ref 368) (Value.none) (0)
noncomputable def hdEnv : Env := { scope := PySem.Challenge.pw_on0342_01.main.scope, locals := mainNs, globals := mainNs, cells := [], code := Value.ref 13, frame := some 14 }
noncomputable abbrev hdBody : List Stmt := behindTheImports PySem.Challenge.pw_on0342_01
noncomputable abbrev hdCode : Code := .body hdBody hdEnv
noncomputable abbrev hdPos : Pos := { line := 0, col := 0, endLine := 0, endCol := 0 }
noncomputable abbrev hdAnn : Option Value := some (Value.ref 6)
noncomputable def hdSts (i n : Nat) : List Stmt := (hdBody.drop i).take n
noncomputable def hdTrb (P : Params) : BT := .node (boot_o_0 P) (.node (boot_o_1 P) (.node (boot_o_3 P) (.node (boot_o_7 P) (.nil) (.nil)) (.node (boot_o_7 P) (.nil) (.nil))) (.node (boot_o_5 P) (.node (boot_o_9 P) (.nil) (.nil)) (.node (hdO11 P) (.nil) (.nil)))) (.node (boot_o_2 P) (.node (boot_o_4 P) (.node (boot_o_8 P) (.nil) (.nil)) (.node (boot_o_8 P) (.nil) (.nil))) (.node (boot_o_6 P) (.node (boot_o_10 P) (.nil) (.nil)) (.node (hdO12 P) (.nil) (.nil))))
noncomputable def hdStb (w : World) (os : OsState) : SharedT := ⟨hdTrb w.params, nat_lit 15, {}, #[], {}, nat_lit 187, os⟩
noncomputable def hdTrp3 (P : Params) : BT := .node (boot_o_0 P) (.node (boot_o_1 P) (.node (hdO39 P) (.node (boot_o_7 P) (.node (boot_o_7 P) (.node (hdO29 P) (.nil) (.nil)) (.node (hdO44 P) (.nil) (.nil))) (.node (hdO24 P) (.node (hdO36 P) (.nil) (.nil)) (.nil))) (.node (boot_o_7 P) (.node (hdO16 P) (.node (hdO32 P) (.nil) (.nil)) (.node (hdO47 P) (.nil) (.nil))) (.node (hdO27 P) (.node (hdO24 P) (.nil) (.nil)) (.nil)))) (.node (boot_o_5 P) (.node (boot_o_9 P) (.node (hdO15 P) (.node (hdO30 P) (.nil) (.nil)) (.node (boot_o_7 P) (.nil) (.nil))) (.node (boot_o_7 P) (.node (hdO38 P) (.nil) (.nil)) (.nil))) (.node (hdO11 P) (.node (hdO18 P) (.node (hdO34 P) (.nil) (.nil)) (.node (hdO49 P) (.nil) (.nil))) (.node (boot_o_7 P) (.node (boot_o_7 P) (.nil) (.nil)) (.nil))))) (.node (hdO20 P) (.node (boot_o_4 P) (.node (boot_o_8 P) (.node (boot_o_8 P) (.node (boot_o_7 P) (.nil) (.nil)) (.node (hdO45 P) (.nil) (.nil))) (.node (hdO25 P) (.node (hdO37 P) (.nil) (.nil)) (.nil))) (.node (hdO40 P) (.node (hdO17 P) (.node (hdO33 P) (.nil) (.nil)) (.node (hdO48 P) (.nil) (.nil))) (.node (hdO28 P) (.node (hdO43 P) (.nil) (.nil)) (.nil)))) (.node (boot_o_6 P) (.node (boot_o_10 P) (.node (boot_o_7 P) (.node (hdO31 P) (.nil) (.nil)) (.node (hdO46 P) (.nil) (.nil))) (.node (hdO26 P) (.node (hdO42 P) (.nil) (.nil)) (.nil))) (.node (hdO12 P) (.node (hdO23 P) (.node (hdO41 P) (.nil) (.nil)) (.nil)) (.node (boot_o_8 P) (.node (boot_o_8 P) (.nil) (.nil)) (.nil)))))
noncomputable def hdStp3 (w : World) (os : OsState) : SharedT := ⟨hdTrp3 w.params, nat_lit 54, {}, #[], {}, nat_lit 241, os⟩
noncomputable def hdTrp20 (P : Params) : BT := .node (boot_o_0 P) (.node (boot_o_1 P) (.node (hdO103 P) (.node (boot_o_7 P) (.node (boot_o_7 P) (.node (hdO29 P) (.node (hdO59 P) (.nil) (.nil)) (.node (hdO88 P) (.nil) (.nil))) (.node (hdO44 P) (.node (hdO72 P) (.nil) (.nil)) (.nil))) (.node (hdO24 P) (.node (hdO36 P) (.node (boot_o_7 P) (.nil) (.nil)) (.node (hdO95 P) (.nil) (.nil))) (.node (boot_o_8 P) (.node (hdO81 P) (.nil) (.nil)) (.nil)))) (.node (boot_o_7 P) (.node (hdO16 P) (.node (hdO32 P) (.node (hdO62 P) (.nil) (.nil)) (.node (boot_o_8 P) (.nil) (.nil))) (.node (hdO47 P) (.node (boot_o_8 P) (.nil) (.nil)) (.nil))) (.node (hdO27 P) (.node (hdO24 P) (.node (boot_o_7 P) (.nil) (.nil)) (.nil)) (.node (hdO55 P) (.node (boot_o_8 P) (.nil) (.nil)) (.nil))))) (.node (boot_o_5 P) (.node (boot_o_9 P) (.node (hdO15 P) (.node (hdO30 P) (.node (hdO60 P) (.nil) (.nil)) (.node (hdO92 P) (.nil) (.nil))) (.node (boot_o_7 P) (.node (hdO74 P) (.nil) (.nil)) (.nil))) (.node (boot_o_7 P) (.node (hdO38 P) (.node (hdO67 P) (.nil) (.nil)) (.nil)) (.node (boot_o_7 P) (.node (hdO85 P) (.nil) (.nil)) (.nil)))) (.node (hdO11 P) (.node (hdO18 P) (.node (hdO34 P) (.node (boot_o_8 P) (.nil) (.nil)) (.node (boot_o_7 P) (.nil) (.nil))) (.node (hdO49 P) (.node (boot_o_7 P) (.nil) (.nil)) (.nil))) (.node (boot_o_7 P) (.node (boot_o_7 P) (.node (hdO71 P) (.nil) (.nil)) (.nil)) (.node (boot_o_7 P) (.node (boot_o_7 P) (.nil) (.nil)) (.nil)))))) (.node (hdO20 P) (.node (boot_o_4 P) (.node (boot_o_8 P) (.node (boot_o_8 P) (.node (boot_o_7 P) (.node (boot_o_7 P) (.nil) (.nil)) (.node (hdO89 P) (.nil) (.nil))) (.node (hdO45 P) (.node (hdO73 P) (.nil) (.nil)) (.nil))) (.node (hdO25 P) (.node (hdO37 P) (.node (hdO66 P) (.nil) (.nil)) (.node (hdO96 P) (.nil) (.nil))) (.node (hdO53 P) (.node (hdO82 P) (.nil) (.nil)) (.nil)))) (.node (hdO91 P) (.node (hdO17 P) (.node (hdO33 P) (.node (boot_o_7 P) (.nil) (.nil)) (.node (hdO93 P) (.nil) (.nil))) (.node (hdO48 P) (.node (hdO79 P) (.nil) (.nil)) (.nil))) (.node (hdO28 P) (.node (hdO43 P) (.node (boot_o_8 P) (.nil) (.nil)) (.nil)) (.node (hdO56 P) (.node (hdO86 P) (.nil) (.nil)) (.nil))))) (.node (boot_o_6 P) (.node (boot_o_10 P) (.node (boot_o_7 P) (.node (hdO31 P) (.node (hdO61 P) (.nil) (.nil)) (.node (boot_o_7 P) (.nil) (.nil))) (.node (hdO46 P) (.node (boot_o_7 P) (.nil) (.nil)) (.nil))) (.node (hdO26 P) (.node (hdO42 P) (.node (hdO68 P) (.nil) (.nil)) (.nil)) (.node (hdO54 P) (.node (boot_o_7 P) (.nil) (.nil)) (.nil)))) (.node (hdO12 P) (.node (hdO23 P) (.node (hdO41 P) (.node (hdO65 P) (.nil) (.nil)) (.node (hdO94 P) (.nil) (.nil))) (.node (boot_o_7 P) (.node (hdO80 P) (.nil) (.nil)) (.nil))) (.node (boot_o_8 P) (.node (boot_o_8 P) (.node (boot_o_7 P) (.nil) (.nil)) (.nil)) (.node (boot_o_8 P) (.node (hdO87 P) (.nil) (.nil)) (.nil))))))
noncomputable def hdStp20 (w : World) (os : OsState) : SharedT := ⟨hdTrp20 w.params, nat_lit 105, {}, #[], {}, nat_lit 320, os⟩
noncomputable def hdTrp28 (P : Params) : BT := .node (boot_o_0 P) (.node (boot_o_1 P) (.node (hdO167 P) (.node (boot_o_7 P) (.node (boot_o_7 P) (.node (hdO29 P) (.node (hdO59 P) (.node (boot_o_8 P) (.nil) (.nil)) (.nil)) (.node (hdO88 P) (.node (hdO139 P) (.nil) (.nil)) (.nil))) (.node (hdO44 P) (.node (hdO72 P) (.node (boot_o_7 P) (.nil) (.nil)) (.nil)) (.node (hdO109 P) (.node (boot_o_7 P) (.nil) (.nil)) (.nil)))) (.node (hdO24 P) (.node (hdO36 P) (.node (boot_o_7 P) (.node (hdO122 P) (.nil) (.nil)) (.nil)) (.node (hdO95 P) (.node (hdO146 P) (.nil) (.nil)) (.nil))) (.node (boot_o_8 P) (.node (hdO81 P) (.node (hdO131 P) (.nil) (.nil)) (.nil)) (.node (boot_o_7 P) (.node (boot_o_8 P) (.nil) (.nil)) (.nil))))) (.node (boot_o_7 P) (.node (hdO16 P) (.node (hdO32 P) (.node (hdO62 P) (.node (hdO120 P) (.nil) (.nil)) (.nil)) (.node (boot_o_8 P) (.node (hdO143 P) (.nil) (.nil)) (.nil))) (.node (hdO47 P) (.node (boot_o_8 P) (.node (boot_o_7 P) (.nil) (.nil)) (.nil)) (.node (boot_o_7 P) (.node (hdO156 P) (.nil) (.nil)) (.nil)))) (.node (hdO27 P) (.node (hdO24 P) (.node (boot_o_7 P) (.node (hdO125 P) (.nil) (.nil)) (.nil)) (.node (hdO106 P) (.node (boot_o_7 P) (.nil) (.nil)) (.nil))) (.node (hdO55 P) (.node (boot_o_8 P) (.node (hdO135 P) (.nil) (.nil)) (.nil)) (.node (hdO115 P) (.node (hdO163 P) (.nil) (.nil)) (.nil)))))) (.node (boot_o_5 P) (.node (boot_o_9 P) (.node (hdO15 P) (.node (hdO30 P) (.node (hdO60 P) (.node (boot_o_7 P) (.nil) (.nil)) (.nil)) (.node (hdO92 P) (.node (boot_o_7 P) (.nil) (.nil)) (.nil))) (.node (boot_o_7 P) (.node (hdO74 P) (.node (hdO128 P) (.nil) (.nil)) (.nil)) (.node (boot_o_8 P) (.node (hdO155 P) (.nil) (.nil)) (.nil)))) (.node (boot_o_7 P) (.node (hdO38 P) (.node (hdO67 P) (.node (hdO123 P) (.nil) (.nil)) (.nil)) (.node (boot_o_7 P) (.node (boot_o_8 P) (.nil) (.nil)) (.nil))) (.node (boot_o_7 P) (.node (hdO85 P) (.node (hdO133 P) (.nil) (.nil)) (.nil)) (.node (hdO114 P) (.node (boot_o_7 P) (.nil) (.nil)) (.nil))))) (.node (hdO11 P) (.node (hdO18 P) (.node (hdO34 P) (.node (boot_o_8 P) (.node (boot_o_7 P) (.nil) (.nil)) (.nil)) (.node (boot_o_7 P) (.node (hdO144 P) (.nil) (.nil)) (.nil))) (.node (hdO49 P) (.node (boot_o_7 P) (.node (hdO130 P) (.nil) (.nil)) (.nil)) (.node (hdO112 P) (.node (hdO158 P) (.nil) (.nil)) (.nil)))) (.node (boot_o_7 P) (.node (boot_o_7 P) (.node (hdO71 P) (.node (boot_o_8 P) (.nil) (.nil)) (.nil)) (.node (hdO107 P) (.node (hdO151 P) (.nil) (.nil)) (.nil))) (.node (boot_o_7 P) (.node (boot_o_7 P) (.node (hdO137 P) (.nil) (.nil)) (.nil)) (.node (hdO117 P) (.nil) (.nil))))))) (.node (hdO20 P) (.node (boot_o_4 P) (.node (boot_o_8 P) (.node (boot_o_8 P) (.node (boot_o_7 P) (.node (boot_o_7 P) (.node (hdO118 P) (.nil) (.nil)) (.nil)) (.node (hdO89 P) (.node (hdO140 P) (.nil) (.nil)) (.nil))) (.node (hdO45 P) (.node (hdO73 P) (.node (hdO127 P) (.nil) (.nil)) (.nil)) (.node (boot_o_7 P) (.node (boot_o_8 P) (.nil) (.nil)) (.nil)))) (.node (hdO25 P) (.node (hdO37 P) (.node (hdO66 P) (.node (boot_o_7 P) (.nil) (.nil)) (.nil)) (.node (hdO96 P) (.node (boot_o_7 P) (.nil) (.nil)) (.nil))) (.node (hdO53 P) (.node (hdO82 P) (.node (hdO132 P) (.nil) (.nil)) (.nil)) (.node (boot_o_8 P) (.node (hdO161 P) (.nil) (.nil)) (.nil))))) (.node (hdO160 P) (.node (hdO17 P) (.node (hdO33 P) (.node (boot_o_7 P) (.node (hdO121 P) (.nil) (.nil)) (.nil)) (.node (hdO93 P) (.node (boot_o_7 P) (.nil) (.nil)) (.nil))) (.node (hdO48 P) (.node (hdO79 P) (.node (boot_o_8 P) (.nil) (.nil)) (.nil)) (.node (hdO111 P) (.node (hdO157 P) (.nil) (.nil)) (.nil)))) (.node (hdO28 P) (.node (hdO43 P) (.node (boot_o_8 P) (.node (boot_o_7 P) (.nil) (.nil)) (.nil)) (.node (boot_o_7 P) (.node (hdO150 P) (.nil) (.nil)) (.nil))) (.node (hdO56 P) (.node (hdO86 P) (.node (hdO136 P) (.nil) (.nil)) (.nil)) (.node (hdO116 P) (.node (hdO164 P) (.nil) (.nil)) (.nil)))))) (.node (boot_o_6 P) (.node (boot_o_10 P) (.node (boot_o_7 P) (.node (hdO31 P) (.node (hdO61 P) (.node (hdO119 P) (.nil) (.nil)) (.nil)) (.node (boot_o_7 P) (.node (boot_o_8 P) (.nil) (.nil)) (.nil))) (.node (hdO46 P) (.node (boot_o_7 P) (.node (hdO129 P) (.nil) (.nil)) (.nil)) (.node (hdO110 P) (.node (boot_o_7 P) (.nil) (.nil)) (.nil)))) (.node (hdO26 P) (.node (hdO42 P) (.node (hdO68 P) (.node (hdO124 P) (.nil) (.nil)) (.nil)) (.node (hdO24 P) (.node (hdO149 P) (.nil) (.nil)) (.nil))) (.node (hdO54 P) (.node (boot_o_7 P) (.node (hdO134 P) (.nil) (.nil)) (.nil)) (.node (boot_o_7 P) (.node (hdO162 P) (.nil) (.nil)) (.nil))))) (.node (hdO12 P) (.node (hdO23 P) (.node (hdO41 P) (.node (hdO65 P) (.node (boot_o_8 P) (.nil) (.nil)) (.nil)) (.node (hdO94 P) (.node (hdO145 P) (.nil) (.nil)) (.nil))) (.node (boot_o_7 P) (.node (hdO80 P) (.node (boot_o_7 P) (.nil) (.nil)) (.nil)) (.node (hdO113 P) (.node (boot_o_7 P) (.nil) (.nil)) (.nil)))) (.node (boot_o_8 P) (.node (boot_o_8 P) (.node (boot_o_7 P) (.node (hdO126 P) (.nil) (.nil)) (.nil)) (.node (hdO108 P) (.node (hdO152 P) (.nil) (.nil)) (.nil))) (.node (boot_o_8 P) (.node (hdO87 P) (.node (hdO138 P) (.nil) (.nil)) (.nil)) (.node (boot_o_7 P) (.nil) (.nil)))))))
noncomputable def hdStp28 (w : World) (os : OsState) : SharedT := ⟨hdTrp28 w.params, nat_lit 189, {}, #[], {}, nat_lit 428, os⟩
noncomputable def hdTrp36 (P : Params) : BT := .node (boot_o_0 P) (.node (boot_o_1 P) (.node (hdO227 P) (.node (boot_o_7 P) (.node (boot_o_7 P) (.node (hdO29 P) (.node (hdO59 P) (.node (boot_o_8 P) (.node (hdO217 P) (.nil) (.nil)) (.nil)) (.node (hdO170 P) (.nil) (.nil))) (.node (hdO88 P) (.node (hdO139 P) (.nil) (.nil)) (.node (hdO189 P) (.nil) (.nil)))) (.node (hdO44 P) (.node (hdO72 P) (.node (boot_o_7 P) (.node (hdO230 P) (.nil) (.nil)) (.nil)) (.node (boot_o_7 P) (.nil) (.nil))) (.node (hdO109 P) (.node (boot_o_7 P) (.nil) (.nil)) (.node (hdO199 P) (.nil) (.nil))))) (.node (hdO24 P) (.node (hdO36 P) (.node (boot_o_7 P) (.node (hdO122 P) (.node (boot_o_7 P) (.nil) (.nil)) (.nil)) (.node (hdO175 P) (.nil) (.nil))) (.node (hdO95 P) (.node (hdO146 P) (.nil) (.nil)) (.node (hdO194 P) (.nil) (.nil)))) (.node (boot_o_8 P) (.node (hdO81 P) (.node (hdO131 P) (.nil) (.nil)) (.node (hdO184 P) (.nil) (.nil))) (.node (boot_o_7 P) (.node (boot_o_8 P) (.nil) (.nil)) (.node (boot_o_8 P) (.nil) (.nil)))))) (.node (boot_o_7 P) (.node (hdO16 P) (.node (hdO32 P) (.node (hdO62 P) (.node (hdO120 P) (.node (hdO220 P) (.nil) (.nil)) (.nil)) (.node (hdO173 P) (.nil) (.nil))) (.node (boot_o_8 P) (.node (hdO143 P) (.nil) (.nil)) (.node (hdO191 P) (.nil) (.nil)))) (.node (hdO47 P) (.node (boot_o_8 P) (.node (boot_o_7 P) (.nil) (.nil)) (.node (boot_o_7 P) (.nil) (.nil))) (.node (boot_o_7 P) (.node (hdO156 P) (.nil) (.nil)) (.node (hdO203 P) (.nil) (.nil))))) (.node (hdO27 P) (.node (hdO24 P) (.node (boot_o_7 P) (.node (hdO125 P) (.node (boot_o_7 P) (.nil) (.nil)) (.nil)) (.node (hdO178 P) (.nil) (.nil))) (.node (hdO106 P) (.node (boot_o_7 P) (.nil) (.nil)) (.node (boot_o_7 P) (.nil) (.nil)))) (.node (hdO55 P) (.node (boot_o_8 P) (.node (hdO135 P) (.nil) (.nil)) (.node (boot_o_8 P) (.nil) (.nil))) (.node (hdO115 P) (.node (hdO163 P) (.nil) (.nil)) (.node (hdO213 P) (.nil) (.nil))))))) (.node (boot_o_5 P) (.node (boot_o_9 P) (.node (hdO15 P) (.node (hdO30 P) (.node (hdO60 P) (.node (boot_o_7 P) (.node (hdO218 P) (.nil) (.nil)) (.nil)) (.node (hdO171 P) (.nil) (.nil))) (.node (hdO92 P) (.node (boot_o_7 P) (.nil) (.nil)) (.node (boot_o_7 P) (.nil) (.nil)))) (.node (boot_o_7 P) (.node (hdO74 P) (.node (hdO128 P) (.node (hdO232 P) (.nil) (.nil)) (.nil)) (.node (hdO181 P) (.nil) (.nil))) (.node (boot_o_8 P) (.node (hdO155 P) (.nil) (.nil)) (.node (hdO201 P) (.nil) (.nil))))) (.node (boot_o_7 P) (.node (hdO38 P) (.node (hdO67 P) (.node (hdO123 P) (.node (hdO225 P) (.nil) (.nil)) (.nil)) (.node (hdO176 P) (.nil) (.nil))) (.node (boot_o_7 P) (.node (boot_o_8 P) (.nil) (.nil)) (.node (boot_o_8 P) (.nil) (.nil)))) (.node (boot_o_7 P) (.node (hdO85 P) (.node (hdO133 P) (.nil) (.nil)) (.node (hdO186 P) (.nil) (.nil))) (.node (hdO114 P) (.node (boot_o_7 P) (.nil) (.nil)) (.node (boot_o_7 P) (.nil) (.nil)))))) (.node (hdO11 P) (.node (hdO18 P) (.node (hdO34 P) (.node (boot_o_8 P) (.node (boot_o_7 P) (.node (boot_o_8 P) (.nil) (.nil)) (.nil)) (.node (boot_o_7 P) (.nil) (.nil))) (.node (boot_o_7 P) (.node (hdO144 P) (.nil) (.nil)) (.node (hdO192 P) (.nil) (.nil)))) (.node (hdO49 P) (.node (boot_o_7 P) (.node (hdO130 P) (.nil) (.nil)) (.node (hdO183 P) (.nil) (.nil))) (.node (hdO112 P) (.node (hdO158 P) (.nil) (.nil)) (.node (hdO205 P) (.nil) (.nil))))) (.node (boot_o_7 P) (.node (boot_o_7 P) (.node (hdO71 P) (.node (boot_o_8 P) (.node (hdO229 P) (.nil) (.nil)) (.nil)) (.node (boot_o_8 P) (.nil) (.nil))) (.node (hdO107 P) (.node (hdO151 P) (.nil) (.nil)) (.node (hdO197 P) (.nil) (.nil)))) (.node (boot_o_7 P) (.node (boot_o_7 P) (.node (hdO137 P) (.nil) (.nil)) (.node (boot_o_7 P) (.nil) (.nil))) (.node (hdO117 P) (.node (boot_o_7 P) (.nil) (.nil)) (.node (boot_o_7 P) (.nil) (.nil)))))))) (.node (hdO20 P) (.node (boot_o_4 P) (.node (boot_o_8 P) (.node (boot_o_8 P) (.node (boot_o_7 P) (.node (boot_o_7 P) (.node (hdO118 P) (.node (boot_o_7 P) (.nil) (.nil)) (.nil)) (.node (boot_o_7 P) (.nil) (.nil))) (.node (hdO89 P) (.node (hdO140 P) (.nil) (.nil)) (.node (hdO190 P) (.nil) (.nil)))) (.node (hdO45 P) (.node (hdO73 P) (.node (hdO127 P) (.node (hdO231 P) (.nil) (.nil)) (.nil)) (.node (hdO180 P) (.nil) (.nil))) (.node (boot_o_7 P) (.node (boot_o_8 P) (.nil) (.nil)) (.node (hdO200 P) (.nil) (.nil))))) (.node (hdO25 P) (.node (hdO37 P) (.node (hdO66 P) (.node (boot_o_7 P) (.node (hdO224 P) (.nil) (.nil)) (.nil)) (.node (boot_o_7 P) (.nil) (.nil))) (.node (hdO96 P) (.node (boot_o_7 P) (.nil) (.nil)) (.node (boot_o_7 P) (.nil) (.nil)))) (.node (hdO53 P) (.node (hdO82 P) (.node (hdO132 P) (.nil) (.nil)) (.node (hdO185 P) (.nil) (.nil))) (.node (boot_o_8 P) (.node (hdO161 P) (.nil) (.nil)) (.node (hdO211 P) (.nil) (.nil)))))) (.node (hdO228 P) (.node (hdO17 P) (.node (hdO33 P) (.node (boot_o_7 P) (.node (hdO121 P) (.node (boot_o_7 P) (.nil) (.nil)) (.nil)) (.node (hdO174 P) (.nil) (.nil))) (.node (hdO93 P) (.node (boot_o_7 P) (.nil) (.nil)) (.node (boot_o_7 P) (.nil) (.nil)))) (.node (hdO48 P) (.node (hdO79 P) (.node (boot_o_8 P) (.nil) (.nil)) (.node (boot_o_8 P) (.nil) (.nil))) (.node (hdO111 P) (.node (hdO157 P) (.nil) (.nil)) (.node (hdO204 P) (.nil) (.nil))))) (.node (hdO28 P) (.node (hdO43 P) (.node (boot_o_8 P) (.node (boot_o_7 P) (.node (boot_o_8 P) (.nil) (.nil)) (.nil)) (.node (boot_o_7 P) (.nil) (.nil))) (.node (boot_o_7 P) (.node (hdO150 P) (.nil) (.nil)) (.node (hdO196 P) (.nil) (.nil)))) (.node (hdO56 P) (.node (hdO86 P) (.node (hdO136 P) (.nil) (.nil)) (.node (hdO187 P) (.nil) (.nil))) (.node (hdO116 P) (.node (hdO164 P) (.nil) (.nil)) (.node (hdO214 P) (.nil) (.nil))))))) (.node (boot_o_6 P) (.node (boot_o_10 P) (.node (boot_o_7 P) (.node (hdO31 P) (.node (hdO61 P) (.node (hdO119 P) (.node (hdO219 P) (.nil) (.nil)) (.nil)) (.node (hdO172 P) (.nil) (.nil))) (.node (boot_o_7 P) (.node (boot_o_8 P) (.nil) (.nil)) (.node (boot_o_8 P) (.nil) (.nil)))) (.node (hdO46 P) (.node (boot_o_7 P) (.node (hdO129 P) (.nil) (.nil)) (.node (hdO182 P) (.nil) (.nil))) (.node (hdO110 P) (.node (boot_o_7 P) (.nil) (.nil)) (.node (hdO202 P) (.nil) (.nil))))) (.node (hdO26 P) (.node (hdO42 P) (.node (hdO68 P) (.node (hdO124 P) (.node (hdO226 P) (.nil) (.nil)) (.nil)) (.node (hdO177 P) (.nil) (.nil))) (.node (hdO24 P) (.node (hdO149 P) (.nil) (.nil)) (.node (hdO195 P) (.nil) (.nil)))) (.node (hdO54 P) (.node (boot_o_7 P) (.node (hdO134 P) (.nil) (.nil)) (.node (boot_o_7 P) (.nil) (.nil))) (.node (boot_o_7 P) (.node (hdO162 P) (.nil) (.nil)) (.node (hdO212 P) (.nil) (.nil)))))) (.node (hdO12 P) (.node (hdO23 P) (.node (hdO41 P) (.node (hdO65 P) (.node (boot_o_8 P) (.node (hdO223 P) (.nil) (.nil)) (.nil)) (.node (boot_o_8 P) (.nil) (.nil))) (.node (hdO94 P) (.node (hdO145 P) (.nil) (.nil)) (.node (hdO193 P) (.nil) (.nil)))) (.node (boot_o_7 P) (.node (hdO80 P) (.node (boot_o_7 P) (.nil) (.nil)) (.node (boot_o_7 P) (.nil) (.nil))) (.node (hdO113 P) (.node (boot_o_7 P) (.nil) (.nil)) (.node (boot_o_7 P) (.nil) (.nil))))) (.node (boot_o_8 P) (.node (boot_o_8 P) (.node (boot_o_7 P) (.node (hdO126 P) (.node (boot_o_7 P) (.nil) (.nil)) (.nil)) (.node (hdO179 P) (.nil) (.nil))) (.node (hdO108 P) (.node (hdO152 P) (.nil) (.nil)) (.node (hdO198 P) (.nil) (.nil)))) (.node (boot_o_8 P) (.node (hdO87 P) (.node (hdO138 P) (.nil) (.nil)) (.node (hdO188 P) (.nil) (.nil))) (.node (boot_o_7 P) (.node (hdO24 P) (.nil) (.nil)) (.node (boot_o_8 P) (.nil) (.nil))))))))
noncomputable def hdStp36 (w : World) (os : OsState) : SharedT := ⟨hdTrp36 w.params, nat_lit 274, {}, #[], {}, nat_lit 555, os⟩
noncomputable def hdTrp47 (P : Params) : BT := .node (boot_o_0 P) (.node (boot_o_1 P) (.node (hdO306 P) (.node (boot_o_7 P) (.node (boot_o_7 P) (.node (hdO29 P) (.node (hdO59 P) (.node (boot_o_8 P) (.node (hdO217 P) (.nil) (.nil)) (.nil)) (.node (hdO170 P) (.node (boot_o_7 P) (.nil) (.nil)) (.nil))) (.node (hdO88 P) (.node (hdO139 P) (.node (hdO242 P) (.nil) (.nil)) (.nil)) (.node (hdO189 P) (.node (boot_o_7 P) (.nil) (.nil)) (.nil)))) (.node (hdO44 P) (.node (hdO72 P) (.node (boot_o_7 P) (.node (hdO230 P) (.nil) (.nil)) (.nil)) (.node (boot_o_7 P) (.node (hdO281 P) (.nil) (.nil)) (.nil))) (.node (hdO109 P) (.node (boot_o_7 P) (.node (hdO252 P) (.nil) (.nil)) (.nil)) (.node (hdO199 P) (.node (hdO310 P) (.nil) (.nil)) (.nil))))) (.node (hdO24 P) (.node (hdO36 P) (.node (boot_o_7 P) (.node (hdO122 P) (.node (boot_o_7 P) (.nil) (.nil)) (.nil)) (.node (hdO175 P) (.node (hdO274 P) (.nil) (.nil)) (.nil))) (.node (hdO95 P) (.node (hdO146 P) (.node (boot_o_7 P) (.nil) (.nil)) (.nil)) (.node (hdO194 P) (.node (boot_o_7 P) (.nil) (.nil)) (.nil)))) (.node (boot_o_8 P) (.node (hdO81 P) (.node (hdO131 P) (.node (hdO237 P) (.nil) (.nil)) (.nil)) (.node (hdO184 P) (.node (hdO288 P) (.nil) (.nil)) (.nil))) (.node (boot_o_7 P) (.node (boot_o_8 P) (.node (hdO261 P) (.nil) (.nil)) (.nil)) (.node (boot_o_8 P) (.nil) (.nil)))))) (.node (boot_o_7 P) (.node (hdO16 P) (.node (hdO32 P) (.node (hdO62 P) (.node (hdO120 P) (.node (hdO220 P) (.nil) (.nil)) (.nil)) (.node (hdO173 P) (.node (boot_o_7 P) (.nil) (.nil)) (.nil))) (.node (boot_o_8 P) (.node (hdO143 P) (.node (boot_o_7 P) (.nil) (.nil)) (.nil)) (.node (hdO191 P) (.node (hdO299 P) (.nil) (.nil)) (.nil)))) (.node (hdO47 P) (.node (boot_o_8 P) (.node (boot_o_7 P) (.node (hdO24 P) (.nil) (.nil)) (.nil)) (.node (boot_o_7 P) (.node (hdO285 P) (.nil) (.nil)) (.nil))) (.node (boot_o_7 P) (.node (hdO156 P) (.node (hdO256 P) (.nil) (.nil)) (.nil)) (.node (hdO203 P) (.nil) (.nil))))) (.node (hdO27 P) (.node (hdO24 P) (.node (boot_o_7 P) (.node (hdO125 P) (.node (boot_o_7 P) (.nil) (.nil)) (.nil)) (.node (hdO178 P) (.node (boot_o_8 P) (.nil) (.nil)) (.nil))) (.node (hdO106 P) (.node (boot_o_7 P) (.node (hdO248 P) (.nil) (.nil)) (.nil)) (.node (boot_o_7 P) (.node (boot_o_7 P) (.nil) (.nil)) (.nil)))) (.node (hdO55 P) (.node (boot_o_8 P) (.node (hdO135 P) (.node (hdO239 P) (.nil) (.nil)) (.nil)) (.node (boot_o_8 P) (.node (boot_o_7 P) (.nil) (.nil)) (.nil))) (.node (hdO115 P) (.node (hdO163 P) (.node (hdO264 P) (.nil) (.nil)) (.nil)) (.node (hdO213 P) (.nil) (.nil))))))) (.node (boot_o_5 P) (.node (boot_o_9 P) (.node (hdO15 P) (.node (hdO30 P) (.node (hdO60 P) (.node (boot_o_7 P) (.node (hdO218 P) (.nil) (.nil)) (.nil)) (.node (hdO171 P) (.node (hdO269 P) (.nil) (.nil)) (.nil))) (.node (hdO92 P) (.node (boot_o_7 P) (.node (boot_o_8 P) (.nil) (.nil)) (.nil)) (.node (boot_o_7 P) (.node (hdO297 P) (.nil) (.nil)) (.nil)))) (.node (boot_o_7 P) (.node (hdO74 P) (.node (hdO128 P) (.node (hdO232 P) (.nil) (.nil)) (.nil)) (.node (hdO181 P) (.node (boot_o_7 P) (.nil) (.nil)) (.nil))) (.node (boot_o_8 P) (.node (hdO155 P) (.node (hdO254 P) (.nil) (.nil)) (.nil)) (.node (hdO201 P) (.node (hdO312 P) (.nil) (.nil)) (.nil))))) (.node (boot_o_7 P) (.node (hdO38 P) (.node (hdO67 P) (.node (hdO123 P) (.node (hdO225 P) (.nil) (.nil)) (.nil)) (.node (hdO176 P) (.node (hdO276 P) (.nil) (.nil)) (.nil))) (.node (boot_o_7 P) (.node (boot_o_8 P) (.node (hdO247 P) (.nil) (.nil)) (.nil)) (.node (boot_o_8 P) (.node (hdO304 P) (.nil) (.nil)) (.nil)))) (.node (boot_o_7 P) (.node (hdO85 P) (.node (hdO133 P) (.node (boot_o_7 P) (.nil) (.nil)) (.nil)) (.node (hdO186 P) (.node (boot_o_8 P) (.nil) (.nil)) (.nil))) (.node (hdO114 P) (.node (boot_o_7 P) (.node (hdO262 P) (.nil) (.nil)) (.nil)) (.node (boot_o_7 P) (.nil) (.nil)))))) (.node (hdO11 P) (.node (hdO18 P) (.node (hdO34 P) (.node (boot_o_8 P) (.node (boot_o_7 P) (.node (boot_o_8 P) (.nil) (.nil)) (.nil)) (.node (boot_o_7 P) (.node (hdO273 P) (.nil) (.nil)) (.nil))) (.node (boot_o_7 P) (.node (hdO144 P) (.node (hdO245 P) (.nil) (.nil)) (.nil)) (.node (hdO192 P) (.node (boot_o_8 P) (.nil) (.nil)) (.nil)))) (.node (hdO49 P) (.node (boot_o_7 P) (.node (hdO130 P) (.node (boot_o_7 P) (.nil) (.nil)) (.nil)) (.node (hdO183 P) (.node (hdO286 P) (.nil) (.nil)) (.nil))) (.node (hdO112 P) (.node (hdO158 P) (.node (boot_o_7 P) (.nil) (.nil)) (.nil)) (.node (hdO205 P) (.nil) (.nil))))) (.node (boot_o_7 P) (.node (boot_o_7 P) (.node (hdO71 P) (.node (boot_o_8 P) (.node (hdO229 P) (.nil) (.nil)) (.nil)) (.node (boot_o_8 P) (.node (boot_o_7 P) (.nil) (.nil)) (.nil))) (.node (hdO107 P) (.node (hdO151 P) (.node (hdO250 P) (.nil) (.nil)) (.nil)) (.node (hdO197 P) (.node (hdO308 P) (.nil) (.nil)) (.nil)))) (.node (boot_o_7 P) (.node (boot_o_7 P) (.node (hdO137 P) (.node (hdO240 P) (.nil) (.nil)) (.nil)) (.node (boot_o_7 P) (.node (hdO293 P) (.nil) (.nil)) (.nil))) (.node (hdO117 P) (.node (boot_o_7 P) (.node (boot_o_8 P) (.nil) (.nil)) (.nil)) (.node (boot_o_7 P) (.nil) (.nil)))))))) (.node (hdO20 P) (.node (boot_o_4 P) (.node (boot_o_8 P) (.node (boot_o_8 P) (.node (boot_o_7 P) (.node (boot_o_7 P) (.node (hdO118 P) (.node (boot_o_7 P) (.nil) (.nil)) (.nil)) (.node (boot_o_7 P) (.node (hdO268 P) (.nil) (.nil)) (.nil))) (.node (hdO89 P) (.node (hdO140 P) (.node (boot_o_7 P) (.nil) (.nil)) (.nil)) (.node (hdO190 P) (.node (boot_o_8 P) (.nil) (.nil)) (.nil)))) (.node (hdO45 P) (.node (hdO73 P) (.node (hdO127 P) (.node (hdO231 P) (.nil) (.nil)) (.nil)) (.node (hdO180 P) (.node (hdO282 P) (.nil) (.nil)) (.nil))) (.node (boot_o_7 P) (.node (boot_o_8 P) (.node (hdO253 P) (.nil) (.nil)) (.nil)) (.node (hdO200 P) (.node (hdO311 P) (.nil) (.nil)) (.nil))))) (.node (hdO25 P) (.node (hdO37 P) (.node (hdO66 P) (.node (boot_o_7 P) (.node (hdO224 P) (.nil) (.nil)) (.nil)) (.node (boot_o_7 P) (.node (hdO275 P) (.nil) (.nil)) (.nil))) (.node (hdO96 P) (.node (boot_o_7 P) (.node (boot_o_8 P) (.nil) (.nil)) (.nil)) (.node (boot_o_7 P) (.node (hdO303 P) (.nil) (.nil)) (.nil)))) (.node (hdO53 P) (.node (hdO82 P) (.node (hdO132 P) (.node (hdO238 P) (.nil) (.nil)) (.nil)) (.node (hdO185 P) (.node (boot_o_7 P) (.nil) (.nil)) (.nil))) (.node (boot_o_8 P) (.node (hdO161 P) (.node (boot_o_7 P) (.nil) (.nil)) (.nil)) (.node (hdO211 P) (.nil) (.nil)))))) (.node (hdO307 P) (.node (hdO17 P) (.node (hdO33 P) (.node (boot_o_7 P) (.node (hdO121 P) (.node (boot_o_7 P) (.nil) (.nil)) (.nil)) (.node (hdO174 P) (.node (boot_o_8 P) (.nil) (.nil)) (.nil))) (.node (hdO93 P) (.node (boot_o_7 P) (.node (hdO244 P) (.nil) (.nil)) (.nil)) (.node (boot_o_7 P) (.node (boot_o_7 P) (.nil) (.nil)) (.nil)))) (.node (hdO48 P) (.node (hdO79 P) (.node (boot_o_8 P) (.node (hdO235 P) (.nil) (.nil)) (.nil)) (.node (boot_o_8 P) (.node (boot_o_7 P) (.nil) (.nil)) (.nil))) (.node (hdO111 P) (.node (hdO157 P) (.node (hdO257 P) (.nil) (.nil)) (.nil)) (.node (hdO204 P) (.nil) (.nil))))) (.node (hdO28 P) (.node (hdO43 P) (.node (boot_o_8 P) (.node (boot_o_7 P) (.node (boot_o_8 P) (.nil) (.nil)) (.nil)) (.node (boot_o_7 P) (.node (hdO279 P) (.nil) (.nil)) (.nil))) (.node (boot_o_7 P) (.node (hdO150 P) (.node (hdO249 P) (.nil) (.nil)) (.nil)) (.node (hdO196 P) (.node (boot_o_8 P) (.nil) (.nil)) (.nil)))) (.node (hdO56 P) (.node (hdO86 P) (.node (hdO136 P) (.node (boot_o_7 P) (.nil) (.nil)) (.nil)) (.node (hdO187 P) (.node (hdO292 P) (.nil) (.nil)) (.nil))) (.node (hdO116 P) (.node (hdO164 P) (.node (boot_o_7 P) (.nil) (.nil)) (.nil)) (.node (hdO214 P) (.nil) (.nil))))))) (.node (boot_o_6 P) (.node (boot_o_10 P) (.node (boot_o_7 P) (.node (hdO31 P) (.node (hdO61 P) (.node (hdO119 P) (.node (hdO219 P) (.nil) (.nil)) (.nil)) (.node (hdO172 P) (.node (hdO270 P) (.nil) (.nil)) (.nil))) (.node (boot_o_7 P) (.node (boot_o_8 P) (.node (hdO243 P) (.nil) (.nil)) (.nil)) (.node (boot_o_8 P) (.node (hdO298 P) (.nil) (.nil)) (.nil)))) (.node (hdO46 P) (.node (boot_o_7 P) (.node (hdO129 P) (.node (boot_o_7 P) (.nil) (.nil)) (.nil)) (.node (hdO182 P) (.node (boot_o_8 P) (.nil) (.nil)) (.nil))) (.node (hdO110 P) (.node (boot_o_7 P) (.node (hdO255 P) (.nil) (.nil)) (.nil)) (.node (hdO202 P) (.nil) (.nil))))) (.node (hdO26 P) (.node (hdO42 P) (.node (hdO68 P) (.node (hdO124 P) (.node (hdO226 P) (.nil) (.nil)) (.nil)) (.node (hdO177 P) (.node (boot_o_7 P) (.nil) (.nil)) (.nil))) (.node (hdO24 P) (.node (hdO149 P) (.node (boot_o_7 P) (.nil) (.nil)) (.nil)) (.node (hdO195 P) (.node (hdO305 P) (.nil) (.nil)) (.nil)))) (.node (hdO54 P) (.node (boot_o_7 P) (.node (hdO134 P) (.node (boot_o_8 P) (.nil) (.nil)) (.nil)) (.node (boot_o_7 P) (.node (hdO291 P) (.nil) (.nil)) (.nil))) (.node (boot_o_7 P) (.node (hdO162 P) (.node (hdO263 P) (.nil) (.nil)) (.nil)) (.node (hdO212 P) (.nil) (.nil)))))) (.node (hdO12 P) (.node (hdO23 P) (.node (hdO41 P) (.node (hdO65 P) (.node (boot_o_8 P) (.node (hdO223 P) (.nil) (.nil)) (.nil)) (.node (boot_o_8 P) (.node (boot_o_7 P) (.nil) (.nil)) (.nil))) (.node (hdO94 P) (.node (hdO145 P) (.node (hdO246 P) (.nil) (.nil)) (.nil)) (.node (hdO193 P) (.node (hdO302 P) (.nil) (.nil)) (.nil)))) (.node (boot_o_7 P) (.node (hdO80 P) (.node (boot_o_7 P) (.node (hdO236 P) (.nil) (.nil)) (.nil)) (.node (boot_o_7 P) (.node (hdO287 P) (.nil) (.nil)) (.nil))) (.node (hdO113 P) (.node (boot_o_7 P) (.node (boot_o_8 P) (.nil) (.nil)) (.nil)) (.node (boot_o_7 P) (.nil) (.nil))))) (.node (boot_o_8 P) (.node (boot_o_8 P) (.node (boot_o_7 P) (.node (hdO126 P) (.node (boot_o_7 P) (.nil) (.nil)) (.nil)) (.node (hdO179 P) (.node (hdO280 P) (.nil) (.nil)) (.nil))) (.node (hdO108 P) (.node (hdO152 P) (.node (hdO251 P) (.nil) (.nil)) (.nil)) (.node (hdO198 P) (.node (hdO309 P) (.nil) (.nil)) (.nil)))) (.node (boot_o_8 P) (.node (hdO87 P) (.node (hdO138 P) (.node (hdO241 P) (.nil) (.nil)) (.nil)) (.node (hdO188 P) (.node (hdO294 P) (.nil) (.nil)) (.nil))) (.node (boot_o_7 P) (.node (hdO24 P) (.node (hdO267 P) (.nil) (.nil)) (.nil)) (.node (boot_o_8 P) (.nil) (.nil))))))))
noncomputable def hdStp47 (w : World) (os : OsState) : SharedT := ⟨hdTrp47 w.params, nat_lit 370, {}, #[], {}, nat_lit 696, os⟩
noncomputable def hdHeap (P : Params) : Heap := ⟨⟨[boot_o_0 P, boot_o_1 P, hdO20 P, hdO306 P, boot_o_4 P, boot_o_5 P, boot_o_6 P, boot_o_7 P, boot_o_8 P, boot_o_9 P, boot_o_10 P, boot_o_7 P, hdO307 P, hdO11 P, hdO12 P, boot_o_7 P, boot_o_8 P, hdO15 P, boot_o_7 P, hdO16 P, hdO17 P, hdO18 P, hdO23 P, hdO24 P, hdO25 P, boot_o_7 P, hdO26 P, hdO27 P, hdO28 P, boot_o_7 P, boot_o_8 P, hdO29 P, boot_o_7 P, hdO30 P, hdO31 P, hdO32 P, hdO33 P, hdO34 P, hdO41 P, hdO36 P, hdO37 P, hdO38 P, hdO42 P, hdO24 P, hdO43 P, boot_o_7 P, boot_o_8 P, hdO44 P, hdO45 P, boot_o_7 P, hdO46 P, hdO47 P, hdO48 P, hdO49 P, boot_o_7 P, boot_o_8 P, hdO53 P, boot_o_7 P, hdO54 P, hdO55 P, hdO56 P, boot_o_7 P, boot_o_8 P, hdO59 P, boot_o_7 P, hdO60 P, hdO61 P, hdO62 P, boot_o_7 P, boot_o_8 P, hdO65 P, boot_o_7 P, hdO66 P, hdO67 P, hdO68 P, boot_o_7 P, boot_o_8 P, hdO71 P, boot_o_7 P, hdO72 P, hdO73 P, hdO74 P, boot_o_7 P, boot_o_8 P, hdO79 P, boot_o_7 P, hdO80 P, hdO81 P, hdO82 P, hdO85 P, boot_o_7 P, boot_o_8 P, hdO86 P, boot_o_7 P, hdO87 P, hdO88 P, hdO89 P, hdO92 P, boot_o_7 P, boot_o_8 P, hdO93 P, boot_o_7 P, hdO94 P, hdO95 P, hdO96 P, boot_o_7 P, hdO24 P, hdO106 P, boot_o_7 P, hdO107 P, hdO108 P, hdO109 P, boot_o_7 P, boot_o_8 P, hdO110 P, boot_o_7 P, hdO111 P, hdO112 P, hdO113 P, boot_o_7 P, boot_o_8 P, hdO114 P, boot_o_7 P, hdO115 P, hdO116 P, hdO117 P, boot_o_7 P, boot_o_8 P, hdO118 P, boot_o_7 P, hdO119 P, hdO120 P, hdO121 P, boot_o_7 P, boot_o_8 P, hdO122 P, boot_o_7 P, hdO123 P, hdO124 P, hdO125 P, boot_o_7 P, boot_o_8 P, hdO126 P, boot_o_7 P, hdO127 P, hdO128 P, hdO129 P, boot_o_7 P, boot_o_8 P, hdO130 P, boot_o_7 P, hdO131 P, hdO132 P, hdO133 P, hdO134 P, hdO135 P, hdO136 P, hdO137 P, hdO138 P, hdO139 P, hdO140 P, boot_o_7 P, boot_o_8 P, hdO143 P, boot_o_7 P, hdO144 P, hdO145 P, hdO146 P, boot_o_7 P, boot_o_8 P, hdO149 P, boot_o_7 P, hdO150 P, hdO151 P, hdO152 P, boot_o_7 P, boot_o_8 P, hdO155 P, boot_o_7 P, hdO156 P, hdO157 P, hdO158 P, boot_o_7 P, boot_o_8 P, hdO161 P, boot_o_7 P, hdO162 P, hdO163 P, hdO164 P, boot_o_7 P, hdO24 P, hdO170 P, boot_o_7 P, hdO171 P, hdO172 P, hdO173 P, hdO174 P, boot_o_7 P, boot_o_8 P, hdO175 P, boot_o_7 P, hdO176 P, hdO177 P, hdO178 P, boot_o_7 P, boot_o_8 P, hdO179 P, boot_o_7 P, hdO180 P, hdO181 P, hdO182 P, boot_o_7 P, boot_o_8 P, hdO183 P, boot_o_7 P, hdO184 P, hdO185 P, hdO186 P, boot_o_7 P, boot_o_8 P, hdO187 P, boot_o_7 P, hdO188 P, hdO189 P, hdO190 P, boot_o_7 P, boot_o_8 P, hdO191 P, boot_o_7 P, hdO192 P, hdO193 P, hdO194 P, boot_o_7 P, boot_o_8 P, hdO195 P, boot_o_7 P, hdO196 P, hdO197 P, hdO198 P, hdO199 P, hdO200 P, hdO201 P, hdO202 P, hdO203 P, hdO204 P, hdO205 P, boot_o_7 P, boot_o_8 P, hdO211 P, boot_o_7 P, hdO212 P, hdO213 P, hdO214 P, boot_o_7 P, boot_o_8 P, hdO217 P, boot_o_7 P, hdO218 P, hdO219 P, hdO220 P, boot_o_7 P, boot_o_8 P, hdO223 P, boot_o_7 P, hdO224 P, hdO225 P, hdO226 P, boot_o_7 P, boot_o_8 P, hdO229 P, boot_o_7 P, hdO230 P, hdO231 P, hdO232 P, boot_o_7 P, hdO24 P, hdO235 P, boot_o_7 P, hdO236 P, hdO237 P, hdO238 P, boot_o_7 P, boot_o_8 P, hdO239 P, boot_o_7 P, hdO240 P, hdO241 P, hdO242 P, boot_o_7 P, boot_o_8 P, hdO243 P, boot_o_7 P, hdO244 P, hdO245 P, hdO246 P, boot_o_7 P, boot_o_8 P, hdO247 P, boot_o_7 P, hdO248 P, hdO249 P, hdO250 P, hdO251 P, hdO252 P, hdO253 P, hdO254 P, hdO255 P, hdO256 P, hdO257 P, boot_o_7 P, boot_o_8 P, hdO261 P, boot_o_7 P, hdO262 P, hdO263 P, hdO264 P, boot_o_7 P, boot_o_8 P, hdO267 P, boot_o_7 P, hdO268 P, hdO269 P, hdO270 P, boot_o_7 P, boot_o_8 P, hdO273 P, boot_o_7 P, hdO274 P, hdO275 P, hdO276 P, boot_o_7 P, boot_o_8 P, hdO279 P, boot_o_7 P, hdO280 P, hdO281 P, hdO282 P, boot_o_7 P, boot_o_8 P, hdO285 P, boot_o_7 P, hdO286 P, hdO287 P, hdO288 P, boot_o_7 P, boot_o_8 P, hdO291 P, boot_o_7 P, hdO292 P, hdO293 P, hdO294 P, boot_o_7 P, boot_o_8 P, hdO297 P, hdO298 P, hdO299 P, boot_o_7 P, boot_o_8 P, hdO302 P, boot_o_7 P, hdO303 P, hdO304 P, hdO305 P, boot_o_7 P, boot_o_8 P, hdO308 P, hdO309 P, hdO310 P, hdO311 P, hdO312 P]⟩, {}⟩
theorem hdOpen : ∀ w : World, (fencedOpening treeTable row9.prog w 5032).map (fun s => (s.heap, s.gens, s.drawn, s.toks)) = some (boot_heap w.params, Array.mk [], boot_drawn, boot_toks) :=
  boot_open (by kernel_rfl) (by decide) fun _ => rfl
theorem hdSize (w : World) : ((boot_heap w.params).isNs mainGlobals && (Array.mk [] : Array GenState).size == 0, (boot_heap w.params).objs.size, (boot_heap w.params).nsMap mainGlobals "__annotations__") = (true, nat_lit 11, hdAnn) := by kernel_rfl
theorem hdPre (w : World) (os : OsState) : topGo treeTable row9.prog w (nat_lit 11) hdAnn (nat_lit 12) ⟨boot_heap w.params, Array.mk [], boot_drawn, boot_toks, os⟩ (topStub row9.prog) = some ((hdStb w os).abs, ⟨denote treeTable hdCode, hdCode, hdPos, [topFrame hdPos]⟩) := by kernel_rfl
theorem hdBlock (w : World) (os : OsState) : segRunT treeTable row9.prog w (nat_lit 11) hdAnn (nat_lit 1) (nat_lit 1) (hdStb w os) (blockOf hdBody hdEnv hdCode hdPos [topFrame hdPos]) = some (.next, hdStb w os, hdCode, hdPos) := by kernel_rfl
theorem hdGp3 (w : World) (os : OsState) : segRunT treeTable row9.prog w (nat_lit 11) hdAnn (nat_lit 1) (nat_lit 480) (hdStb w os) (piecesOf (hdSts 0 4) hdEnv hdCode hdPos [topFrame hdPos]) = some (.next, hdStp3 w os, hdCode, ({ line := 9, col := 0, endLine := 10, endCol := 8 } : Pos)) := by 
  unfold piecesOf
  rw [PySem.W.Fast.te10110043849684766642, PySem.W.Fast.te14364793385576792824, PySem.W.Fast.te12563942051412417395]
  kernel_rfl
theorem hdGp20 (w : World) (os : OsState) : segRunT treeTable row9.prog w (nat_lit 11) hdAnn (nat_lit 1) (nat_lit 306) (hdStp3 w os) (piecesOf (hdSts 4 17) hdEnv hdCode ({ line := 9, col := 0, endLine := 10, endCol := 8 } : Pos) [topFrame hdPos]) = some (.next, hdStp20 w os, hdCode, ({ line := 44, col := 0, endLine := 44, endCol := 9 } : Pos)) := by 
  unfold piecesOf
  rw [PySem.W.Fast.te10110043849684766642, PySem.W.Fast.te14364793385576792824, PySem.W.Fast.te12563942051412417395]
  kernel_rfl
theorem hdGp28 (w : World) (os : OsState) : segRunT treeTable row9.prog w (nat_lit 11) hdAnn (nat_lit 1) (nat_lit 531) (hdStp20 w os) (piecesOf (hdSts 21 8) hdEnv hdCode ({ line := 44, col := 0, endLine := 44, endCol := 9 } : Pos) [topFrame hdPos]) = some (.next, hdStp28 w os, hdCode, ({ line := 84, col := 0, endLine := 84, endCol := 10 } : Pos)) := by 
  unfold piecesOf
  rw [PySem.W.Fast.te10110043849684766642, PySem.W.Fast.te14364793385576792824, PySem.W.Fast.te12563942051412417395]
  kernel_rfl
theorem hdGp36 (w : World) (os : OsState) : segRunT treeTable row9.prog w (nat_lit 11) hdAnn (nat_lit 1) (nat_lit 555) (hdStp28 w os) (piecesOf (hdSts 29 8) hdEnv hdCode ({ line := 84, col := 0, endLine := 84, endCol := 10 } : Pos) [topFrame hdPos]) = some (.next, hdStp36 w os, hdCode, ({ line := 124, col := 0, endLine := 125, endCol := 43 } : Pos)) := by 
  unfold piecesOf
  rw [PySem.W.Fast.te10110043849684766642, PySem.W.Fast.te14364793385576792824, PySem.W.Fast.te12563942051412417395]
  kernel_rfl
theorem hdGp47 (w : World) (os : OsState) : segRunT treeTable row9.prog w (nat_lit 11) hdAnn (nat_lit 1) (nat_lit 586) (hdStp36 w os) (piecesOf (hdSts 37 11) hdEnv hdCode ({ line := 124, col := 0, endLine := 125, endCol := 43 } : Pos) [topFrame hdPos]) = some (.next, hdStp47 w os, hdCode, ({ line := 217, col := 0, endLine := 235, endCol := 25 } : Pos)) := by 
  unfold piecesOf
  rw [PySem.W.Fast.te10110043849684766642, PySem.W.Fast.te14364793385576792824, PySem.W.Fast.te12563942051412417395]
  kernel_rfl
theorem hdFin (w : World) (os : OsState) : topRun treeTable row9.prog w (nat_lit 11) hdAnn (nat_lit 2) (hdStp47 w os).abs (restOf [] hdEnv hdCode ({ line := 217, col := 0, endLine := 235, endCol := 25 } : Pos) [topFrame hdPos]) = some ⟨hdHeap w.params, #[], {}, nat_lit 696, os⟩ := by kernel_rfl
theorem hdCut : hdBody = hdSts 0 4 ++ (hdSts 4 17 ++ (hdSts 21 8 ++ (hdSts 29 8 ++ (hdSts 37 11 ++ [])))) := by kernel_rfl
theorem hdRun (w : World) (os : OsState) : topRun treeTable row9.prog w (nat_lit 11) hdAnn (nat_lit 12 + (nat_lit 1 + (nat_lit 480 + (nat_lit 306 + (nat_lit 531 + (nat_lit 555 + (nat_lit 586 + nat_lit 2))))))) ⟨boot_heap w.params, Array.mk [], boot_drawn, boot_toks, os⟩ (topStub row9.prog) = some ⟨hdHeap w.params, #[], {}, nat_lit 696, os⟩ := by
  refine go_top (hdPre w os) (piece_block (segRun_of (hdBlock w os)) ?_)
  have k := piece_app (segRun_of (hdGp3 w os)) (piece_app (segRun_of (hdGp20 w os)) (piece_app (segRun_of (hdGp28 w os)) (piece_app (segRun_of (hdGp36 w os)) (piece_app (segRun_of (hdGp47 w os)) (hdFin w os)))))
  rw [← hdCut] at k
  exact k
noncomputable abbrev hdEnd (w : World) (os : OsState) : Shared := ⟨hdHeap w.params, #[], {}, nat_lit 696, os⟩
theorem hdLook1 (w : World) (os : OsState) : (staticsOk (importedModules row9.prog.main.body) (boot_heap w.params) (hdHeap w.params) && namesBound row9.prog (hdHeap w.params) && gensDone (hdEnd w os) && laidKept (boot_heap w.params) (hdHeap w.params)) = true := by kernel_rfl
theorem hdLk0 (w : World) (os : OsState) : (seen (List.map (fun x => x.name) (recsOf view9)) (ownsOf view9) [] { heap := (hdEnd w os).heap, toks := (hdEnd w os).toks, os := (hdEnd w os).os }) = (expectedOf view9) := by
  rw [PySem.W.Fast.te5160383126252970620, PySem.W.Fast.te3399658132070893891, PySem.W.Fast.te5991557255702980513]
  kernel_rfl
theorem hdLk1 (w : World) (os : OsState) : ((hdEnd w os).heap.bltView) = (bltViewBooted) := by kernel_rfl
theorem hdLk2 (w : World) (os : OsState) : (((hdEnd w os).heap.keysOk (looseW view9 loose9) (List.map (fun x => x.name) (recsOf view9)) (List.map (fun x => x.fst) (litsOf view9)) (List.map (fun x => x.name) (clssOf view9 (looseW view9 loose9))) && (hdEnd w os).heap.accountedOkI (importedModules row9.prog.main.body) && (hdEnd w os).heap.isNs mainGlobals && (hdEnd w os).heap.isNs builtinsNs && tablesOk view9 (hdEnd w os).heap && (fun s => xlAt view9 lv9 s && recOk (RowW.records row9) s) (hdEnd w os) && if true = true then (hdEnd w os).gens.size == 0 else !leftWithCleanup (hdEnd w os).gens)) = (true) := by
  rw [PySem.W.Fast.te10880121769531294198, PySem.W.Fast.te821141287760084731, PySem.W.Fast.te3399658132070893891, PySem.W.Fast.te7409074990110511671, PySem.W.Fast.te13664370479719496447, PySem.W.Fast.te14722251495701143533, PySem.W.Fast.te5923862056798008813, PySem.W.Fast.te10994771534591457954]
  kernel_rfl
theorem hdLk3 (w : World) (os : OsState) : (tabsOk view9 (hdEnd w os)) = (true) := by
  rw [PySem.W.Fast.te479339242167458305]
  kernel_rfl
theorem hdLk4 (w : World) (os : OsState) : (pinSeenD view9 (drecsOf view9) (hdEnd w os)) = (pinGoodD (drecsOf view9)) := by kernel_rfl
theorem hdLk5 (w : World) (os : OsState) : (plainSeenE view9 (looseW view9 loose9) (hdEnd w os)) = (plainGoodE view9 (looseW view9 loose9)) := by
  rw [PySem.W.Fast.te2386780881361962483, PySem.W.Fast.te821141287760084731]
  kernel_rfl
theorem hdLk6 (w : World) (os : OsState) : (plainSeenD view9 loose9 (hdEnd w os)) = (plainGoodD view9 loose9) := by kernel_rfl
theorem hdLk7 (w : World) (os : OsState) : (wideSeen view9 (hdEnd w os)) = (wideGood view9) := by
  rw [PySem.W.Fast.te7317090234206586261]
  kernel_rfl
theorem hdLk8 (w : World) (os : OsState) : (clsSeenW view9 loose9 (hdEnd w os)) = (clsGoodW view9 loose9) := by kernel_rfl
theorem hdLook2 (w : World) (os : OsState) : openSeen view9 loose9 (importedModules row9.prog.main.body) (fun s => xlAt view9 lv9 s && recOk (RowW.records row9) s) true (hdEnd w os) = openGood view9 loose9 := by
  unfold openSeen openGood
  exact looks_pair (hdLk0 w os) (looks_pair (hdLk1 w os) (looks_pair (hdLk2 w os) (looks_pair (hdLk3 w os) (looks_pair (hdLk4 w os) (looks_pair (hdLk5 w os) (looks_pair (hdLk6 w os) (looks_pair (hdLk7 w os) (hdLk8 w os))))))))
theorem hdLook3 (w : World) (os : OsState) : Hook.obs H9 (hdEnd w os) = Hook.val H9 w := by kernel_rfl
theorem left9 : LeftO row9.prog view9 loose9 (fun s => xlAt view9 lv9 s && recOk (RowW.records row9) s) (Hook.obs H9) (Hook.val H9) 5032 true :=
  LeftO.of_pieces hdOpen hdSize hdRun (by decide) fun w => funext fun os => looks_pair (hdLook1 w os) (looks_pair (hdLook2 w os) (hdLook3 w os))

-- Base
open PySem.Calls
abbrev P0 : Program := PySem.Challenge.rw_on0342_01.row.prog

/-- the contract of a def that draws: of the caller's ledger it turns the source list at d alone -/
def CtS (w : World) (p : Program) (loose : List Str) (mean : ExcName → Option Value) (mg mb : Str → Option Value) (k : Nat) (f : Addr) (vs : List Value)
    (d : Addr) (o : Obj) (need : Heap → Prop) (Out : Value → Obj → Prop) : Prop :=
  ∀ (dp un : Nat) (gd : Option (List Code)) (cn : Str) (cs : Scope) (a : Addr) (ccd : Value) (cl : List (Str × Addr)) (outer : List Env) (A₀ : Around) (base h₀ : Heap) (L : Addr) (m : Str → Option Value)
    (news : List (Addr × Obj)) (s : Shared) (Q E : Value → Shared → Prop),
    Below A₀ base outer h₀ → Fr h₀ L s.heap m → (K9 w.params).In h₀ → News h₀ L s.heap news → (d, o) ∈ news → need (s.heap.hide d) → Top p loose mean mg mb h₀ → cs.kind = .function → dp + k < recursionLimit → un + 8 * k < cLine →
    (∀ r o' h' tk', Out r o' → Fr h₀ L h' m → (∀ news', Upd d o o' news news' → News h₀ L h' news') → Q r { s with heap := h', toks := tk' }) →
    wpAny (model P0 w) (ktrTop dp un gd cn cs L a ccd cl outer) (call (.ref f) vs) Q E s

def LeaveD (h₀ : Heap) (L : Addr) (m : Str → Option Value) (g : Heap) (d : Addr) (o : Obj) (news : List (Addr × Obj)) (R : Result → Shared → Prop) (v : Value) (s' : Shared) : Prop :=
  ∃ L' m' news' o', Fr g L' s'.heap m' ∧ News g L' s'.heap news' ∧ (d, o') ∈ news' ∧ (Fr h₀ L s'.heap m → (∀ nw, Upd d o o' news nw → News h₀ L s'.heap nw) → R (.ok (.ret v)) s')
theorem leaveD_ {h₀ g : Heap} {L L' d : Addr} {o o' : Obj} {m m' : Str → Option Value} {news news' : List (Addr × Obj)} {R : Result → Shared → Prop} {v : Value} {s' : Shared} (F' : Fr g L' s'.heap m') (N' : News g L' s'.heap news') (hm : (d, o') ∈ news')
    (k : Fr h₀ L s'.heap m → (∀ nw, Upd d o o' news nw → News h₀ L s'.heap nw) → R (.ok (.ret v)) s') : LeaveD h₀ L m g d o news R v s' := ⟨L', m', news', o', F', N', hm, k⟩

section
variable {prog : Program} {w : World} {A A₀ : Around} {E : Value → Shared → Prop} {s : Shared} {K : Frag} {C L : Addr} {h₀ base : Heap} {m mg mb : Str → Option Value} {news : List (Addr × Obj)} {p : Program} {loose : List Str} {mean : ExcName → Option Value} {Q : Value → Shared → Prop}

/-- the call of a def of the text, of the ledger the object at d alone handed in as its own -/
theorem code_defD {env : Env} {outer : List Env} {R : Result → Shared → Prop} {d : Addr} {o : Obj} {name qual : Str} {params : Arguments} {body : List Stmt} {scope : Scope} {dV kV doc pm cdv ct oc : Value} {an od : Option Addr} {osl : Array (Option Value)} {f : Addr} {args : Args} {binds : List (Str × Value)}
    (B : Below A₀ base outer h₀) (F : Fr h₀ L s.heap m) (X₀ : K.In h₀) (N : News h₀ L s.heap news) (hm : (d, o) ∈ news) (T : Top p loose mean mg mb h₀) (hA : A.frames = some (env :: outer)) (hf : env.frame = some L) (hke : env.scope.kind = .function)
    (ho : K.lookup f = some ⟨oc, od, .func (fnOf name qual params body scope dV kV doc pm an cdv ct), osl⟩) (hcd : codeIn K cdv qual = true) (hroom : A.depth < recursionLimit)
    (hbind : BindsTo s (fnOf name qual params body scope dV kV doc pm an cdv ct) args binds) (hloc : ∀ y ∈ binds, scope.names.lookup y.1 = some .local)
    (h : ∀ g L' h₁, g = s.heap.hide d → Fr g L' h₁ (fun y => binds.reverse.lookup y) → News g L' h₁ [(d, o)] → Below A base (env :: outer) g → K.In g → Top p loose mean mg mb g →
      wpAny (model prog w) (A.deeper (envOf qual scope L' f cdv)) (execs body (envOf qual scope L' f cdv))
        (fun fl s' => LeaveD h₀ L m g d o news R (match fl with | .ret v => v | _ => .none) s')
        (fun e s' => wpAny (model prog w) (A.deeper (envOf qual scope L' f cdv)) (leaving (envOf qual scope L' f cdv) e) (fun _ s'' => R (.error e) s'') (fun e' s'' => R (.error e') s'') s')
        { s with heap := h₁, toks := s.toks + binds.length })
    (hco : scope.isCoroutine = false) (hgen : scope.isGenerator = false) (hk : scope.kind = .function)
    (hcell : ∀ x ∈ scope.names, x.2 ≠ .cell) : codeAny (model prog w) A (.call (.ref f) args) R s := by
  have N1 : News h₀ L s.heap [(d, o)] := fun q hq => by rw [List.mem_singleton.mp hq]; exact N _ hm
  obtain ⟨_, BG, st, lv⟩ := groundX (R := R) B F N1 hA hf hke
  have X := X₀.keeps F.keep
  refine codeAny_call_def (fd := fnOf name qual params body scope dV kV doc pm an cdv ct) (body := body) (binds := binds) hroom (X _ _ ho) rfl (T.nolimit.keeps F.keep) (codeRec_of X hcd) rfl hbind hcell hloc (fun h₁ hns hk₁ => ?_) hco hgen hk
  refine wpAny_mono (h (s.heap.hide d) s.heap.objs.size h₁ rfl ⟨hns, fun b ob e => hk₁ b ob (Heap.of_hide e), Nat.le_of_eq (Heap.hide_size _ _)⟩
    (fun q hq => ?_) BG (X₀.keeps st) (T.keeps st)) (fun fl s' hl => ?_) fun _ _ y => y
  · rw [List.mem_singleton.mp hq]
    exact ⟨hk₁ _ _ (N _ hm).1, Nat.ne_of_lt (Heap.lt_size (N _ hm).1), Heap.hide_self _ _⟩
  · obtain ⟨L', m', news', o', F', N', hm', k⟩ := hl
    refine lv _ _ ⟨L', m', [(d, o')], F', fun q hq => by rw [List.mem_singleton.mp hq]; exact N' _ hm', fun F₂ N₂ => k F₂ fun nw U => ?_⟩
    obtain ⟨pre, post, e1, rfl, a, b⟩ := U.split
    have N₃ : News h₀ L s.heap (pre ++ (d, o) :: post) := e1 ▸ N
    intro q hq
    have old : q ∈ pre ++ (d, o) :: post → q.1 ≠ d → s'.heap.get? q.1 = some q.2 ∧ q.1 ≠ L ∧ h₀.get? q.1 = none := fun hq hne =>
      ⟨F'.keep _ _ ((Heap.hide_ne _ hne).trans (N₃ q hq).1), (N₃ q hq).2⟩
    rcases List.mem_append.mp hq with hq | hq
    · exact old (List.mem_append_left _ hq) (a q hq)
    · rcases List.mem_cons.mp hq with rfl | hq
      · exact N₂ _ (.head _)
      · exact old (List.mem_append_right _ (.tail _ hq)) (b q hq)
end
section
variable {prog : Program} {w : World} {A : Around} {E : Value → Shared → Prop} {s : Shared}
/-- results under new tokens -/
theorem const_fr {i : Int} {k : Nat} {pos : Pos} {env : Env} {Q : Value → Shared → Prop} (h : ∀ t' k', Q (.int i t') { s with toks := k' }) : wpAny (model prog w) A (eval (.Constant (.int i) k pos) env) Q E s :=
  wpAny_Constant_int (h _ _)
theorem add_fr {a b : Int} {t u : Tok} {Q : Value → Shared → Prop} (h : ∀ t' k, Q (.int (a + b) t') { s with toks := k }) : wpAny (model prog w) A (binaryOp .Add (.int a t) (.int b u)) Q E s := add_int (h _ _)
theorem iadd_fr {a b : Int} {t u : Tok} {Q : Value → Shared → Prop} (h : ∀ t' k, Q (.int (a + b) t') { s with toks := k }) : wpAny (model prog w) A (inplaceOp .Add (.int a t) (.int b u)) Q E s := iadd_int (h _ _)
theorem sub_fr {a b : Int} {t u : Tok} {Q : Value → Shared → Prop} (h : ∀ t' k, Q (.int (a - b) t') { s with toks := k }) : wpAny (model prog w) A (binaryOp .Sub (.int a t) (.int b u)) Q E s := sub_int (h _ _)
end

-- Take
open PySem.Calls

abbrev srcO (x y : Int) (tx ty : Tok) (n : Nat) : Obj := listOf (List.toArray [Value.int x tx, Value.int y ty]) n
def TakeOut (top : Int) (r : Value) (o' : Obj) : Prop :=
  ∃ r' t x' y' tx ty n, r = .int r' t ∧ 0 ≤ r' ∧ r' < top ∧ 0 ≤ x' ∧ 0 ≤ y' ∧ y' < 2147483647 ∧ o' = srcO x' y' tx ty n

theorem fmod_pos (a : Int) {b : Int} (hb : 0 < b) : 0 ≤ a.fmod b ∧ a.fmod b < b :=
  ⟨Int.fmod_nonneg_of_pos a hb, Int.fmod_lt_of_pos a hb⟩
theorem fdiv_nn {a b : Int} (ha : 0 ≤ a) (hb : 0 < b) : 0 ≤ a.fdiv b := by
  rw [Int.fdiv_eq_ediv_of_nonneg _ (Int.le_of_lt hb)]
  exact Int.ediv_nonneg ha (Int.le_of_lt hb)
theorem log_small {top : Int} (h0 : 0 < top) (h : top ≤ 4294967296) : top.natAbs.log2 < 9000 := by
  have : top.natAbs.log2 < 33 := (Nat.log2_lt (by omega)).mpr (by omega)
  omega

theorem fm_lo (a : Int) : -(2 ^ 64) < a.fmod 2147483647 := by have := fmod_pos a (b := 2147483647) (by decide); omega
theorem fm_hi (a : Int) : a.fmod 2147483647 < 2 ^ 64 := by have := fmod_pos a (b := 2147483647) (by decide); omega
set_option maxHeartbeats 8000000 in
theorem take_ct (w : World) (p : Program) (loose : List Str) (mean : ExcName → Option Value) (mg mb : Str → Option Value) (d : Addr) (x y top : Int) (tx ty tt : Tok) (n : Nat)
    (hx : 0 ≤ x) (hy : 0 ≤ y) (hy2 : y < 2147483647) (ht : 0 < top) (hl : top ≤ 4294967296) :
    CtS w p loose mean mg mb 1 322 [.ref d, .int top tt] d (srcO x y tx ty n) (fun _ => True) (TakeOut top) := by
  k_with_none
  k_with "eval Constant int" => ((with_reducible refine const_fr ?_); intro _ _)
  k_with "binaryOp Add int int" => ((with_reducible refine add_fr ?_); intro _ _)
  k_with "inplaceOp Add int int" => ((with_reducible refine iadd_fr ?_); intro _ _)
  k_with "binaryOp Sub int int" => ((with_reducible refine sub_fr ?_); intro _ _)
  k_with "binaryOp FloorDiv int int" => (((with_reducible refine floordiv_int ?kbe ?_ (Or.inl (PyProof.noPylong_of_log2 ?kbp))); (case kbe => omega); (case kbp => first | assumption | decide)))
  k_with "binaryOp Mult int int" => (((with_reducible refine mul_int ?_ (IntMulOk.of_left (intBits_le_64 ?b1 ?b2))); (case b1 => ((simp only [Int.reduceToNat, List.getD_cons_zero, List.getD_cons_succ]); exact fm_lo _)); (case b2 => ((simp only [Int.reduceToNat, List.getD_cons_zero, List.getD_cons_succ]); exact fm_hi _))))
  k_with "LeaveD" => ((refine leaveD_ (by k_asm) (by k_asm) (by k_mem) ?_; intro kF kN; (try dsimp only)))
  have hlog := log_small ht hl
  unfold CtS P0
  k_fill
  intro dp un gd cn cs a ccd cl outer A₀ base h₀ L m news s Q E B F X N hm hneed T hk hd hu hret
  refine wpAny_call ?_
  k_dflt ((refine' code_defD ?k1 ?k2 ?k3 ?k4 ?km ?k5 ?kA ?kF ?kK ?k6 ?k7 ?k8 ?k9 ?kB ?_ ?c2 ?c3 ?c4 ?c5; (case kA => exact rfl); (case kF => exact rfl); (case kK => assumption); (case k1 => k_asm); (case k2 => k_asm); (case k3 => k_asm); (case k4 => k_asm); (case km => k_asm); (case k5 => k_asm); (case k6 => k_is); (case k7 => k_is); (case k8 => ktr_room); (case k9 => exact BindsTo.of_eq rfl); (case c5 => decide); (case kB => exact locs rfl); (case c2 => exact rfl); (case c3 => exact rfl); (case c4 => exact rfl); k_whole; intro g' L' h' hg' F' N' B' X' T'; (try dsimp only); (try k_fold)))
  k_steps
  all_goals (rename Fr h₀ L _ _ => kF; rename ∀ nw, Upd d _ _ news nw → _ => kN; refine hret _ _ _ _ ?_ kF kN; clear kF kN)
  · rename (0 : Int) < _ => h1
    refine ⟨_, _, _, _, _, _, _, rfl, ?_, ?_, ?_, ?_, ?_, by with_unfolding_all rfl⟩
    · exact (fmod_pos _ ht).1
    · exact (fmod_pos _ ht).2
    · exact fdiv_nn hx ht
    · exact hy
    · exact hy2
  · refine ⟨_, _, _, _, _, _, _, rfl, ?_, ?_, ?_, ?_, ?_, by with_unfolding_all rfl⟩
    · exact (fmod_pos _ ht).1
    · exact (fmod_pos _ ht).2
    · exact hx
    · exact (fmod_pos _ (by decide)).1
    · exact (fmod_pos _ (by decide)).2

-- One
open PySem.Calls

/-- the source: two ints, the second one below the modulus -/
def SrcNs (ns : List Int) : Prop := ∃ x y, ns = [x, y] ∧ 0 ≤ x ∧ 0 ≤ y ∧ y < 2147483647
theorem srcNs_vals {vs : List Value} {ns : List Int} (hi : IntsAre vs ns) (h : SrcNs ns) : ∃ x y tx ty, vs = [.int x tx, .int y ty] ∧ 0 ≤ x ∧ 0 ≤ y ∧ y < 2147483647 := by
  obtain ⟨x, y, rfl, a, b, c⟩ := h
  cases hi with
  | cons _ t1 h1 => cases h1 with
    | cons _ t2 h2 => cases h2; exact ⟨x, y, t1, t2, rfl, a, b, c⟩
theorem srcNs_ints (x y : Int) (tx ty : Tok) : IntsAre [.int x tx, .int y ty] [x, y] := .cons _ _ (.cons _ _ .nil)

section
variable {w : World} {p : Program} {loose : List Str} {mean : ExcName → Option Value} {mg mb : Str → Option Value} {d : Addr} {vs : List Value} {ns : List Int} {n : Nat}
  {dp un : Nat} {gd : Option (List Code)} {cn : Str} {cs : Scope} {a : Addr} {ccd : Value} {cl : List (Str × Addr)} {outer : List Env} {A₀ : Around} {base h₀ : Heap} {L : Addr} {m : Str → Option Value} {s : Shared} {Q E : Value → Shared → Prop} {news : List (Addr × Obj)}

theorem take_use {top : Int} {tt : Tok} (B : Below A₀ base outer h₀) (F : Fr h₀ L s.heap m) (X : (K9 w.params).In h₀) (N : News h₀ L s.heap news) (hm : (d, listOf vs.toArray n) ∈ news) (hi : IntsAre vs ns) (hs : SrcNs ns)
    (T : Top p loose mean mg mb h₀) (hk : cs.kind = .function) (ht : 0 < top) (hl : top ≤ 4294967296) (hd : dp + 1 < recursionLimit) (hu : un + 8 * 1 < cLine)
    (ret : ∀ r t vs' ns' n' h' tk', 0 ≤ r → r < top → IntsAre vs' ns' → SrcNs ns' → Fr h₀ L h' m → (∀ nw, Upd d (listOf vs.toArray n) (listOf vs'.toArray n') news nw → News h₀ L h' nw) → Q (.int r t) { s with heap := h', toks := tk' }) :
    wpAny (model P0 w) (ktrTop dp un gd cn cs L a ccd cl outer) (call (.ref 322) [.ref d, .int top tt]) Q E s := by
  obtain ⟨x, y, tx, ty, rfl, hx, hy, hy2⟩ := srcNs_vals hi hs
  refine take_ct w p loose mean mg mb d x y top tx ty tt n hx hy hy2 ht hl _ _ _ _ _ _ _ _ _ _ _ _ _ _ _ _ _ _ B F X N hm trivial T hk hd hu ?_
  rintro _ _ h' tk' ⟨r, t, x', y', tx', ty', n', rfl, h1, h2, h3, h4, h5, rfl⟩ F' N'
  exact ret r t _ _ n' h' tk' h1 h2 (srcNs_ints x' y' tx' ty') ⟨x', y', rfl, h3, h4, h5⟩ F' N'
end

theorem getD_in {ms : List Int} {r : Int} (h0 : 0 ≤ r) (h1 : r < (ms.length : Int)) : ms.getD r.toNat 0 ∈ ms := by
  have hj : r.toNat < ms.length := by omega
  have e : ms.getD r.toNat 0 = ms[r.toNat] := by simp [List.getD, hj]
  rw [e]
  exact List.getElem_mem hj
def OneOut (ms : List Int) (r : Value) (o' : Obj) : Prop :=
  ∃ r' t vs ns n, r = .int r' t ∧ r' ∈ ms ∧ IntsAre vs ns ∧ SrcNs ns ∧ o' = listOf vs.toArray n

set_option maxHeartbeats 8000000 in
theorem one_ct (w : World) (p : Program) (loose : List Str) (mean : ExcName → Option Value) (mg mb : Str → Option Value) (d e : Addr) (vs ws : List Value) (ns ms : List Int) (n : Nat)
    (hi : IntsAre vs ns) (hs : SrcNs ns) (hw : IntsAre ws ms) (h0 : 0 < ms.length) (h1 : ms.length ≤ 1000) :
    CtS w p loose mean mg mb 2 329 [.ref d, .ref e] d (listOf vs.toArray n) (fun g => g.IsList e ws.toArray) (OneOut ms) := by
  k_with_none
  k_with "eval Constant int" => ((with_reducible refine const_fr ?_); intro _ _)
  k_with "binaryOp Add int int" => ((with_reducible refine add_fr ?_); intro _ _)
  k_with "inplaceOp Add int int" => ((with_reducible refine iadd_fr ?_); intro _ _)
  k_with "binaryOp Sub int int" => ((with_reducible refine sub_fr ?_); intro _ _)
  k_with "LeaveD" => ((refine leaveD_ (by k_asm) (by k_asm) (by k_mem) ?_; intro kF kN; (try dsimp only)))
  k_with "call ref" => ((
  (with_reducible show wpAny _ _ (call (Value.ref 322) [Value.ref _, Value.int _ _]) _ _ _);
  k_dflt (refine' take_use ?k1 ?k2 ?k3 ?k4 ?km ?ki ?ks ?k5 ?kK ?kt ?kl ?kd ?ku ?_);
  (case k1 => k_asm); (case k2 => k_asm); (case k3 => k_asm); (case k4 => k_asm); (case km => k_mem); (case ki => assumption); (case ks => assumption); (case k5 => k_asm); (case kK => exact rfl);
  (case kt => first | decide | assumption | omega); (case kl => first | decide | assumption | omega); (case kd => ktr_room); (case ku => ktr_units);
  k_whole; intro r9 t9 vs9 ns9 n9 h9 tk9 hr0 hr1 hi9 hs9 F9 N9; replace N9 := N9 _ (by k_upd); (try k_sweep); (try dsimp only); (try k_fold)))
  unfold CtS P0
  k_fill
  intro dp un gd cn cs a ccd cl outer A₀ base h₀ L m news s Q E B F X N hm hneed T hk hd hu hret
  replace hneed : (s.heap.hide d).IsList e ws.toArray := hneed
  refine wpAny_call ?_
  k_dflt ((refine' code_defD ?k1 ?k2 ?k3 ?k4 ?km ?k5 ?kA ?kF ?kK ?k6 ?k7 ?k8 ?k9 ?kB ?_ ?c2 ?c3 ?c4 ?c5; (case kA => exact rfl); (case kF => exact rfl); (case kK => assumption); (case k1 => k_asm); (case k2 => k_asm); (case k3 => k_asm); (case k4 => k_asm); (case km => k_asm); (case k5 => k_asm); (case k6 => k_is); (case k7 => k_is); (case k8 => ktr_room); (case k9 => exact BindsTo.of_eq rfl); (case c5 => decide); (case kB => exact locs rfl); (case c2 => exact rfl); (case c3 => exact rfl); (case c4 => exact rfl); k_whole; intro g' L' h' hg' F' N' B' X' T'; subst hg'; (try dsimp only); (try k_fold)))

  k_steps
  rename Fr h₀ L _ _ => kF
  rename ∀ nw, Upd d _ _ news nw → _ => kN
  exact hret _ _ _ _ ⟨_, _, _, _, _, rfl, getD_in (by assumption) (by assumption), by assumption, by assumption, rfl⟩ kF kN

section
variable {w : World} {p : Program} {loose : List Str} {mean : ExcName → Option Value} {mg mb : Str → Option Value} {d e : Addr} {vs ws : List Value} {ns ms : List Int} {n n2 : Nat}
  {dp un : Nat} {gd : Option (List Code)} {cn : Str} {cs : Scope} {a : Addr} {ccd : Value} {cl : List (Str × Addr)} {outer : List Env} {A₀ : Around} {base h₀ : Heap} {L : Addr} {m : Str → Option Value} {s : Shared} {Q E : Value → Shared → Prop} {news : List (Addr × Obj)}

theorem one_use (B : Below A₀ base outer h₀) (F : Fr h₀ L s.heap m) (X : (K9 w.params).In h₀) (N : News h₀ L s.heap news) (hm : (d, listOf vs.toArray n) ∈ news) (hm2 : (e, listOf ws.toArray n2) ∈ news) (hne : e ≠ d) (hi : IntsAre vs ns) (hs : SrcNs ns)
    (hw : IntsAre ws ms) (T : Top p loose mean mg mb h₀) (hk : cs.kind = .function) (h0 : 0 < ms.length) (h1 : ms.length ≤ 1000) (hd : dp + 2 < recursionLimit) (hu : un + 8 * 2 < cLine)
    (ret : ∀ r t vs' ns' n' h' tk', r ∈ ms → IntsAre vs' ns' → SrcNs ns' → Fr h₀ L h' m → (∀ nw, Upd d (listOf vs.toArray n) (listOf vs'.toArray n') news nw → News h₀ L h' nw) → Q (.int r t) { s with heap := h', toks := tk' }) :
    wpAny (model P0 w) (ktrTop dp un gd cn cs L a ccd cl outer) (call (.ref 329) [.ref d, .ref e]) Q E s := by
  refine one_ct w p loose mean mg mb d e vs ws ns ms n hi hs hw h0 h1 _ _ _ _ _ _ _ _ _ _ _ _ _ _ _ _ _ _ B F X N hm ?_ T hk hd hu ?_
  · exact PySem.IsL.isList (n := n2) ((Heap.hide_ne _ hne).trans (N _ hm2).1)
  · rintro _ _ h' tk' ⟨r, t, vs', ns', n', rfl, h2, h3, h4, rfl⟩ F' N'
    exact ret r t _ _ n' h' tk' h2 h3 h4 F' N'
end

-- Addr
open PySem.Calls
def AddrOut (r : Value) (o' : Obj) : Prop :=
  ∃ f l t vs ns n, r = .int (f * 16777216 + l) t ∧ 0 ≤ f ∧ f ≤ 255 ∧ 0 ≤ l ∧ l < 16777216 ∧ IntsAre vs ns ∧ SrcNs ns ∧ o' = listOf vs.toArray n

theorem addr_end {f l u : Int} (hf : f ∈ [(0:Int), 1, 10, 126, 127, 128, 192, 223, 224, 239, 240, 255]) (hl : l ∈ [(0:Int), 1, 2 ^ Int.toNat 24 - 1, u]) (h0 : 0 ≤ u) (h1 : u < 2 ^ Int.toNat 24) :
    f * 2 ^ Int.toNat 24 + l = f * 16777216 + l ∧ 0 ≤ f ∧ f ≤ 255 ∧ 0 ≤ l ∧ l < 16777216 := by
  have e : (2:Int) ^ Int.toNat 24 = 16777216 := by decide +kernel
  rw [e] at hl h1 ⊢
  simp only [List.mem_cons, List.not_mem_nil, or_false] at hf hl
  refine ⟨rfl, ?_, ?_, ?_, ?_⟩ <;> omega

set_option maxHeartbeats 8000000 in
theorem addr_ct (w : World) (p : Program) (loose : List Str) (mean : ExcName → Option Value) (mg mb : Str → Option Value) (d : Addr) (vs : List Value) (ns : List Int) (n : Nat)
    (hi : IntsAre vs ns) (hs : SrcNs ns) :
    CtS w p loose mean mg mb 3 336 [.ref d] d (listOf vs.toArray n) (fun _ => True) AddrOut := by
  k_with_none
  k_with "eval Constant int" => ((with_reducible refine const_fr ?_); intro _ _)
  k_with "binaryOp Add int int" => ((with_reducible refine add_fr ?_); intro _ _)
  k_with "inplaceOp Add int int" => ((with_reducible refine iadd_fr ?_); intro _ _)
  k_with "binaryOp Sub int int" => ((with_reducible refine sub_fr ?_); intro _ _)
  k_with "LeaveD" => ((refine leaveD_ (by k_asm) (by k_asm) (by k_mem) ?_; intro kF kN; (try dsimp only)))
  k_with "call ref" => ((
  (with_reducible show wpAny _ _ (call (Value.ref 322) [Value.ref _, Value.int _ _]) _ _ _);
  k_dflt (refine' take_use ?k1 ?k2 ?k3 ?k4 ?km ?ki ?ks ?k5 ?kK ?kt ?kl ?kd ?ku ?_);
  (case k1 => k_asm); (case k2 => k_asm); (case k3 => k_asm); (case k4 => k_asm); (case km => k_mem); (case ki => assumption); (case ks => assumption); (case k5 => k_asm); (case kK => exact rfl);
  (case kt => first | assumption | decide +kernel | omega); (case kl => first | assumption | decide +kernel | omega); (case kd => ktr_room); (case ku => ktr_units);
  k_whole; intro r9 t9 vs9 ns9 n9 h9 tk9 hr0 hr1 hi9 hs9 F9 N9; replace N9 := N9 _ (by k_upd); (try k_sweep); (try dsimp only); (try k_fold)))
  k_with "call ref" => ((
  (with_reducible show wpAny _ _ (call (Value.ref 329) [Value.ref _, Value.ref _]) _ _ _);
  k_dflt (refine' one_use ?k1 ?k2 ?k3 ?k4 ?km ?km2 ?kn ?ki ?ks ?kw ?k5 ?kK ?kt ?kl ?kd ?ku ?_);
  (case k1 => k_asm); (case k2 => k_asm); (case k3 => k_asm); (case k4 => k_asm); (case km => k_mem); (case km2 => k_mem); (case kn => k_ne); (case ki => assumption); (case ks => assumption);
  (case kw => first | assumption | (repeat constructor)); (case k5 => k_asm); (case kK => exact rfl);
  (case kt => first | decide | assumption | exact Nat.zero_lt_succ _); (case kl => first | decide | assumption | exact of_decide_eq_true rfl); (case kd => ktr_room); (case ku => ktr_units);
  k_whole; intro r9 t9 vs9 ns9 n9 h9 tk9 hr9 hi9 hs9 F9 N9; replace N9 := N9 _ (by k_upd); (try k_sweep); (try dsimp only); (try k_fold)))
  k_with "spliced" => (dsimp only)
  unfold CtS P0
  k_fill
  intro dp un gd cn cs a ccd cl outer A₀ base h₀ L m news s Q E B F X N hm hneed T hk hd hu hret
  refine wpAny_call ?_
  k_dflt ((refine' code_defD ?k1 ?k2 ?k3 ?k4 ?km ?k5 ?kA ?kF ?kK ?k6 ?k7 ?k8 ?k9 ?kB ?_ ?c2 ?c3 ?c4 ?c5; (case kA => exact rfl); (case kF => exact rfl); (case kK => assumption); (case k1 => k_asm); (case k2 => k_asm); (case k3 => k_asm); (case k4 => k_asm); (case km => k_asm); (case k5 => k_asm); (case k6 => k_is); (case k7 => k_is); (case k8 => ktr_room); (case k9 => exact BindsTo.of_eq rfl); (case c5 => decide); (case kB => exact locs rfl); (case c2 => exact rfl); (case c3 => exact rfl); (case c4 => exact rfl); k_whole; intro g' L' h' hg' F' N' B' X' T'; subst hg'; (try dsimp only); (try k_fold)))
  k_steps
  rename Fr h₀ L _ _ => kF
  rename ∀ nw, Upd d _ _ news nw → _ => kN
  rename _ ∈ [(0:Int), 1, 10, 126, _, _, _, _, _, _, _, _] => hf
  rename _ ∈ [(0:Int), 1, _, _] => hl
  rename (0:Int) ≤ _ => hr0
  rename _ < (2:Int) ^ _ => hr1
  obtain ⟨e, a1, a2, a3, a4⟩ := addr_end hf hl hr0 hr1
  exact hret _ _ _ _ ⟨_, _, _, _, _, _, by rw [e], a1, a2, a3, a4, by assumption, by assumption, rfl⟩ kF kN

section
variable {w : World} {p : Program} {loose : List Str} {mean : ExcName → Option Value} {mg mb : Str → Option Value} {d : Addr} {vs : List Value} {ns : List Int} {n : Nat}
  {dp un : Nat} {gd : Option (List Code)} {cn : Str} {cs : Scope} {a : Addr} {ccd : Value} {cl : List (Str × Addr)} {outer : List Env} {A₀ : Around} {base h₀ : Heap} {L : Addr} {m : Str → Option Value} {s : Shared} {Q E : Value → Shared → Prop} {news : List (Addr × Obj)}

theorem addr_use (B : Below A₀ base outer h₀) (F : Fr h₀ L s.heap m) (X : (K9 w.params).In h₀) (N : News h₀ L s.heap news) (hm : (d, listOf vs.toArray n) ∈ news) (hi : IntsAre vs ns) (hs : SrcNs ns)
    (T : Top p loose mean mg mb h₀) (hk : cs.kind = .function) (hd : dp + 3 < recursionLimit) (hu : un + 8 * 3 < cLine)
    (ret : ∀ f l t vs' ns' n' h' tk', 0 ≤ f → f ≤ 255 → 0 ≤ l → l < 16777216 → IntsAre vs' ns' → SrcNs ns' → Fr h₀ L h' m → (∀ nw, Upd d (listOf vs.toArray n) (listOf vs'.toArray n') news nw → News h₀ L h' nw) → Q (.int (f * 16777216 + l) t) { s with heap := h', toks := tk' }) :
    wpAny (model P0 w) (ktrTop dp un gd cn cs L a ccd cl outer) (call (.ref 336) [.ref d]) Q E s := by
  refine addr_ct w p loose mean mg mb d vs ns n hi hs _ _ _ _ _ _ _ _ _ _ _ _ _ _ _ _ _ _ B F X N hm trivial T hk hd hu ?_
  rintro _ _ h' tk' ⟨f, l, t, vs', ns', n', rfl, h1, h2, h3, h4, h5, h6, rfl⟩ F' N'
  exact ret f l t _ _ n' h' tk' h1 h2 h3 h4 h5 h6 F' N'
end

-- Pure
open PySem.Calls

/-- the contract of a def that writes nothing of the caller's -/
def CtP (w : World) (p : Program) (loose : List Str) (mean : ExcName → Option Value) (mg mb : Str → Option Value) (k : Nat) (f : Addr) (vs : List Value) (Out : Value → Prop) : Prop :=
  ∀ (dp un : Nat) (gd : Option (List Code)) (cn : Str) (cs : Scope) (a : Addr) (ccd : Value) (cl : List (Str × Addr)) (outer : List Env) (A₀ : Around) (base h₀ : Heap) (L : Addr) (m : Str → Option Value)
    (news : List (Addr × Obj)) (s : Shared) (Q E : Value → Shared → Prop),
    Below A₀ base outer h₀ → Fr h₀ L s.heap m → (K9 w.params).In h₀ → News h₀ L s.heap news → Top p loose mean mg mb h₀ → cs.kind = .function → dp + k < recursionLimit → un + 8 * k < cLine →
    (∀ r h' tk', Out r → Fr h₀ L h' m → News h₀ L h' news → Q r { s with heap := h', toks := tk' }) →
    wpAny (model P0 w) (ktrTop dp un gd cn cs L a ccd cl outer) (call (.ref f) vs) Q E s

def LeaveP (h₀ : Heap) (L : Addr) (m : Str → Option Value) (g : Heap) (news : List (Addr × Obj)) (R : Result → Shared → Prop) (v : Value) (s' : Shared) : Prop :=
  ∃ L' m', Fr g L' s'.heap m' ∧ (Fr h₀ L s'.heap m → News h₀ L s'.heap news → R (.ok (.ret v)) s')
theorem leaveP_ {h₀ g : Heap} {L L' : Addr} {m m' : Str → Option Value} {news : List (Addr × Obj)} {R : Result → Shared → Prop} {v : Value} {s' : Shared} (F' : Fr g L' s'.heap m')
    (k : Fr h₀ L s'.heap m → News h₀ L s'.heap news → R (.ok (.ret v)) s') : LeaveP h₀ L m g news R v s' := ⟨L', m', F', k⟩

section
variable {prog : Program} {w : World} {A A₀ : Around} {E : Value → Shared → Prop} {s : Shared} {K : Frag} {C L : Addr} {h₀ base : Heap} {m mg mb : Str → Option Value} {news : List (Addr × Obj)} {p : Program} {loose : List Str} {mean : ExcName → Option Value} {Q : Value → Shared → Prop}
/-- the call of a def of the text, nothing of the ledger handed in -/
theorem code_def0 {env : Env} {outer : List Env} {R : Result → Shared → Prop} {name qual : Str} {params : Arguments} {body : List Stmt} {scope : Scope} {dV kV doc pm cdv ct oc : Value} {an od : Option Addr} {osl : Array (Option Value)} {f : Addr} {args : Args} {binds : List (Str × Value)}
    (B : Below A₀ base outer h₀) (F : Fr h₀ L s.heap m) (X₀ : K.In h₀) (N : News h₀ L s.heap news) (T : Top p loose mean mg mb h₀) (hA : A.frames = some (env :: outer)) (hf : env.frame = some L) (hke : env.scope.kind = .function)
    (ho : K.lookup f = some ⟨oc, od, .func (fnOf name qual params body scope dV kV doc pm an cdv ct), osl⟩) (hcd : codeIn K cdv qual = true) (hroom : A.depth < recursionLimit)
    (hbind : BindsTo s (fnOf name qual params body scope dV kV doc pm an cdv ct) args binds) (hloc : ∀ y ∈ binds, scope.names.lookup y.1 = some .local)
    (h : ∀ g L' h₁, g = s.heap → Fr g L' h₁ (fun y => binds.reverse.lookup y) → News g L' h₁ [] → Below A base (env :: outer) g → K.In g → Top p loose mean mg mb g →
      wpAny (model prog w) (A.deeper (envOf qual scope L' f cdv)) (execs body (envOf qual scope L' f cdv))
        (fun fl s' => LeaveP h₀ L m g news R (match fl with | .ret v => v | _ => .none) s')
        (fun e s' => wpAny (model prog w) (A.deeper (envOf qual scope L' f cdv)) (leaving (envOf qual scope L' f cdv) e) (fun _ s'' => R (.error e) s'') (fun e' s'' => R (.error e') s'') s')
        { s with heap := h₁, toks := s.toks + binds.length })
    (hco : scope.isCoroutine = false) (hgen : scope.isGenerator = false) (hk : scope.kind = .function)
    (hcell : ∀ x ∈ scope.names, x.2 ≠ .cell) : codeAny (model prog w) A (.call (.ref f) args) R s := by
  have N1 : News h₀ L s.heap [] := fun q hq => nomatch hq
  obtain ⟨_, BG, st, lv⟩ := groundX (R := R) B F N1 hA hf hke
  have X := X₀.keeps F.keep
  refine codeAny_call_def (fd := fnOf name qual params body scope dV kV doc pm an cdv ct) (body := body) (binds := binds) hroom (X _ _ ho) rfl (T.nolimit.keeps F.keep) (codeRec_of X hcd) rfl hbind hcell hloc (fun h₁ hns hk₁ => ?_) hco hgen hk
  refine wpAny_mono (h s.heap s.heap.objs.size h₁ rfl ⟨hns, fun b ob e => hk₁ b ob e, Nat.le_refl _⟩
    (fun q hq => nomatch hq) BG (X₀.keeps st) (T.keeps st)) (fun fl s' hl => ?_) fun _ _ y => y
  obtain ⟨L', m', F', k⟩ := hl
  have N1' : News s.heap L' s'.heap [] := fun q hq => nomatch hq
  refine lv _ _ ⟨L', m', [], F', N1', fun F₂ _ => k F₂ fun q hq => ⟨F'.keep _ _ (N q hq).1, (N q hq).2⟩⟩
end

-- Bits
open PySem.Calls
structure GoOn : Prop where
  mark :: (one : True)
structure Hold (P : Prop) : Prop where
  out : P
theorem hold_in {P : Prop} (h : Hold P) : P := h.out

theorem and_high {a b : Nat} (h : b < 256) : (a * 256) &&& b = 0 := by
  refine Nat.eq_of_testBit_eq fun i => ?_
  rw [Nat.testBit_and, Nat.zero_testBit, Nat.mul_comm, show (256:Nat) = 2 ^ 8 from rfl, Nat.testBit_two_pow_mul]
  by_cases hi : 8 ≤ i
  · have : b.testBit i = false := Nat.testBit_lt_two_pow (Nat.lt_of_lt_of_le h (Nat.le_trans (by decide) (Nat.pow_le_pow_right (by decide) hi)))
    rw [this, Bool.and_false]
  · simp [hi]
theorem or_high {x a b : Int} (hx : x = a * 256) (ha : 0 ≤ a) (h0 : 0 ≤ b) (h1 : b < 256) : Builtin.bitOr x b = x + b := by
  have e : Builtin.bitAnd x b = 0 := by
    rw [bitAnd_pp (by omega) h0]
    have ex : x.toNat = a.toNat * 256 := by omega
    rw [ex, and_high (by omega)]
    rfl
  rw [bitOr_and, e, Int.sub_zero]
theorem p8 : (2:Int) ^ (8:Int).toNat = 256 := by decide +kernel
theorem p16 : (2:Int) ^ (16:Int).toNat = 65536 := by decide +kernel

section
variable {prog : Program} {w : World} {A : Around} {E : Value → Shared → Prop} {s : Shared}
/-- each result under a new letter, with what bounds it -/
theorem shl8 {a : Int} {t u : Tok} {Q : Value → Shared → Prop} (h0 : 0 ≤ a) (h1 : a < 4294967296) (h : ∀ t' k v, v = a * 256 → Q (.int v t') { s with toks := k }) :
    wpAny (model prog w) A (binaryOp .LShift (.int a t) (.int 8 u)) Q E s :=
  lshift_int_small (by decide) (by decide) (by omega) (h _ _ _ (by rw [p8]))
theorem or8 {x a b : Int} {t u : Tok} {Q : Value → Shared → Prop} (hx : x = a * 256) (ha : 0 ≤ a) (h0 : 0 ≤ b) (h1 : b < 256) (h : ∀ t' k v, v = x + b → Q (.int v t') { s with toks := k }) :
    wpAny (model prog w) A (binaryOp .BitOr (.int x t) (.int b u)) Q E s :=
  or_int (h _ _ _ (or_high hx ha h0 h1))
theorem and8 {a : Int} {t u : Tok} {Q : Value → Shared → Prop} (h : ∀ t' k v q, a = q * 256 + v → 0 ≤ v → v < 256 → Q (.int v t') { s with toks := k }) :
    wpAny (model prog w) A (binaryOp .BitAnd (.int a t) (.int 255 u)) Q E s := by
  refine and_int (h _ _ _ (a / 256) ?_ ?_ ?_) <;> (rw [bitAnd_m8]; omega)
theorem and16 {a : Int} {t u : Tok} {Q : Value → Shared → Prop} (h : ∀ t' k v q, a = q * 65536 + v → 0 ≤ v → v < 65536 → Q (.int v t') { s with toks := k }) :
    wpAny (model prog w) A (binaryOp .BitAnd (.int a t) (.int 65535 u)) Q E s := by
  refine and_int (h _ _ _ (a / 65536) ?_ ?_ ?_) <;> (rw [bitAnd_m16]; omega)
theorem shr8 {a : Int} {t u : Tok} {Q : Value → Shared → Prop} (h : ∀ t' k q v, a = q * 256 + v → 0 ≤ v → v < 256 → Q (.int q t') { s with toks := k }) :
    wpAny (model prog w) A (binaryOp .RShift (.int a t) (.int 8 u)) Q E s := by
  refine rshift_int (by decide) (h _ _ _ (a % 256) ?_ ?_ ?_) <;> (try rw [p8, Int.fdiv_eq_ediv_of_nonneg _ (by decide)]) <;> omega
theorem shr16 {a : Int} {t u : Tok} {Q : Value → Shared → Prop} (h : ∀ t' k q v, a = q * 65536 + v → 0 ≤ v → v < 65536 → Q (.int q t') { s with toks := k }) :
    wpAny (model prog w) A (binaryOp .RShift (.int a t) (.int 16 u)) Q E s := by
  refine rshift_int (by decide) (h _ _ _ (a % 65536) ?_ ?_ ?_) <;> (try rw [p16, Int.fdiv_eq_ediv_of_nonneg _ (by decide)]) <;> omega
theorem item_lit {b : Array UInt8} {ks : List Int} {t : Tok} {i v : Int} {value slice : PySem.Expr} {ui : Tok} {Q : Value → Shared → Prop} (hk : KBw.bInts b = ks) (hfit : ks.length ≤ 1099511627776) (h0 : 0 ≤ i) (h1 : i < (ks.length : Int))
    (e : ks.getD i.toNat 0 = v)
    (hs : subscripted slice false (.bytes b t) (.int i ui) = operate [.bytes b t, .int i ui] (getItem (.bytes b t) (.int i ui)))
    (ht : ∀ r, letTemporaryGo value (.bytes b t) r = pure ()) (h : ∀ t' k, 0 ≤ v → v < 256 → Q (.int v t') { s with toks := k }) : wpAny (model prog w) A (subscriptTail value slice (.bytes b t) (.int i ui)) Q E s :=
  KBw.item_K hk hfit h0 h1 (by rw [e]; exact h) hs ht
theorem len_lit {b : Array UInt8} {ks : List Int} {t : Tok} {n : Nat} {Q : Value → Shared → Prop} (hk : KBw.bInts b = ks) (e : ks.length = n) (hfit : n ≤ 1099511627776) (h : ∀ t' k, Q (.int n t') { s with toks := k }) : wpAny (model prog w) A (call (.builtin "len") [.bytes b t]) Q E s :=
  KBw.len_K hk (by omega) (by rw [e]; exact h _ _)
end
/-- what the folding of x gives: a number of 16 bits, x less a multiple of 65535, nought for nought alone -/
structure FoldIn (x c : Int) : Prop where
  lo : 0 ≤ c
  eq : ∃ q, 0 ≤ q ∧ x = c + 65535 * q
  pos : 0 < x → 0 < c
theorem FoldIn.start {x : Int} (h : 0 ≤ x) : FoldIn x x := ⟨h, ⟨0, by omega⟩, id⟩
theorem FoldIn.turn {x t q v q' v' : Int} (J : FoldIn x t) (h : t > 65535) (e1 : t = q * 65536 + v) (h1 : 0 ≤ v) (h2 : v < 65536) (e2 : t = q' * 65536 + v') (h3 : 0 ≤ v') (h4 : v' < 65536) : FoldIn x (v + q') := by
  obtain ⟨_, ⟨k, hk⟩, _⟩ := J
  exact ⟨by omega, ⟨k + q', by omega⟩, fun _ => by omega⟩
theorem FoldIn.less {t q v q' v' : Int} (h : t > 65535) (e1 : t = q * 65536 + v) (h1 : 0 ≤ v) (h2 : v < 65536) (e2 : t = q' * 65536 + v') (h3 : 0 ≤ v') (h4 : v' < 65536) : (v + q').toNat < t.toNat := by omega

-- BCount
open PySem.Calls PySem.Builtin

theorem int_no_bytes : typeLookup (.type "int") "__bytes__" = pure none := by rw [typeLookup_type, builtinLookup_eq_fast]; kernel_rfl
theorem bind_int (v : Value) : Builtin.Bytes.bindOptional "bytes.__new__" "bytes" ["source", "encoding", "errors"] [v] [] = pure [some v, none, none] := F.bm_bind v
section
variable {prog : Program} {w : World} {A : Around} {E : Value → Shared → Prop} {s : Shared}
theorem count_new {n : Int} {t : Tok} {Q : Value → Shared → Prop} (h0 : 0 ≤ n) (h1 : n ≤ 1000)
    (hQ : ∀ t k, Q (.bytes (Array.replicate n.toNat 0) t) { s with toks := k }) :
    codeAny (model prog w) A (.call (.builtin "bytes.__new__") ⟨[.type "bytes", .int n t], []⟩) (wants Q E) s := by
  refine codeAny_of_tree ?_
  show wpAny _ A.in1 (do checkBuiltinCall "bytes.__new__" ⟨[.type "bytes", .int n t], []⟩; again (.builtin "bytes.__new__" ⟨[.type "bytes", .int n t], []⟩)) _ _ s
  refine wpAny_bind (wpAny_of_eq (F.bm_newCall _) (wpAny_pure ⟨plainId_quiet F.bm_plain _, codeAny_builtin F.bm_entry ?_⟩))
  rw [Around.under_plainId F.bm_plain _]
  unfold Builtin.«bytes.__new__»
  refine wpAny_bind (wpAny_of_eq (a := true) rfl ?_)
  refine bm_if_false rfl ?_
  refine wpAny_bind (wpAny_of_eq F.bm_sub ?_)
  refine bm_if_false rfl ?_
  refine wpAny_bind (wpAny_of_eq (F.bm_bind _) ?_)
  refine wpAny_bind (wpAny_of_eq (a := ()) rfl ?_)
  refine wpAny_bind (wpAny_of_eq (a := ()) rfl ?_)
  refine bm_if_false rfl ?_
  refine wpAny_bind (wpAny_specialOf (T := "int") (typeIs_int s n t) int_no_bytes ?_)
  refine wpAny_bind (wpAny_of_eq (a := false) rfl ?_)
  refine bm_if_false rfl ?_
  refine wpAny_bind (wpAny_specialOf (T := "int") (typeIs_int s n t) F.slot_int_index.lookup ?_)
  refine bm_if_false rfl ?_
  refine wpAny_bind (wpAny_attempt (wpAny_of_eq (rfl : asIndex (.int n t) = pure n) ?_))
  have hf : (!Builtin.Bytes.fitsIndex n) = false := by
    rw [show Builtin.Bytes.fitsIndex n = (decide (-(2 ^ 63 : Int) ≤ n) && decide (n < 2 ^ 63)) from rfl, decide_eq_true (by omega), decide_eq_true (by omega)]
    rfl
  have ht : Builtin.Bytes.tooLong n.toNat = false := by
    show decide (n.toNat > sizeLine) = false
    rw [sizeLine_eq, decide_eq_false (by omega)]
  refine bm_if_false hf ?_
  dsimp only
  rw [if_neg (by omega), if_neg (by omega)]
  refine bm_if_false ht ?_
  refine wpAny_bind (wpAny_rule ?_)
  refine wpAny_bind (wpAny_mkBytes ?_ (by rw [Array.size_replicate, sizeLine_eq]; omega))
  show wpAny _ _ (if (Value.type "bytes" == Value.type "bytes") = true then _ else _) _ _ _
  refine bm_if_true (by decide) ?_
  first
    | exact wpAny_pure (hQ _ _)
    | exact wpAny_bind (wpAny_pure (wpAny_pure (hQ _ _)))
theorem call_bytes_count {n : Int} {t : Tok} {Q : Value → Shared → Prop} (h0 : 0 ≤ n) (h1 : n ≤ 1000)
    (hQ : ∀ t k, Q (.bytes (Array.replicate n.toNat 0) t) { s with toks := k }) : wpAny (model prog w) A (call (.type "bytes") [.int n t]) Q E s := by
  refine callType_codes (Q₁ := fun obj s₁ => s₁.TypeIs obj "bytes" ∧ Q obj s₁) F.bm_called (F.bm_typeCall _) F.entry_object_init
    (count_new h0 h1 fun t k => ⟨PySem.W.typeIs_bytes _ _ _, hQ t k⟩) fun obj s₁ h₁ => ?_
  exact ⟨h₁.1, F.args_object_init_2 obj _, object_init_meets F.bm_called.init.lookup F.bm_called.made (by decide) prog w A.in1 _ s₁ ⟨h₁.1, rfl, h₁.2⟩⟩
theorem ints_zero (n : Nat) : KBw.bInts (Array.replicate n 0) = List.replicate n 0 := by
  simp [KBw.bInts]
theorem bytes_0 {t : Tok} {Q : Value → Shared → Prop} (hQ : ∀ b t k, KBw.bInts b = [] → Q (.bytes b t) { s with toks := k }) : wpAny (model prog w) A (call (.type "bytes") [.int 0 t]) Q E s :=
  call_bytes_count (by decide) (by decide) fun t k => hQ _ t k (ints_zero 0)
theorem bytes_1 {t : Tok} {Q : Value → Shared → Prop} (hQ : ∀ b t k, KBw.bInts b = [0] → Q (.bytes b t) { s with toks := k }) : wpAny (model prog w) A (call (.type "bytes") [.int 1 t]) Q E s :=
  call_bytes_count (by decide) (by decide) fun t k => hQ _ t k (ints_zero 1)
theorem make_own {h₀ : Heap} {L D : Addr} {m : PySem.Str → Option Value} {news : List (Addr × Obj)} {vs : List Value} {ns : List Int} {Q : Value → Shared → Prop} (F : Fr h₀ L s.heap m) (N : News h₀ L s.heap news) (hh : A.handled = none) (hl : s.heap.IsList D vs.toArray) (hi : IntsAre vs ns) (hr : KBa.In ns) (hn : ns.length ≤ 16777216)
    (h : ∀ h' t' k b, KBw.bInts b = ns → Fr h₀ L h' m → News h₀ L h' news → Q (.bytes b t') { s with heap := h', toks := k }) : wpAny (model prog w) A (call (.type "bytes") [.ref D]) Q E s :=
  KBa.make_K F N hh hl hi hr hn fun h' t' k F' N' hr => h h' t' k _ (KBa.ints_make hr) F' N'
end

-- Fold
open PySem.Calls
local macro_rules | `(tactic| k_room) => `(tactic| ktr_room)
def FoldOut (x : Int) (r : Value) : Prop := ∃ c t, r = .int c t ∧ FoldIn x c ∧ c ≤ 65535
set_option maxHeartbeats 8000000 in
theorem fold_ct (w : World) (p : Program) (loose : List Str) (mean : ExcName → Option Value) (mg mb : Str → Option Value) (x : Int) (t : Tok) (hx : 0 ≤ x) :
    CtP w p loose mean mg mb 1 88 [.int x t] (FoldOut x) := by
  k_with_none
  k_with "eval Constant int" => ((with_reducible refine const_fr ?_); intro _ _)
  k_with "binaryOp Add int int" => ((with_reducible refine add_fr ?_); intro _ _)
  k_with "inplaceOp Add int int" => ((with_reducible refine iadd_fr ?_); intro _ _)
  k_with "binaryOp Sub int int" => ((with_reducible refine sub_fr ?_); intro _ _)
  k_with "LeaveP" => ((refine leaveP_ (by k_asm) ?_; intro kF kN; (try dsimp only)))
  k_with "spliced" => (dsimp only)
  k_with "subscriptTail" => ((k_here; (with_reducible show wpAny _ _ (subscriptTail _ _ (Value.bytes _ _) (Value.int _ _)) _ _ _); (refine item_lit (by kba_ints) (by exact of_decide_eq_true rfl) (by exact of_decide_eq_true rfl) (by exact of_decide_eq_true rfl) (by (simp only [Int.reduceAdd, Int.reduceMul, Int.reduceToNat, List.cons_append, List.nil_append, List.getD_cons_zero, List.getD_cons_succ]; try exact rfl)) (by with_unfolding_all rfl) (by intro _; with_unfolding_all rfl) ?_); intro _ _ kbaLo kbaHi))
  k_with "binaryOp LShift int int" => (((with_reducible show wpAny _ _ (binaryOp _ _ (Value.int 8 _)) _ _ _); k_dflt ((refine' shl8 ?k1 ?k2 ?_); (case k1 => omega); (case k2 => omega); k_whole; intro _ _ v9 hv9)))
  k_with "binaryOp BitOr int int" => ((k_dflt ((refine' or8 ?k1 ?k2 ?k3 ?k4 ?_); (case k1 => assumption); (case k2 => omega); (case k3 => omega); (case k4 => omega); k_whole; intro _ _ v9 hv9)))
  k_with "binaryOp BitAnd int int" => (((with_reducible show wpAny _ _ (binaryOp _ _ (Value.int 255 _)) _ _ _); k_dflt ((refine' and8 ?_); k_whole; intro _ _ v9 q9 hv9 hv0 hv1)))
  k_with "binaryOp BitAnd int int" => (((with_reducible show wpAny _ _ (binaryOp _ _ (Value.int 65535 _)) _ _ _); k_dflt ((refine' and16 ?_); k_whole; intro _ _ v9 q9 hv9 hv0 hv1)))
  k_with "binaryOp RShift int int" => (((with_reducible show wpAny _ _ (binaryOp _ _ (Value.int 8 _)) _ _ _); k_dflt ((refine' shr8 ?_); k_whole; intro _ _ q9 v9 hv9 hv0 hv1)))
  k_with "binaryOp RShift int int" => (((with_reducible show wpAny _ _ (binaryOp _ _ (Value.int 16 _)) _ _ _); k_dflt ((refine' shr16 ?_); k_whole; intro _ _ q9 v9 hv9 hv0 hv1)))
  k_with "subscriptTail" => ((k_here; (with_reducible show wpAny _ _ (subscriptTail _ _ (Value.bytes _ _) (Value.int _ _)) _ _ _); (refine item_lit (by kba_ints) (by exact of_decide_eq_true rfl) (by exact of_decide_eq_true rfl) (by exact of_decide_eq_true rfl) (by (simp only [Int.reduceAdd, Int.reduceMul, Int.reduceToNat, List.cons_append, List.nil_append, List.getD_cons_zero, List.getD_cons_succ]; try exact rfl)) (by with_unfolding_all rfl) (by intro _; with_unfolding_all rfl) ?_); intro _ _ kbaLo kbaHi))
  k_with "call builtin:len" => ((k_here; (with_reducible show wpAny _ _ (call (Value.builtin "len") [Value.bytes _ _]) _ _ _); (refine len_lit (by kba_ints) (by (simp only [List.cons_append, List.nil_append, List.length_cons, List.length_nil, Nat.reduceAdd]; try exact rfl)) (by exact of_decide_eq_true rfl) ?_); intro _ _))
  k_with "call type:range" => ((simp only [List.length_cons, List.length_nil, Nat.reduceAdd, Int.cast_ofNat_Int, Int.reduceFMod, Int.reduceSub, Int.reduceFDiv]; walk_at "call type:range"))
  unfold CtP P0
  k_fill
  intro dp un gd cn cs a ccd cl outer A₀ base h₀ L m news s Q E B F X N T hk hd hu hret
  refine wpAny_call ?_
  k_dflt ((refine' code_def0 ?k1 ?k2 ?k3 ?k4 ?k5 ?kA ?kF ?kK ?k6 ?k7 ?k8 ?k9 ?kB ?_ ?c2 ?c3 ?c4 ?c5; (case kA => exact rfl); (case kF => exact rfl); (case kK => assumption); (case k1 => k_asm); (case k2 => k_asm); (case k3 => k_asm); (case k4 => k_asm); (case k5 => k_asm); (case k6 => k_is); (case k7 => k_is); (case k8 => ktr_room); (case k9 => first | exact BindsTo.of_eq rfl | exact binds_K (by k_in) rfl (by k_is) rfl rfl rfl); (case c5 => decide); (case kB => exact locs rfl); (case c2 => exact rfl); (case c3 => exact rfl); (case c4 => exact rfl); k_whole; intro g' L' h' hg' F' N' B' X' T'; clear hg'; (try dsimp only); (try k_fold)))
  k_with "state" => first | exact FoldIn.start (by assumption) | exact FoldIn.turn (by assumption) (by assumption) (by assumption) (by assumption) (by assumption) (by assumption) (by assumption) (by assumption)
  k_with "measure" => exact FoldIn.less (by assumption) (by assumption) (by assumption) (by assumption) (by assumption) (by assumption) (by assumption)
  k_with "exec While Compare cons nil" => k_while_given ["total!"] (fun t0 (_ : List Int) total => FoldIn t0 total) (fun _ (_ : List Int) total => total.toNat) "total"
  k_steps
  rename Fr h₀ L _ m => kF
  rename News h₀ L _ news => kN
  exact hret _ _ _ ⟨_, _, rfl, by assumption, by omega⟩ kF kN

section
variable {w : World} {p : Program} {loose : List Str} {mean : ExcName → Option Value} {mg mb : Str → Option Value}
  {dp un : Nat} {gd : Option (List Code)} {cn : Str} {cs : Scope} {a : Addr} {ccd : Value} {cl : List (Str × Addr)} {outer : List Env} {A₀ : Around} {base h₀ : Heap} {L : Addr} {m : Str → Option Value} {s : Shared} {Q E : Value → Shared → Prop} {news : List (Addr × Obj)}
theorem fold_use {x : Int} {t : Tok} (B : Below A₀ base outer h₀) (F : Fr h₀ L s.heap m) (X : (K9 w.params).In h₀) (N : News h₀ L s.heap news)
    (T : Top p loose mean mg mb h₀) (hk : cs.kind = .function) (hx : 0 ≤ x) (hd : dp + 1 < recursionLimit) (hu : un + 8 * 1 < cLine)
    (ret : ∀ c t' h' tk', FoldIn x c → c ≤ 65535 → Fr h₀ L h' m → News h₀ L h' news → Q (.int c t') { s with heap := h', toks := tk' }) :
    wpAny (model P0 w) (ktrTop dp un gd cn cs L a ccd cl outer) (call (.ref 88) [.int x t]) Q E s := by
  refine fold_ct w p loose mean mg mb x t hx _ _ _ _ _ _ _ _ _ _ _ _ _ _ _ _ _ _ B F X N T hk hd hu ?_
  rintro _ h' tk' ⟨c, t', rfl, h1, h2⟩ F' N'
  exact ret c t' h' tk' h1 h2 F' N'
end

-- Sum
open PySem.Calls
/-- the sum of the words of 16 bits, an odd end padded -/
noncomputable def wsum : List Int → Int
  | [] => 0
  | [a] => a * 256
  | a :: b :: r => a * 256 + b + wsum r
/-- the words of 16 bits of a list of octets, summed up to the j-th -/
noncomputable def wupto (ks : List Int) : Nat → Int
  | 0 => 0
  | j + 1 => wupto ks j + ks.getD (2 * j) 0 * 256 + ks.getD (2 * j + 1) 0
theorem wupto_cons (a b : Int) (r : List Int) : ∀ j, wupto (a :: b :: r) (j + 1) = a * 256 + b + wupto r j
  | 0 => by simp [wupto]
  | j + 1 => by
    rw [wupto, wupto_cons a b r j, wupto, show 2 * (j + 1) = 2 * j + 1 + 1 by omega, List.getD_cons_succ, List.getD_cons_succ, List.getD_cons_succ, List.getD_cons_succ]
    omega
theorem sum_even : ∀ (ks : List Int) (H : Nat), ks.length = 2 * H → wsum ks = wupto ks H
  | [], H, l => by
    have e : H = 0 := by simp at l; omega
    rw [e]; rfl
  | [_], H, l => by simp at l; omega
  | _ :: _ :: _, 0, l => by simp at l
  | a :: b :: r, H + 1, l => by
    rw [wupto_cons, ← sum_even r H (by simp only [List.length_cons] at l; omega)]
    rfl
theorem sum_odd : ∀ (ks : List Int) (H : Nat), ks.length = 2 * H + 1 → wsum ks = wupto ks H + ks.getD (2 * H) 0 * 256
  | [], H, l => by simp at l
  | [a], H, l => by
    have e : H = 0 := by simp at l; omega
    rw [e]
    show a * 256 = 0 + a * 256
    omega
  | _ :: _ :: _, 0, l => by simp at l
  | a :: b :: r, H + 1, l => by
    rw [wupto_cons, show 2 * (H + 1) = 2 * H + 1 + 1 by omega, List.getD_cons_succ, List.getD_cons_succ]
    have e := sum_odd r H (by simp only [List.length_cons] at l; omega)
    show a * 256 + b + wsum r = _
    omega
def CkOut (ks : List Int) (r : Value) : Prop := ∃ c t, r = .int (65535 - c) t ∧ FoldIn (wsum ks) c ∧ c ≤ 65535
theorem fold_at {x y c : Int} (h : FoldIn x c) (e : y = x) : FoldIn y c := e ▸ h
theorem sum_turn {ks : List Int} {i : Nat} {v a b x q : Int} (e : v = wupto ks i) (ea : ks.getD (2 * (i : Int)).toNat 0 = a) (eb : ks.getD (2 * (i : Int) + 1).toNat 0 = b) (ex : x = a * 256) (ew : q = x + b) : v + q = wupto ks (i + 1) := by
  have e1 : (2 * (i : Int)).toNat = 2 * i := by omega
  have e2 : (2 * (i : Int) + 1).toNat = 2 * i + 1 := by omega
  rw [e1] at ea
  rw [e2] at eb
  rw [wupto, ea, eb]
  omega
theorem sum_fin0 {ks : List Int} {H r : Nat} {v : Int} (e : v = wupto ks H) (hn : ks.length = 2 * H + r) (h : ¬ 2 * (H : Int) < ((2 * H + r : Nat) : Int)) : wsum ks = v := by
  rw [e]
  exact sum_even ks H (by omega)
theorem sum_fin1 {ks : List Int} {H r : Nat} {v a q : Int} (e : v = wupto ks H) (hn : ks.length = 2 * H + r) (hr : r ≤ 1) (h : 2 * (H : Int) < ((2 * H + r : Nat) : Int)) (ea : ks.getD (2 * (H : Int)).toNat 0 = a) (ew : q = a * 256) : wsum ks = v + q := by
  have e1 : (2 * (H : Int)).toNat = 2 * H := by omega
  rw [e1] at ea
  rw [e, ew, ← ea]
  exact sum_odd ks H (by omega)
/-- how a loop over every second place stands -/
def SumJ (ks : List Int) (x y : Str) (m₀ : Str → Option Value) (i : Nat) (m : Str → Option Value) (nx : List (Addr × Obj)) : Prop :=
  nx = [] ∧ ∃ v u, m y = some (.int v u) ∧ (∀ z, z ≠ x → z ≠ y → m z = m₀ z) ∧ v = wupto ks i ∧ 0 ≤ v
theorem SumJ.fr {x y : Str} {m₀ m : Str → Option Value} {v : Int} {u : Tok} (hv : m y = some (.int v u)) (hz : ∀ z, z ≠ x → z ≠ y → m z = m₀ z) (g : Option Value → Option Value) :
    (fun z => if z = x then g (m z) else m z) = (fun z => if z = x then g (m x) else if z = y then some (.int v u) else m₀ z) := by
  funext z
  by_cases h1 : z = x
  · rw [if_pos h1, if_pos h1, h1]
  · rw [if_neg h1, if_neg h1]
    by_cases h2 : z = y
    · rw [if_pos h2, h2, hv]
    · rw [if_neg h2, hz z h1 h2]
section
variable {prog : Program} {w : World} {A : Around} {E : Value → Shared → Prop} {s : Shared} {env : Env} {h₀ : Heap} {x y : Str} {body : List Stmt} {Q : Flow → Shared → Prop}
theorem sum_end {L I : Addr} {it : Obj} {ks : List Int} {i : Nat} {s₁ : Shared} {h' : Heap} {tk : Nat} {m₀ m' : Str → Option Value} {v : Int} {u : Tok} (F : Fr h₀ L h' m') (N : News h₀ L h' [(I, it)]) (hv : m' y = some (.int v u)) (hz : ∀ z, z ≠ x → z ≠ y → m' z = m₀ z) (e : v = wupto ks i) (e0 : 0 ≤ v) :
    UnrEnd h₀ L s₁ I it (SumJ ks x y m₀ i) { s₁ with heap := h', toks := tk } :=
  ⟨h', tk, m', [], rfl, F, N, fun _ hp => (nomatch hp), rfl, v, u, hv, hz, e, e0⟩
theorem sum_loop {ks : List Int} {r : Addr} {b₀ : Int} {t₀ u₀ v₀ t₁ : Tok} {n : Nat} {m₀ : Str → Option Value} (hh : A.handled = none) (hr : IsRange s.heap r 0 b₀ 2 t₀ u₀ v₀) (hs : Builtin.Range.small 0 b₀ 2 = true) (hn : Builtin.Range.rangeSize 0 b₀ 2 = (n : Int))
    (F : Fr h₀ env.locals s.heap m₀) (N : News h₀ env.locals s.heap []) (h0 : m₀ y = some (.int 0 t₁))
    (turn : ∀ I it (i : Nat) v t u h tk, i < n → v = wupto ks i → 0 ≤ v → Fr h₀ env.locals h (fun z => if z = x then some (.int (2 * (i : Int)) t) else if z = y then some (.int v u) else m₀ z) → News h₀ env.locals h [(I, it)] →
      wpAny (model prog w) A (execs body env) (UnrPost h₀ env.locals { s with heap := h, toks := tk } I it (SumJ ks x y m₀ (i + 1)) Q) E { s with heap := h, toks := tk })
    (done : ∀ v u xv h tk, v = wupto ks n → 0 ≤ v → Fr h₀ env.locals h (fun z => if z = x then xv else if z = y then some (.int v u) else m₀ z) → News h₀ env.locals h [] → Q .next { s with heap := h, toks := tk }) :
    wpAny (model prog w) A (pyIter (.ref r)) (fun it s₂ => LoopAtV prog w A h₀ env x body Q E it s₂) E s := by
  have go : ∀ (I : Addr) (k i : Nat) (m : Str → Option Value) (nx : List (Addr × Obj)), i + k = n → SumJ ks x y m₀ i m nx → KrsRest prog w A E h₀ env x body Q s I 0 2 n k i m nx := by
    intro I k
    induction k with
    | zero =>
      rintro i m _ hi ⟨rfl, v, u, hv, hz, e, e0⟩
      refine KrsRest.zero fun h tk F N => done v u (m x) h tk (by rw [e, show i = n by omega]) e0 ?_ N
      have e2 : (fun z => if z = x then m z else m z) = m := by funext z; split <;> rfl
      exact SumJ.fr hv hz (fun o => o) ▸ e2.symm ▸ F
    | succ k ih =>
      rintro i m _ hi ⟨rfl, v, u, hv, hz, e, e0⟩
      refine KrsRest.succ (v := 2 * (i : Int)) (by omega) fun t h tk F N => ?_
      have F2 := SumJ.fr hv hz (fun _ => some (.int (2 * (i : Int)) t))
      refine wpAny_mono (turn I _ i v t u h tk (by omega) e e0 (F2 ▸ F) N) (fun f s₂ p => ?_) fun _ _ q => q
      have fin : ∀ it, UnrEnd h₀ env.locals { s with heap := h, toks := tk } I it (SumJ ks x y m₀ (i + 1)) s₂ → UnrEnd h₀ env.locals { s with heap := h, toks := tk } I it (KrsRest prog w A E h₀ env x body Q s I 0 2 n k (i + 1)) s₂ := by
        rintro it ⟨h', tk', m', nx', e', F', N', off, j⟩
        exact ⟨h', tk', m', nx', e', F', N', off, ih (i + 1) m' nx' (by omega) j⟩
      cases f with
      | ret v => exact p
      | brk => exact p
      | next => exact fin _ p
      | cont => exact fin _ p
  exact krs_iter hh hr hs hn F N fun I _ => go I n 0 m₀ [] (by omega) ⟨rfl, 0, t₁, h0, fun _ _ _ => rfl, rfl, Int.le_refl 0⟩
end
theorem small_two {H : Nat} (h : H ≤ 5) : Builtin.Range.small 0 (2 * (H : Int)) 2 = true := by
  have : ∀ H : Fin 6, Builtin.Range.small 0 (2 * (H.val : Int)) 2 = true := by decide +kernel
  exact this ⟨H, by omega⟩
theorem size_two {H : Nat} (h : H ≤ 5) : Builtin.Range.rangeSize 0 (2 * (H : Int)) 2 = (H : Int) := by
  have : ∀ H : Fin 6, Builtin.Range.rangeSize 0 (2 * (H.val : Int)) 2 = (H.val : Int) := by decide +kernel
  exact this ⟨H, by omega⟩
section
variable {prog : Program} {w : World} {A : Around} {E : Value → Shared → Prop} {s : Shared}
theorem mod_par {H r : Nat} {t u : Tok} {Q : Value → Shared → Prop} (hr : r ≤ 1) (h : ∀ t' k, Q (.int (r : Int) t') { s with toks := k }) :
    wpAny (model prog w) A (binaryOp .Mod (.int ((2 * H + r : Nat) : Int) t) (.int 2 u)) Q E s := by
  refine mod_int (by decide) ?_
  rw [Int.fmod_eq_emod_of_nonneg _ (by decide), show ((2 * H + r : Nat) : Int) % 2 = r by omega]
  exact h _ _
theorem sub_par {H r : Nat} {t u : Tok} {Q : Value → Shared → Prop} (h : ∀ t' k, Q (.int (2 * (H : Int)) t') { s with toks := k }) :
    wpAny (model prog w) A (binaryOp .Sub (.int ((2 * H + r : Nat) : Int) t) (.int (r : Int) u)) Q E s := by
  refine sub_int ?_
  rw [show ((2 * H + r : Nat) : Int) - r = 2 * H by omega]
  exact h _ _
theorem item_at {b : Array UInt8} {ks : List Int} {n : Nat} {t : Tok} {i : Int} {value slice : PySem.Expr} {ui : Tok} {Q : Value → Shared → Prop}
    (hs : subscripted slice false (.bytes b t) (.int i ui) = operate [.bytes b t, .int i ui] (getItem (.bytes b t) (.int i ui)))
    (ht : ∀ r, letTemporaryGo value (.bytes b t) r = pure ()) (hk : KBw.bInts b = ks) (en : ks.length = n) (hfit : n ≤ 1099511627776) (h0 : 0 ≤ i) (h1 : i < (n : Int))
    (h : ∀ t' k v, ks.getD i.toNat 0 = v → 0 ≤ v → v < 256 → Q (.int v t') { s with toks := k }) : wpAny (model prog w) A (subscriptTail value slice (.bytes b t) (.int i ui)) Q E s :=
  KBw.item_K hk (by omega) h0 (by omega) (fun t' k a b => h t' k _ rfl a b) hs ht
end
set_option maxHeartbeats 8000000 in
theorem ck_ct (w : World) (p : Program) (loose : List Str) (mean : ExcName → Option Value) (mg mb : Str → Option Value) (b : Array UInt8) (t : Tok) (ks : List Int) (H r : Nat) (hb : KBw.bInts b = ks) (hn : ks.length = 2 * H + r) (hH : H ≤ 5) (hr : r ≤ 1) :
    CtP w p loose mean mg mb 3 104 [.bytes b t] (CkOut ks) := by
  k_with_none
  k_with "eval Constant int" => ((with_reducible refine const_fr ?_); intro _ _)
  k_with "binaryOp Add int int" => ((with_reducible refine add_fr ?_); intro _ _)
  k_with "inplaceOp Add int int" => ((with_reducible refine iadd_fr ?_); intro _ _)
  k_with "binaryOp Sub int int" => ((with_reducible refine sub_fr ?_); intro _ _)
  k_with "LeaveP" => ((refine leaveP_ (by k_asm) ?_; intro kF kN; (try dsimp only)))
  k_with "spliced" => (dsimp only)
  k_with "subscriptTail" => ((k_here; (with_reducible show wpAny _ _ (subscriptTail _ _ (Value.bytes _ _) (Value.int _ _)) _ _ _); (refine item_lit (by kba_ints) (by exact of_decide_eq_true rfl) (by exact of_decide_eq_true rfl) (by exact of_decide_eq_true rfl) (by (simp only [Int.reduceAdd, Int.reduceMul, Int.reduceSub, Int.reduceFMod, Int.cast_ofNat_Int, Int.reduceToNat, List.cons_append, List.nil_append, List.getD_cons_zero, List.getD_cons_succ]; try exact rfl)) (by with_unfolding_all rfl) (by intro _; with_unfolding_all rfl) ?_); intro _ _ kbaLo kbaHi))
  k_with "binaryOp LShift int int" => (((with_reducible show wpAny _ _ (binaryOp _ _ (Value.int 8 _)) _ _ _); k_dflt ((refine' shl8 ?k1 ?k2 ?_); (case k1 => omega); (case k2 => omega); k_whole; intro _ _ v9 hv9)))
  k_with "binaryOp BitOr int int" => ((k_dflt ((refine' or8 ?k1 ?k2 ?k3 ?k4 ?_); (case k1 => assumption); (case k2 => omega); (case k3 => omega); (case k4 => omega); k_whole; intro _ _ v9 hv9)))
  k_with "binaryOp BitAnd int int" => (((with_reducible show wpAny _ _ (binaryOp _ _ (Value.int 255 _)) _ _ _); k_dflt ((refine' and8 ?_); k_whole; intro _ _ v9 q9 hv9 hv0 hv1)))
  k_with "binaryOp BitAnd int int" => (((with_reducible show wpAny _ _ (binaryOp _ _ (Value.int 65535 _)) _ _ _); k_dflt ((refine' and16 ?_); k_whole; intro _ _ v9 q9 hv9 hv0 hv1)))
  k_with "binaryOp RShift int int" => (((with_reducible show wpAny _ _ (binaryOp _ _ (Value.int 8 _)) _ _ _); k_dflt ((refine' shr8 ?_); k_whole; intro _ _ q9 v9 hv9 hv0 hv1)))
  k_with "binaryOp RShift int int" => (((with_reducible show wpAny _ _ (binaryOp _ _ (Value.int 16 _)) _ _ _); k_dflt ((refine' shr16 ?_); k_whole; intro _ _ q9 v9 hv9 hv0 hv1)))
  k_with "subscriptTail" => ((k_here; (with_reducible show wpAny _ _ (subscriptTail _ _ (Value.bytes _ _) (Value.int _ _)) _ _ _); (refine item_lit (by kba_ints) (by exact of_decide_eq_true rfl) (by exact of_decide_eq_true rfl) (by exact of_decide_eq_true rfl) (by (simp only [Int.reduceAdd, Int.reduceMul, Int.reduceSub, Int.reduceFMod, Int.cast_ofNat_Int, Int.reduceToNat, List.cons_append, List.nil_append, List.getD_cons_zero, List.getD_cons_succ]; try exact rfl)) (by with_unfolding_all rfl) (by intro _; with_unfolding_all rfl) ?_); intro _ _ kbaLo kbaHi))
  k_with "call builtin:len" => ((k_here; (with_reducible show wpAny _ _ (call (Value.builtin "len") [Value.bytes _ _]) _ _ _); (refine len_lit (by kba_ints) (by (simp only [List.cons_append, List.nil_append, List.length_cons, List.length_nil, Nat.reduceAdd]; try exact rfl)) (by exact of_decide_eq_true rfl) ?_); intro _ _))
  k_with "call type:range" => ((simp only [List.length_cons, List.length_nil, Nat.reduceAdd, Int.cast_ofNat_Int, Int.reduceFMod, Int.reduceSub, Int.reduceFDiv]; walk_at "call type:range"))
  k_with "call ref" => ((
  (with_reducible show wpAny _ _ (call (Value.ref 88) [Value.int _ _]) _ _ _);
  k_dflt (refine' fold_use ?k1 ?k2 ?k3 ?k4 ?k5 ?kK ?kx ?kd ?ku ?_);
  (case k1 => k_dflt (k_asm)); (case k2 => k_dflt (k_asm)); (case k3 => k_dflt (k_asm)); (case k4 => k_dflt (k_asm)); (case k5 => k_dflt (k_asm)); (case kK => k_dflt (exact rfl)); (case kx => k_dflt (omega)); (case kd => k_dflt (ktr_room)); (case ku => k_dflt (ktr_units));
  k_whole; intro c9 t9 h9 tk9 hf9 hc9 F9 N9; (try k_sweep); (try dsimp only); (try k_fold)))
  k_with "call type:bytes" => ((k_here; (with_reducible show wpAny _ _ (call (Value.type "bytes") [Value.ref _]) _ _ _); k_dflt (refine' make_own ?kbaF ?kbaN ?kbah ?kbal ?kbai ?kbar ?kban ?_; (case kbaF => k_asm); (case kbaN => k_asm); (case kbah => rfl); (case kbal => kba_isList); (case kbai => kba_listInts); (case kbar => (intro k9z hk9; simp only [List.mem_cons, List.not_mem_nil, or_false] at hk9; omega)); (case kban => first | exact of_decide_eq_true rfl | kba_size)); intro _ _ _ b9 hb9 F' N'; (try k_sweep)))
  k_with "call builtin:len" => ((k_here; (with_reducible show wpAny _ _ (call (Value.builtin "len") [Value.bytes _ _]) _ _ _); (refine len_lit hb hn (by omega) ?_); intro _ _))
  k_with "binaryOp Mod int int" => (((with_reducible refine mod_par hr ?_); intro _ _))
  k_with "binaryOp Sub int int" => (((with_reducible refine sub_par ?_); intro _ _))
  k_with "subscriptTail" => ((k_here; (with_reducible show wpAny _ _ (subscriptTail _ _ (Value.bytes _ _) (Value.int _ _)) _ _ _); (refine item_at (by with_unfolding_all rfl) (by intro _; with_unfolding_all rfl) hb hn (by omega) (by omega) (by omega) ?_); intro _ _ v9 hv9 kbaLo kbaHi))
  k_with "exec For Name Call cons nil" => (kpr_for)
  k_with "pyIter ref" => (((with_reducible show wpAny _ _ (pyIter (Value.ref _)) (fun it s₂ => LoopAtV _ _ _ _ _ _ _ _ _ it s₂) _ _); k_dflt ((rename Fr _ _ _ _ => lF'); (rename News _ _ _ _ => lN'); (rename IsRange _ _ _ _ _ _ _ _ => rgX); (with_unfolding_all refine' sum_loop (ks := ks) (y := Str.ofString "total") (by rfl) rgX (small_two hH) (size_two hH) lF' lN' ?kz0 (fun I9 it9 i9 v9 t9 u9 h9 tk9 hi9 he9 hz9 F9 N9 => ?_) (fun v9 u9 xv9 h9 tk9 he9 hz9 F9 N9 => ?_)); (case kz0 => first | exact rfl | with_unfolding_all exact rfl); (all_goals (clear lF' lN')); (all_goals (try dsimp only)); (all_goals (try k_fold)))))
  k_with "UnrEnd" => (k_dflt ((rename Fr _ _ _ _ => lF'); (rename News _ _ _ _ => lN'); (refine' sum_end lF' lN' ?kz0 ?kz1 (sum_turn (by assumption) (by assumption) (by assumption) (by assumption) (by assumption)) ?kz2); (case kz0 => first | exact rfl | with_unfolding_all exact rfl); (case kz1 => (intro z h1 h2; first | rfl | simp only [h1, h2, if_false])); (case kz2 => omega)))
  unfold CtP P0
  k_fill
  intro dp un gd cn cs a ccd cl outer A₀ base h₀ L m news s Q E B F X N T hk hd hu hret
  refine wpAny_call ?_
  k_dflt ((refine' code_def0 ?k1 ?k2 ?k3 ?k4 ?k5 ?kA ?kF ?kK ?k6 ?k7 ?k8 ?k9 ?kB ?_ ?c2 ?c3 ?c4 ?c5; (case kA => exact rfl); (case kF => exact rfl); (case kK => assumption); (case k1 => k_asm); (case k2 => k_asm); (case k3 => k_asm); (case k4 => k_asm); (case k5 => k_asm); (case k6 => k_is); (case k7 => k_is); (case k8 => ktr_room); (case k9 => first | exact BindsTo.of_eq rfl | exact binds_K (by k_in) rfl (by k_is) rfl rfl rfl); (case c5 => decide); (case kB => exact locs rfl); (case c2 => exact rfl); (case c3 => exact rfl); (case c4 => exact rfl); k_whole; intro g' L' h' hg' F' N' B' X' T'; clear hg'; (try dsimp only); (try k_fold)))
  k_steps
  all_goals (rename Fr h₀ L _ m => kF; rename News h₀ L _ news => kN)
  all_goals exact hret _ _ _ ⟨_, _, rfl, fold_at (by assumption) (by first | exact sum_fin1 (by assumption) hn hr (by assumption) (by assumption) (by assumption) | exact sum_fin0 (by assumption) hn (by assumption)), by assumption⟩ kF kN

section
variable {w : World} {p : Program} {loose : List Str} {mean : ExcName → Option Value} {mg mb : Str → Option Value}
  {dp un : Nat} {gd : Option (List Code)} {cn : Str} {cs : Scope} {a : Addr} {ccd : Value} {cl : List (Str × Addr)} {outer : List Env} {A₀ : Around} {base h₀ : Heap} {L : Addr} {m : Str → Option Value} {s : Shared} {Q E : Value → Shared → Prop} {news : List (Addr × Obj)}
theorem ck_use {b : Array UInt8} {ks : List Int} {t : Tok} (B : Below A₀ base outer h₀) (F : Fr h₀ L s.heap m) (X : (K9 w.params).In h₀) (N : News h₀ L s.heap news)
    (T : Top p loose mean mg mb h₀) (hk : cs.kind = .function) (hb : KBw.bInts b = ks) (hk1 : ks.length ≤ 11) (hd : dp + 3 < recursionLimit) (hu : un + 8 * 3 < cLine)
    (ret : ∀ c t' h' tk', FoldIn (wsum ks) c → c ≤ 65535 → Fr h₀ L h' m → News h₀ L h' news → Q (.int (65535 - c) t') { s with heap := h', toks := tk' }) :
    wpAny (model P0 w) (ktrTop dp un gd cn cs L a ccd cl outer) (call (.ref 104) [.bytes b t]) Q E s := by
  refine ck_ct w p loose mean mg mb b t ks (ks.length / 2) (ks.length % 2) hb (by omega) (by omega) (by omega) _ _ _ _ _ _ _ _ _ _ _ _ _ _ _ _ _ _ B F X N T hk hd hu ?_
  rintro _ h' tk' ⟨c, t', rfl, h1, h2⟩ F' N'
  exact ret c t' h' tk' h1 h2 F' N'
end

-- Words
open PySem.Calls
theorem mem_hd {a b : Addr} {o o' : Obj} {r : List (Addr × Obj)} (h : a = b) (h2 : o = o') : (a, o) ∈ (b, o') :: r := by rw [h, h2]; exact List.mem_cons_self
local macro_rules | `(tactic| ktr_rel) => `(tactic| first | exact mem_hd (by rfl) (by rfl) | assumption | exact List.mem_append_left _ (by assumption) | (refine List.mem_cons_of_mem _ ?_; ktr_rel) | (refine List.mem_append_right _ ?_; ktr_rel))
local macro_rules | `(tactic| kst_in) => `(tactic| ((try dsimp only); (simp only [List.forall_mem_cons]); (repeat' (with_reducible apply And.intro)); (all_goals first | (intro p9 h9; with_reducible ktr_rel) | with_reducible ktr_rel)))
/-- what the loop of _law_words keeps -/
structure WIn (ks : List Int) (j : Nat) (t : Int) : Prop where
  lo : 0 ≤ t
  hi : t ≤ 65535
  eq : ∃ q, wupto ks j = t + 65535 * q
  pos : 0 < wupto ks j → 0 < t
  nn : 0 ≤ wupto ks j
theorem WIn.start (ks : List Int) : WIn ks ([] : List Int).length 0 := ⟨by decide, by decide, ⟨0, rfl⟩, id, Int.le_refl 0⟩
theorem WIn.turn {ks pre : List Int} {t k u v : Int} (J : WIn ks pre.length t) (hk : k = (pre.length : Int)) (eu : ks.getD (2 * k).toNat 0 = u) (ev : ks.getD (2 * k + 1).toNat 0 = v) (u0 : 0 ≤ u) (u1 : u < 256) (v0 : 0 ≤ v) (v1 : v < 256) :
    (t + u * 256 + v > 65535 → WIn ks (pre ++ [k]).length (t + u * 256 + v - 65535)) ∧ (¬ t + u * 256 + v > 65535 → WIn ks (pre ++ [k]).length (t + u * 256 + v)) := by
  have e : wupto ks (pre ++ [k]).length = wupto ks pre.length + u * 256 + v := by
    have e2 : (pre ++ [k]).length = pre.length + 1 := by simp
    rw [e2]
    show wupto ks pre.length + ks.getD (2 * pre.length) 0 * 256 + ks.getD (2 * pre.length + 1) 0 = _
    rw [show 2 * pre.length = (2 * k).toNat by omega, show (2 * k).toNat + 1 = (2 * k + 1).toNat by omega, eu, ev]
  obtain ⟨h1, h2, ⟨q, hq⟩, h3, h4⟩ := J
  constructor
  · intro h
    exact ⟨by omega, by omega, ⟨q + 1, by omega⟩, fun _ => by omega, by omega⟩
  · intro h
    exact ⟨by omega, by omega, ⟨q, by omega⟩, fun _ => by omega, by omega⟩
/-- what _law_words tells of the octets ks -/
structure WFact (ks : List Int) (c : Int) : Prop where
  lo : 0 ≤ c
  hi : c ≤ 65535
  eq : ∃ q, wsum ks = c + 65535 * q
  pos : 0 < wsum ks → 0 < c
def WOut (ks : List Int) (r : Value) : Prop := ∃ c t, r = .int c t ∧ WFact ks c
/-- what pads an odd count of octets -/
structure Pad (ks zs : List Int) (H : Nat) : Prop where
  len : (ks ++ zs).length = 2 * H
  zs : zs = [] ∨ zs = [0]
theorem pad_sum : ∀ (ks zs : List Int) (H : Nat), Pad ks zs H → wupto (ks ++ zs) H = wsum ks
  | [], _, H, ⟨l, .inl rfl⟩ => by
    have e : H = 0 := by simp at l; omega
    rw [e]; rfl
  | [], _, H, ⟨l, .inr rfl⟩ => by simp at l; omega
  | [_], _, H, ⟨l, .inl rfl⟩ => by simp at l; omega
  | [a], _, H, ⟨l, .inr rfl⟩ => by
    have e : H = 1 := by simp at l; omega
    rw [e]
    show 0 + a * 256 + 0 = a * 256
    omega
  | a :: b :: r, zs, 0, ⟨l, _⟩ => by simp at l
  | a :: b :: r, zs, H + 1, ⟨l, z⟩ => by
    rw [List.cons_append, List.cons_append, wupto_cons, pad_sum r zs H ⟨by simp only [List.cons_append, List.length_cons] at l; omega, z⟩]
    rfl
theorem WIn.out {ks zs : List Int} {H : Nat} {t : Int} (J : WIn (ks ++ zs) (rangeKs 0 ((H : Int) - 0).toNat).length t) (P : Pad ks zs H) : WFact ks t := by
  rw [rangeKs_length, show ((H : Int) - 0).toNat = H by omega] at J
  have e := pad_sum _ _ _ P
  exact ⟨J.lo, J.hi, e ▸ J.eq, e ▸ J.pos⟩
section
variable {prog : Program} {w : World} {A : Around} {E : Value → Shared → Prop} {s : Shared}
theorem bytes_pad {n : Nat} {ks : List Int} {t : Tok} {Q : Value → Shared → Prop} (hn : ks.length = n) (h1 : n ≤ 11)
    (hQ : ∀ b t k zs H, KBw.bInts b = zs → Pad ks zs H → H ≤ 6 → zs.length ≤ 1 → Q (.bytes b t) { s with toks := k }) : wpAny (model prog w) A (call (.type "bytes") [.int ((n : Int).fmod 2) t]) Q E s := by
  have e : (n : Int).fmod 2 = (n : Int) % 2 := Int.fmod_eq_emod_of_nonneg _ (by decide)
  by_cases h : n % 2 = 0
  · rw [show (n : Int).fmod 2 = 0 by omega]
    exact bytes_0 fun b t k hb => hQ b t k [] (n / 2) hb ⟨by rw [List.append_nil]; omega, .inl rfl⟩ (by omega) (by decide)
  · rw [show (n : Int).fmod 2 = 1 by omega]
    exact bytes_1 fun b t k hb => hQ b t k [0] ((n + 1) / 2) hb ⟨by rw [List.length_append, hn]; show n + 1 = _; omega, .inr rfl⟩ (by omega) (by decide)
theorem len_pad {b : Array UInt8} {ks zs : List Int} {H : Nat} {t : Tok} {Q : Value → Shared → Prop} (hk : KBw.bInts b = ks ++ zs) (P : Pad ks zs H) (hH : H ≤ 6) (h : ∀ t' k, Q (.int (2 * (H : Int)) t') { s with toks := k }) :
    wpAny (model prog w) A (call (.builtin "len") [.bytes b t]) Q E s := by
  have l := P.len
  refine KBw.len_K hk (by omega) ?_
  rw [l]
  exact h _ _
theorem half_pad {H : Nat} {t u : Tok} {Q : Value → Shared → Prop} (h : ∀ t' k, Q (.int (H : Int) t') { s with toks := k }) :
    wpAny (model prog w) A (binaryOp .FloorDiv (.int (2 * (H : Int)) t) (.int 2 u)) Q E s := by
  refine floordiv_int (by decide) ?_ (Or.inl (PyProof.noPylong_small (by decide)))
  rw [Int.fdiv_eq_ediv_of_nonneg _ (by decide), show 2 * (H : Int) / 2 = H by omega]
  exact h _ _
theorem item_pad {b : Array UInt8} {ks zs : List Int} {H : Nat} {t : Tok} {i : Int} {value slice : PySem.Expr} {ui : Tok} {Q : Value → Shared → Prop}
    (hs : subscripted slice false (.bytes b t) (.int i ui) = operate [.bytes b t, .int i ui] (getItem (.bytes b t) (.int i ui)))
    (ht : ∀ r, letTemporaryGo value (.bytes b t) r = pure ()) (hk : KBw.bInts b = ks ++ zs) (P : Pad ks zs H) (hH : H ≤ 6) (h0 : 0 ≤ i) (h1 : i < 2 * (H : Int))
    (h : ∀ t' k v, (ks ++ zs).getD i.toNat 0 = v → 0 ≤ v → v < 256 → Q (.int v t') { s with toks := k }) : wpAny (model prog w) A (subscriptTail value slice (.bytes b t) (.int i ui)) Q E s :=
  KBw.item_K hk (by have l := P.len; omega) h0 (by have l := P.len; omega) (fun t' k a b => h t' k _ rfl a b) hs ht
end
set_option maxHeartbeats 8000000 in
theorem w_ct (w : World) (p : Program) (loose : List Str) (mean : ExcName → Option Value) (mg mb : Str → Option Value) (b : Array UInt8) (t : Tok) (ks : List Int) (n : Nat) (hb : KBw.bInts b = ks) (hn : ks.length = n) (hn1 : n ≤ 11) :
    CtP w p loose mean mg mb 1 343 [.bytes b t] (WOut ks) := by
  k_with_none
  k_with "eval Constant int" => ((with_reducible refine const_fr ?_); intro _ _)
  k_with "binaryOp Add int int" => ((with_reducible refine add_fr ?_); intro _ _)
  k_with "inplaceOp Add int int" => ((with_reducible refine iadd_fr ?_); intro _ _)
  k_with "binaryOp Sub int int" => ((with_reducible refine sub_fr ?_); intro _ _)
  k_with "LeaveP" => ((refine leaveP_ (by k_asm) ?_; intro kF kN; (try dsimp only)))
  k_with "spliced" => (dsimp only)
  k_with "subscriptTail" => ((k_here; (with_reducible show wpAny _ _ (subscriptTail _ _ (Value.bytes _ _) (Value.int _ _)) _ _ _); (refine item_lit (by kba_ints) (by exact of_decide_eq_true rfl) (by exact of_decide_eq_true rfl) (by exact of_decide_eq_true rfl) (by (simp only [Int.reduceAdd, Int.reduceMul, Int.reduceSub, Int.reduceFMod, Int.cast_ofNat_Int, Int.reduceToNat, List.cons_append, List.nil_append, List.getD_cons_zero, List.getD_cons_succ]; try exact rfl)) (by with_unfolding_all rfl) (by intro _; with_unfolding_all rfl) ?_); intro _ _ kbaLo kbaHi))
  k_with "binaryOp LShift int int" => (((with_reducible show wpAny _ _ (binaryOp _ _ (Value.int 8 _)) _ _ _); k_dflt ((refine' shl8 ?k1 ?k2 ?_); (case k1 => omega); (case k2 => omega); k_whole; intro _ _ v9 hv9)))
  k_with "binaryOp BitOr int int" => ((k_dflt ((refine' or8 ?k1 ?k2 ?k3 ?k4 ?_); (case k1 => assumption); (case k2 => omega); (case k3 => omega); (case k4 => omega); k_whole; intro _ _ v9 hv9)))
  k_with "binaryOp BitAnd int int" => (((with_reducible show wpAny _ _ (binaryOp _ _ (Value.int 255 _)) _ _ _); k_dflt ((refine' and8 ?_); k_whole; intro _ _ v9 q9 hv9 hv0 hv1)))
  k_with "binaryOp BitAnd int int" => (((with_reducible show wpAny _ _ (binaryOp _ _ (Value.int 65535 _)) _ _ _); k_dflt ((refine' and16 ?_); k_whole; intro _ _ v9 q9 hv9 hv0 hv1)))
  k_with "binaryOp RShift int int" => (((with_reducible show wpAny _ _ (binaryOp _ _ (Value.int 8 _)) _ _ _); k_dflt ((refine' shr8 ?_); k_whole; intro _ _ q9 v9 hv9 hv0 hv1)))
  k_with "binaryOp RShift int int" => (((with_reducible show wpAny _ _ (binaryOp _ _ (Value.int 16 _)) _ _ _); k_dflt ((refine' shr16 ?_); k_whole; intro _ _ q9 v9 hv9 hv0 hv1)))
  k_with "subscriptTail" => ((k_here; (with_reducible show wpAny _ _ (subscriptTail _ _ (Value.bytes _ _) (Value.int _ _)) _ _ _); (refine item_lit (by kba_ints) (by exact of_decide_eq_true rfl) (by exact of_decide_eq_true rfl) (by exact of_decide_eq_true rfl) (by (simp only [Int.reduceAdd, Int.reduceMul, Int.reduceSub, Int.reduceFMod, Int.cast_ofNat_Int, Int.reduceToNat, List.cons_append, List.nil_append, List.getD_cons_zero, List.getD_cons_succ]; try exact rfl)) (by with_unfolding_all rfl) (by intro _; with_unfolding_all rfl) ?_); intro _ _ kbaLo kbaHi))
  k_with "call builtin:len" => ((k_here; (with_reducible show wpAny _ _ (call (Value.builtin "len") [Value.bytes _ _]) _ _ _); (refine len_lit (by kba_ints) (by (simp only [List.cons_append, List.nil_append, List.length_cons, List.length_nil, Nat.reduceAdd]; try exact rfl)) (by exact of_decide_eq_true rfl) ?_); intro _ _))
  k_with "call type:range" => ((simp only [List.length_cons, List.length_nil, Nat.reduceAdd, Int.cast_ofNat_Int, Int.reduceFMod, Int.reduceSub, Int.reduceFDiv]; walk_at "call type:range"))
  k_with "call ref" => ((
  (with_reducible show wpAny _ _ (call (Value.ref 88) [Value.int _ _]) _ _ _);
  k_dflt (refine' fold_use ?k1 ?k2 ?k3 ?k4 ?k5 ?kK ?kx ?kd ?ku ?_);
  (case k1 => k_dflt (k_asm)); (case k2 => k_dflt (k_asm)); (case k3 => k_dflt (k_asm)); (case k4 => k_dflt (k_asm)); (case k5 => k_dflt (k_asm)); (case kK => k_dflt (exact rfl)); (case kx => k_dflt (omega)); (case kd => k_dflt (ktr_room)); (case ku => k_dflt (ktr_units));
  k_whole; intro c9 t9 h9 tk9 hf9 hc9 F9 N9; (try k_sweep); (try dsimp only); (try k_fold)))
  k_with "InvEndN" => (k_dflt kst_close)
  k_with "call type:bytes" => ((k_here; (with_reducible show wpAny _ _ (call (Value.type "bytes") [Value.ref _]) _ _ _); k_dflt (refine' make_own ?kbaF ?kbaN ?kbah ?kbal ?kbai ?kbar ?kban ?_; (case kbaF => k_asm); (case kbaN => k_asm); (case kbah => rfl); (case kbal => kba_isList); (case kbai => kba_listInts); (case kbar => (intro k9z hk9; simp only [List.mem_cons, List.not_mem_nil, or_false] at hk9; omega)); (case kban => first | exact of_decide_eq_true rfl | kba_size)); intro _ _ _ b9 hb9 F' N'; (try k_sweep)))
  k_with "call builtin:len" => ((k_here; (with_reducible show wpAny _ _ (call (Value.builtin "len") [Value.bytes _ _]) _ _ _); first | ((refine len_pad (by kba_ints) (by assumption) (by assumption) ?_); intro _ _) | ((refine len_lit (by kba_ints) (by assumption) (by omega) ?_); intro _ _)))
  k_with "subscriptTail" => ((k_here; (with_reducible show wpAny _ _ (subscriptTail _ _ (Value.bytes _ _) (Value.int _ _)) _ _ _); (refine item_pad (by with_unfolding_all rfl) (by intro _; with_unfolding_all rfl) (by kba_ints) (by assumption) (by assumption) (by omega) (by omega) ?_); intro _ _ v9 hv9 kbaLo kbaHi))
  k_with "call type:bytes" => (((with_reducible show wpAny _ _ (call (Value.type "bytes") [Value.int _ _]) _ _ _); (with_reducible refine bytes_pad (by assumption) (by assumption) ?_); intro b9 t9 k9z zs9 H9 hb9 hP9 hH9 hz9))
  k_with "binaryOp FloorDiv int int" => (((with_reducible refine half_pad ?_); intro _ _))
  k_with "exec For Name Call cons nil" => (kpr_for)
  unfold CtP P0
  k_fill
  intro dp un gd cn cs a ccd cl outer A₀ base h₀ L m news s Q E B F X N T hk hd hu hret
  refine wpAny_call ?_
  k_dflt ((refine' code_def0 ?k1 ?k2 ?k3 ?k4 ?k5 ?kA ?kF ?kK ?k6 ?k7 ?k8 ?k9 ?kB ?_ ?c2 ?c3 ?c4 ?c5; (case kA => exact rfl); (case kF => exact rfl); (case kK => assumption); (case k1 => k_asm); (case k2 => k_asm); (case k3 => k_asm); (case k4 => k_asm); (case k5 => k_asm); (case k6 => k_is); (case k7 => k_is); (case k8 => ktr_room); (case k9 => first | exact BindsTo.of_eq rfl | exact binds_K (by k_in) rfl (by k_is) rfl rfl rfl); (case c5 => decide); (case kB => exact locs rfl); (case c2 => exact rfl); (case c3 => exact rfl); (case c4 => exact rfl); k_whole; intro g' L' h' hg' F' N' B' X' T'; clear hg'; (try dsimp only); (try k_fold)))
  k_with "state" => first | with_reducible exact (WIn.turn kInv (kEq.trans (Int.zero_add _)) (by assumption) (by assumption) (by assumption) (by assumption) (by assumption) (by assumption)).1 (by assumption) | with_reducible exact (WIn.turn kInv (kEq.trans (Int.zero_add _)) (by assumption) (by assumption) (by assumption) (by assumption) (by assumption) (by assumption)).2 (by assumption) | with_reducible exact WIn.start _
  k_with "pyIter ref" => k_state_short (fun pre total => WIn (ks ++ zs9) pre.length total) "total"
  k_steps
  rename Fr h₀ L _ m => kF
  rename News h₀ L _ news => kN
  rename WIn _ _ _ => kJ
  exact hret _ _ _ ⟨_, _, rfl, kJ.out (by assumption)⟩ kF kN

section
variable {w : World} {p : Program} {loose : List Str} {mean : ExcName → Option Value} {mg mb : Str → Option Value}
  {dp un : Nat} {gd : Option (List Code)} {cn : Str} {cs : Scope} {a : Addr} {ccd : Value} {cl : List (Str × Addr)} {outer : List Env} {A₀ : Around} {base h₀ : Heap} {L : Addr} {m : Str → Option Value} {s : Shared} {Q E : Value → Shared → Prop} {news : List (Addr × Obj)}
theorem w_use {b : Array UInt8} {ks : List Int} {t : Tok} (B : Below A₀ base outer h₀) (F : Fr h₀ L s.heap m) (X : (K9 w.params).In h₀) (N : News h₀ L s.heap news)
    (T : Top p loose mean mg mb h₀) (hk : cs.kind = .function) (hb : KBw.bInts b = ks) (hk1 : ks.length ≤ 11) (hd : dp + 1 < recursionLimit) (hu : un + 8 * 1 < cLine)
    (ret : ∀ c t' h' tk', WFact ks c → Fr h₀ L h' m → News h₀ L h' news → Q (.int c t') { s with heap := h', toks := tk' }) :
    wpAny (model P0 w) (ktrTop dp un gd cn cs L a ccd cl outer) (call (.ref 343) [.bytes b t]) Q E s := by
  refine w_ct w p loose mean mg mb b t ks _ hb rfl hk1 _ _ _ _ _ _ _ _ _ _ _ _ _ _ _ _ _ _ B F X N T hk hd hu ?_
  rintro _ h' tk' ⟨c, t', rfl, h1⟩ F' N'
  exact ret c t' h' tk' h1 F' N'
end

-- Put
open PySem.Calls
/-- two octets of a number -/
def PutOut (n : Int) (r : Value) : Prop := ∃ b t v1 v2, r = .bytes b t ∧ KBw.bInts b = [v1, v2] ∧ 0 ≤ v1 ∧ v1 < 256 ∧ 0 ≤ v2 ∧ v2 < 256 ∧ ∃ q, n = q * 65536 + v1 * 256 + v2
theorem put_end {n q1 v0 q2 v1 q3 v2 : Int} (e2 : q1 = q2 * 256 + v1) (e1 : n = q1 * 256 + v0) (h1 : 0 ≤ v0) (h2 : v0 < 256) (e3 : n = q3 * 256 + v2) (h3 : 0 ≤ v2) (h4 : v2 < 256) : ∃ q, n = q * 65536 + v1 * 256 + v2 := ⟨q2, by omega⟩
set_option maxHeartbeats 8000000 in
theorem put16_ct (w : World) (p : Program) (loose : List Str) (mean : ExcName → Option Value) (mg mb : Str → Option Value) (x : Int) (t : Tok) :
    CtP w p loose mean mg mb 1 60 [.int x t] (PutOut x) := by
  k_with_none
  k_with "eval Constant int" => ((with_reducible refine const_fr ?_); intro _ _)
  k_with "binaryOp Add int int" => ((with_reducible refine add_fr ?_); intro _ _)
  k_with "inplaceOp Add int int" => ((with_reducible refine iadd_fr ?_); intro _ _)
  k_with "binaryOp Sub int int" => ((with_reducible refine sub_fr ?_); intro _ _)
  k_with "LeaveP" => ((refine leaveP_ (by k_asm) ?_; intro kF kN; (try dsimp only)))
  k_with "spliced" => (dsimp only)
  k_with "subscriptTail" => ((k_here; (with_reducible show wpAny _ _ (subscriptTail _ _ (Value.bytes _ _) (Value.int _ _)) _ _ _); (refine item_lit (by kba_ints) (by exact of_decide_eq_true rfl) (by exact of_decide_eq_true rfl) (by exact of_decide_eq_true rfl) (by (simp only [Int.reduceAdd, Int.reduceMul, Int.reduceSub, Int.reduceFMod, Int.cast_ofNat_Int, Int.reduceToNat, List.cons_append, List.nil_append, List.getD_cons_zero, List.getD_cons_succ]; try exact rfl)) (by with_unfolding_all rfl) (by intro _; with_unfolding_all rfl) ?_); intro _ _ kbaLo kbaHi))
  k_with "binaryOp LShift int int" => (((with_reducible show wpAny _ _ (binaryOp _ _ (Value.int 8 _)) _ _ _); k_dflt ((refine' shl8 ?k1 ?k2 ?_); (case k1 => omega); (case k2 => omega); k_whole; intro _ _ v9 hv9)))
  k_with "binaryOp BitOr int int" => ((k_dflt ((refine' or8 ?k1 ?k2 ?k3 ?k4 ?_); (case k1 => assumption); (case k2 => omega); (case k3 => omega); (case k4 => omega); k_whole; intro _ _ v9 hv9)))
  k_with "binaryOp BitAnd int int" => (((with_reducible show wpAny _ _ (binaryOp _ _ (Value.int 255 _)) _ _ _); k_dflt ((refine' and8 ?_); k_whole; intro _ _ v9 q9 hv9 hv0 hv1)))
  k_with "binaryOp BitAnd int int" => (((with_reducible show wpAny _ _ (binaryOp _ _ (Value.int 65535 _)) _ _ _); k_dflt ((refine' and16 ?_); k_whole; intro _ _ v9 q9 hv9 hv0 hv1)))
  k_with "binaryOp RShift int int" => (((with_reducible show wpAny _ _ (binaryOp _ _ (Value.int 8 _)) _ _ _); k_dflt ((refine' shr8 ?_); k_whole; intro _ _ q9 v9 hv9 hv0 hv1)))
  k_with "binaryOp RShift int int" => (((with_reducible show wpAny _ _ (binaryOp _ _ (Value.int 16 _)) _ _ _); k_dflt ((refine' shr16 ?_); k_whole; intro _ _ q9 v9 hv9 hv0 hv1)))
  k_with "subscriptTail" => ((k_here; (with_reducible show wpAny _ _ (subscriptTail _ _ (Value.bytes _ _) (Value.int _ _)) _ _ _); (refine item_lit (by kba_ints) (by exact of_decide_eq_true rfl) (by exact of_decide_eq_true rfl) (by exact of_decide_eq_true rfl) (by (simp only [Int.reduceAdd, Int.reduceMul, Int.reduceSub, Int.reduceFMod, Int.cast_ofNat_Int, Int.reduceToNat, List.cons_append, List.nil_append, List.getD_cons_zero, List.getD_cons_succ]; try exact rfl)) (by with_unfolding_all rfl) (by intro _; with_unfolding_all rfl) ?_); intro _ _ kbaLo kbaHi))
  k_with "call builtin:len" => ((k_here; (with_reducible show wpAny _ _ (call (Value.builtin "len") [Value.bytes _ _]) _ _ _); (refine len_lit (by kba_ints) (by (simp only [List.cons_append, List.nil_append, List.length_cons, List.length_nil, Nat.reduceAdd]; try exact rfl)) (by exact of_decide_eq_true rfl) ?_); intro _ _))
  k_with "call type:range" => ((simp only [List.length_cons, List.length_nil, Nat.reduceAdd, Int.cast_ofNat_Int, Int.reduceFMod, Int.reduceSub, Int.reduceFDiv]; walk_at "call type:range"))
  k_with "call type:bytes" => ((k_here; (with_reducible show wpAny _ _ (call (Value.type "bytes") [Value.ref _]) _ _ _); k_dflt (refine' make_own ?kbaF ?kbaN ?kbah ?kbal ?kbai ?kbar ?kban ?_; (case kbaF => k_asm); (case kbaN => k_asm); (case kbah => rfl); (case kbal => kba_isList); (case kbai => kba_listInts); (case kbar => (intro k9z hk9; simp only [List.mem_cons, List.not_mem_nil, or_false] at hk9; omega)); (case kban => first | exact of_decide_eq_true rfl | kba_size)); intro _ _ _ b9 hb9 F' N'; (try k_sweep)))
  unfold CtP P0
  k_fill
  intro dp un gd cn cs a ccd cl outer A₀ base h₀ L m news s Q E B F X N T hk hd hu hret
  refine wpAny_call ?_
  k_dflt ((refine' code_def0 ?k1 ?k2 ?k3 ?k4 ?k5 ?kA ?kF ?kK ?k6 ?k7 ?k8 ?k9 ?kB ?_ ?c2 ?c3 ?c4 ?c5; (case kA => exact rfl); (case kF => exact rfl); (case kK => assumption); (case k1 => k_asm); (case k2 => k_asm); (case k3 => k_asm); (case k4 => k_asm); (case k5 => k_asm); (case k6 => k_is); (case k7 => k_is); (case k8 => ktr_room); (case k9 => first | exact BindsTo.of_eq rfl | exact binds_K (by k_in) rfl (by k_is) rfl rfl rfl); (case c5 => decide); (case kB => exact locs rfl); (case c2 => exact rfl); (case c3 => exact rfl); (case c4 => exact rfl); k_whole; intro g' L' h' hg' F' N' B' X' T'; clear hg'; (try dsimp only); (try k_fold)))
  k_steps
  rename Fr h₀ L _ m => kF
  rename News h₀ L _ news => kN
  exact hret _ _ _ ⟨_, _, _, _, rfl, by assumption, by assumption, by assumption, by assumption, by assumption, put_end (by assumption) (by assumption) (by assumption) (by assumption) (by assumption) (by assumption) (by assumption)⟩ kF kN

section
variable {w : World} {p : Program} {loose : List Str} {mean : ExcName → Option Value} {mg mb : Str → Option Value}
  {dp un : Nat} {gd : Option (List Code)} {cn : Str} {cs : Scope} {a : Addr} {ccd : Value} {cl : List (Str × Addr)} {outer : List Env} {A₀ : Around} {base h₀ : Heap} {L : Addr} {m : Str → Option Value} {s : Shared} {Q E : Value → Shared → Prop} {news : List (Addr × Obj)}
theorem put16_use {x : Int} {t : Tok} (B : Below A₀ base outer h₀) (F : Fr h₀ L s.heap m) (X : (K9 w.params).In h₀) (N : News h₀ L s.heap news)
    (T : Top p loose mean mg mb h₀) (hk : cs.kind = .function) (hd : dp + 1 < recursionLimit) (hu : un + 8 * 1 < cLine)
    (ret : ∀ b v1 v2 t' h' tk', KBw.bInts b = [v1, v2] → 0 ≤ v1 → v1 < 256 → 0 ≤ v2 → v2 < 256 → (∃ q, x = q * 65536 + v1 * 256 + v2) → Fr h₀ L h' m → News h₀ L h' news → Q (.bytes b t') { s with heap := h', toks := tk' }) :
    wpAny (model P0 w) (ktrTop dp un gd cn cs L a ccd cl outer) (call (.ref 60) [.int x t]) Q E s := by
  refine put16_ct w p loose mean mg mb x t _ _ _ _ _ _ _ _ _ _ _ _ _ _ _ _ _ _ B F X N T hk hd hu ?_
  rintro _ h' tk' ⟨b, t', v1, v2, rfl, h1, h2, h3, h4, h5, h6⟩ F' N'
  exact ret b v1 v2 t' h' tk' h1 h2 h3 h4 h5 h6 F' N'
end
/-- four octets -/
def Put4Out (r : Value) : Prop := ∃ b t v0 v1 v2 v3, r = .bytes b t ∧ KBw.bInts b = [v0, v1] ++ [v2, v3] ∧ (0 ≤ v0 ∧ v0 < 256 ∧ 0 ≤ v1 ∧ v1 < 256) ∧ 0 ≤ v2 ∧ v2 < 256 ∧ 0 ≤ v3 ∧ v3 < 256
theorem put4 {b : Array UInt8} {t : Tok} {v0 v1 v2 v3 : Int} (h : KBw.bInts b = [v0, v1] ++ [v2, v3]) : Put4Out (.bytes b t) := by
  have r : ∀ k ∈ [v0, v1] ++ [v2, v3], 0 ≤ k ∧ k < 256 := fun k hk => KBw.ints_in (h ▸ hk)
  have r0 := r v0 (by simp)
  have r1 := r v1 (by simp)
  have r2 := r v2 (by simp)
  have r3 := r v3 (by simp)
  exact ⟨b, t, v0, v1, v2, v3, rfl, h, ⟨r0.1, r0.2, r1.1, r1.2⟩, r2.1, r2.2, r3.1, r3.2⟩
set_option maxHeartbeats 8000000 in
theorem put32_ct (w : World) (p : Program) (loose : List Str) (mean : ExcName → Option Value) (mg mb : Str → Option Value) (x : Int) (t : Tok) :
    CtP w p loose mean mg mb 2 67 [.int x t] Put4Out := by
  k_with_none
  k_with "eval Constant int" => ((with_reducible refine const_fr ?_); intro _ _)
  k_with "binaryOp Add int int" => ((with_reducible refine add_fr ?_); intro _ _)
  k_with "inplaceOp Add int int" => ((with_reducible refine iadd_fr ?_); intro _ _)
  k_with "binaryOp Sub int int" => ((with_reducible refine sub_fr ?_); intro _ _)
  k_with "LeaveP" => ((refine leaveP_ (by k_asm) ?_; intro kF kN; (try dsimp only)))
  k_with "spliced" => (dsimp only)
  k_with "subscriptTail" => ((k_here; (with_reducible show wpAny _ _ (subscriptTail _ _ (Value.bytes _ _) (Value.int _ _)) _ _ _); (refine item_lit (by kba_ints) (by exact of_decide_eq_true rfl) (by exact of_decide_eq_true rfl) (by exact of_decide_eq_true rfl) (by (simp only [Int.reduceAdd, Int.reduceMul, Int.reduceSub, Int.reduceFMod, Int.cast_ofNat_Int, Int.reduceToNat, List.cons_append, List.nil_append, List.getD_cons_zero, List.getD_cons_succ]; try exact rfl)) (by with_unfolding_all rfl) (by intro _; with_unfolding_all rfl) ?_); intro _ _ kbaLo kbaHi))
  k_with "binaryOp LShift int int" => (((with_reducible show wpAny _ _ (binaryOp _ _ (Value.int 8 _)) _ _ _); k_dflt ((refine' shl8 ?k1 ?k2 ?_); (case k1 => omega); (case k2 => omega); k_whole; intro _ _ v9 hv9)))
  k_with "binaryOp BitOr int int" => ((k_dflt ((refine' or8 ?k1 ?k2 ?k3 ?k4 ?_); (case k1 => assumption); (case k2 => omega); (case k3 => omega); (case k4 => omega); k_whole; intro _ _ v9 hv9)))
  k_with "binaryOp BitAnd int int" => (((with_reducible show wpAny _ _ (binaryOp _ _ (Value.int 255 _)) _ _ _); k_dflt ((refine' and8 ?_); k_whole; intro _ _ v9 q9 hv9 hv0 hv1)))
  k_with "binaryOp BitAnd int int" => (((with_reducible show wpAny _ _ (binaryOp _ _ (Value.int 65535 _)) _ _ _); k_dflt ((refine' and16 ?_); k_whole; intro _ _ v9 q9 hv9 hv0 hv1)))
  k_with "binaryOp RShift int int" => (((with_reducible show wpAny _ _ (binaryOp _ _ (Value.int 8 _)) _ _ _); k_dflt ((refine' shr8 ?_); k_whole; intro _ _ q9 v9 hv9 hv0 hv1)))
  k_with "binaryOp RShift int int" => (((with_reducible show wpAny _ _ (binaryOp _ _ (Value.int 16 _)) _ _ _); k_dflt ((refine' shr16 ?_); k_whole; intro _ _ q9 v9 hv9 hv0 hv1)))
  k_with "subscriptTail" => ((k_here; (with_reducible show wpAny _ _ (subscriptTail _ _ (Value.bytes _ _) (Value.int _ _)) _ _ _); (refine item_lit (by kba_ints) (by exact of_decide_eq_true rfl) (by exact of_decide_eq_true rfl) (by exact of_decide_eq_true rfl) (by (simp only [Int.reduceAdd, Int.reduceMul, Int.reduceSub, Int.reduceFMod, Int.cast_ofNat_Int, Int.reduceToNat, List.cons_append, List.nil_append, List.getD_cons_zero, List.getD_cons_succ]; try exact rfl)) (by with_unfolding_all rfl) (by intro _; with_unfolding_all rfl) ?_); intro _ _ kbaLo kbaHi))
  k_with "call builtin:len" => ((k_here; (with_reducible show wpAny _ _ (call (Value.builtin "len") [Value.bytes _ _]) _ _ _); (refine len_lit (by kba_ints) (by (simp only [List.cons_append, List.nil_append, List.length_cons, List.length_nil, Nat.reduceAdd]; try exact rfl)) (by exact of_decide_eq_true rfl) ?_); intro _ _))
  k_with "call type:range" => ((simp only [List.length_cons, List.length_nil, Nat.reduceAdd, Int.cast_ofNat_Int, Int.reduceFMod, Int.reduceSub, Int.reduceFDiv]; walk_at "call type:range"))
  k_with "call type:bytes" => ((k_here; (with_reducible show wpAny _ _ (call (Value.type "bytes") [Value.ref _]) _ _ _); k_dflt (refine' make_own ?kbaF ?kbaN ?kbah ?kbal ?kbai ?kbar ?kban ?_; (case kbaF => k_asm); (case kbaN => k_asm); (case kbah => rfl); (case kbal => kba_isList); (case kbai => kba_listInts); (case kbar => (intro k9z hk9; simp only [List.mem_cons, List.not_mem_nil, or_false] at hk9; omega)); (case kban => first | exact of_decide_eq_true rfl | kba_size)); intro _ _ _ b9 hb9 F' N'; (try k_sweep)))
  k_with "call ref" => ((
  (with_reducible show wpAny _ _ (call (Value.ref 60) [Value.int _ _]) _ _ _);
  k_dflt (refine' put16_use ?k1 ?k2 ?k3 ?k4 ?k5 ?kK ?kd ?ku ?_);
  (case k1 => k_dflt (k_asm)); (case k2 => k_dflt (k_asm)); (case k3 => k_dflt (k_asm)); (case k4 => k_dflt (k_asm)); (case k5 => k_dflt (k_asm)); (case kK => k_dflt (exact rfl)); (case kd => k_dflt (ktr_room)); (case ku => k_dflt (ktr_units));
  k_whole; intro b9 v91 v92 t9 h9 tk9 hb9 hv90 hv91 hv92 hv93 hv94 F9 N9; (try k_sweep); (try dsimp only); (try k_fold)))
  unfold CtP P0
  k_fill
  intro dp un gd cn cs a ccd cl outer A₀ base h₀ L m news s Q E B F X N T hk hd hu hret
  refine wpAny_call ?_
  k_dflt ((refine' code_def0 ?k1 ?k2 ?k3 ?k4 ?k5 ?kA ?kF ?kK ?k6 ?k7 ?k8 ?k9 ?kB ?_ ?c2 ?c3 ?c4 ?c5; (case kA => exact rfl); (case kF => exact rfl); (case kK => assumption); (case k1 => k_asm); (case k2 => k_asm); (case k3 => k_asm); (case k4 => k_asm); (case k5 => k_asm); (case k6 => k_is); (case k7 => k_is); (case k8 => ktr_room); (case k9 => first | exact BindsTo.of_eq rfl | exact binds_K (by k_in) rfl (by k_is) rfl rfl rfl); (case c5 => decide); (case kB => exact locs rfl); (case c2 => exact rfl); (case c3 => exact rfl); (case c4 => exact rfl); k_whole; intro g' L' h' hg' F' N' B' X' T'; clear hg'; (try dsimp only); (try k_fold)))
  k_steps
  rename Fr h₀ L _ m => kF
  rename News h₀ L _ news => kN
  exact hret _ _ _ (put4 (by assumption)) kF kN

section
variable {w : World} {p : Program} {loose : List Str} {mean : ExcName → Option Value} {mg mb : Str → Option Value}
  {dp un : Nat} {gd : Option (List Code)} {cn : Str} {cs : Scope} {a : Addr} {ccd : Value} {cl : List (Str × Addr)} {outer : List Env} {A₀ : Around} {base h₀ : Heap} {L : Addr} {m : Str → Option Value} {s : Shared} {Q E : Value → Shared → Prop} {news : List (Addr × Obj)}
theorem put32_use {x : Int} {t : Tok} (B : Below A₀ base outer h₀) (F : Fr h₀ L s.heap m) (X : (K9 w.params).In h₀) (N : News h₀ L s.heap news)
    (T : Top p loose mean mg mb h₀) (hk : cs.kind = .function) (hd : dp + 2 < recursionLimit) (hu : un + 8 * 2 < cLine)
    (ret : ∀ b v0 v1 v2 v3 t' h' tk', KBw.bInts b = [v0, v1] ++ [v2, v3] → Fr h₀ L h' m → News h₀ L h' news → Q (.bytes b t') { s with heap := h', toks := tk' }) :
    wpAny (model P0 w) (ktrTop dp un gd cn cs L a ccd cl outer) (call (.ref 67) [.int x t]) Q E s := by
  refine put32_ct w p loose mean mg mb x t _ _ _ _ _ _ _ _ _ _ _ _ _ _ _ _ _ _ B F X N T hk hd hu ?_
  rintro _ h' tk' ⟨b, t', v0, v1, v2, v3, rfl, h1, _⟩ F' N'
  exact ret b v0 v1 v2 v3 t' h' tk' h1 F' N'
end

-- Read
open PySem.Calls

/-- the contract of a def that reads the objects «own» of the caller's and writes none -/
def CtR (w : World) (p : Program) (loose : List Str) (mean : ExcName → Option Value) (mg mb : Str → Option Value) (k : Nat) (f : Addr) (vs : List Value) (own : List (Addr × Obj)) (Out : Value → Prop) : Prop :=
  ∀ (dp un : Nat) (gd : Option (List Code)) (cn : Str) (cs : Scope) (a : Addr) (ccd : Value) (cl : List (Str × Addr)) (outer : List Env) (A₀ : Around) (base h₀ : Heap) (L : Addr) (m : Str → Option Value)
    (news : List (Addr × Obj)) (s : Shared) (Q E : Value → Shared → Prop),
    Below A₀ base outer h₀ → Fr h₀ L s.heap m → (K9 w.params).In h₀ → News h₀ L s.heap news → (∀ q ∈ own, q ∈ news) → Top p loose mean mg mb h₀ → cs.kind = .function → dp + k < recursionLimit → un + 8 * k < cLine →
    (∀ r h' tk', Out r → Fr h₀ L h' m → News h₀ L h' news → Q r { s with heap := h', toks := tk' }) →
    wpAny (model P0 w) (ktrTop dp un gd cn cs L a ccd cl outer) (call (.ref f) vs) Q E s

def LeaveR (h₀ : Heap) (L : Addr) (m : Str → Option Value) (g : Heap) (own news : List (Addr × Obj)) (R : Result → Shared → Prop) (v : Value) (s' : Shared) : Prop :=
  ∃ L' m' news', Fr g L' s'.heap m' ∧ News g L' s'.heap news' ∧ (∀ q ∈ own, q ∈ news') ∧ (Fr h₀ L s'.heap m → News h₀ L s'.heap news → R (.ok (.ret v)) s')
theorem leaveR_ {h₀ g : Heap} {L L' : Addr} {m m' : Str → Option Value} {own news news' : List (Addr × Obj)} {R : Result → Shared → Prop} {v : Value} {s' : Shared} (F' : Fr g L' s'.heap m') (N' : News g L' s'.heap news') (ho : ∀ q ∈ own, q ∈ news')
    (k : Fr h₀ L s'.heap m → News h₀ L s'.heap news → R (.ok (.ret v)) s') : LeaveR h₀ L m g own news R v s' := ⟨L', m', news', F', N', ho, k⟩

section
variable {prog : Program} {w : World} {A A₀ : Around} {E : Value → Shared → Prop} {s : Shared} {K : Frag} {C L : Addr} {h₀ base : Heap} {m mg mb : Str → Option Value} {own news : List (Addr × Obj)} {p : Program} {loose : List Str} {mean : ExcName → Option Value} {Q : Value → Shared → Prop}
/-- the call of a def of the text, the objects «own» handed in to be read -/
theorem code_defR {env : Env} {outer : List Env} {R : Result → Shared → Prop} {name qual : Str} {params : Arguments} {body : List Stmt} {scope : Scope} {dV kV doc pm cdv ct oc : Value} {an od : Option Addr} {osl : Array (Option Value)} {f : Addr} {args : Args} {binds : List (Str × Value)}
    (B : Below A₀ base outer h₀) (F : Fr h₀ L s.heap m) (X₀ : K.In h₀) (N : News h₀ L s.heap news) (hown : ∀ q ∈ own, q ∈ news) (T : Top p loose mean mg mb h₀) (hA : A.frames = some (env :: outer)) (hf : env.frame = some L) (hke : env.scope.kind = .function)
    (ho : K.lookup f = some ⟨oc, od, .func (fnOf name qual params body scope dV kV doc pm an cdv ct), osl⟩) (hcd : codeIn K cdv qual = true) (hroom : A.depth < recursionLimit)
    (hbind : BindsTo s (fnOf name qual params body scope dV kV doc pm an cdv ct) args binds) (hloc : ∀ y ∈ binds, scope.names.lookup y.1 = some .local)
    (h : ∀ g L' h₁, Fr g L' h₁ (fun y => binds.reverse.lookup y) → News g L' h₁ own → Below A base (env :: outer) g → K.In g → Top p loose mean mg mb g →
      wpAny (model prog w) (A.deeper (envOf qual scope L' f cdv)) (execs body (envOf qual scope L' f cdv))
        (fun fl s' => LeaveR h₀ L m g own news R (match fl with | .ret v => v | _ => .none) s')
        (fun e s' => wpAny (model prog w) (A.deeper (envOf qual scope L' f cdv)) (leaving (envOf qual scope L' f cdv) e) (fun _ s'' => R (.error e) s'') (fun e' s'' => R (.error e') s'') s')
        { s with heap := h₁, toks := s.toks + binds.length })
    (hco : scope.isCoroutine = false) (hgen : scope.isGenerator = false) (hk : scope.kind = .function)
    (hcell : ∀ x ∈ scope.names, x.2 ≠ .cell) : codeAny (model prog w) A (.call (.ref f) args) R s := by
  have N1 : News h₀ L s.heap own := fun q hq => N q (hown q hq)
  obtain ⟨_, BG, st, lv⟩ := groundX (R := R) B F N1 hA hf hke
  have X := X₀.keeps F.keep
  refine codeAny_call_def (fd := fnOf name qual params body scope dV kV doc pm an cdv ct) (body := body) (binds := binds) hroom (X _ _ ho) rfl (T.nolimit.keeps F.keep) (codeRec_of X hcd) rfl hbind hcell hloc (fun h₁ hns hk₁ => ?_) hco hgen hk
  refine wpAny_mono (h (hideAll s.heap (own.map fun x : Addr × Obj => x.1)) s.heap.objs.size h₁ ⟨hns, fun b ob e => hk₁ b ob (of_hideAll _ e), Nat.le_of_eq (hideAll_size _ _)⟩
    (fun q hq => ⟨hk₁ _ _ (N1 q hq).1, Nat.ne_of_lt (Heap.lt_size (N1 q hq).1), hideAll_none _ (List.mem_map_of_mem hq)⟩) BG (X₀.keeps st) (T.keeps st)) (fun fl s' hl => ?_) fun _ _ y => y
  obtain ⟨L', m', news', F', N', hs, k⟩ := hl
  refine lv _ _ ⟨L', m', own, F', fun q hq => N' q (hs q hq), fun F₂ _ => k F₂ fun q hq => ⟨?_, (N q hq).2⟩⟩
  by_cases hm : q.1 ∈ own.map fun x : Addr × Obj => x.1
  · obtain ⟨r, hr, e⟩ := List.mem_map.mp hm
    have e1 := (N1 r hr).1
    rw [e, (N q hq).1] at e1
    have e2 := (N' r (hs r hr)).1
    rw [e, ← Option.some.inj e1] at e2
    exact e2
  · exact F'.keep _ _ (hideAll_get _ (N q hq).1 hm)
end

-- Cell
open PySem.Calls PySem.Spec

section
variable {prog : Program} {w : World} {A A₀ : Around} {E : Value → Shared → Prop} {s : Shared} {K : Frag} {C L : Addr} {h₀ base : Heap} {m mg mb : Str → Option Value} {news : List (Addr × Obj)} {p : Program} {loose : List Str} {mean : ExcName → Option Value} {Q : Value → Shared → Prop}
/-- as code_defD, for a def whose names are captured -/
theorem code_cellD {env : Env} {outer : List Env} {R : Result → Shared → Prop} {d : Addr} {o : Obj} {name qual : Str} {params : Arguments} {body : List Stmt} {scope : Scope} {dV kV doc pm cdv ct oc : Value} {an od : Option Addr} {osl : Array (Option Value)} {f : Addr} {args : Args} {binds : List (Str × Value)}
    (B : Below A₀ base outer h₀) (F : Fr h₀ L s.heap m) (X₀ : K.In h₀) (N : News h₀ L s.heap news) (hm : (d, o) ∈ news) (T : Top p loose mean mg mb h₀) (hA : A.frames = some (env :: outer)) (hf : env.frame = some L) (hke : env.scope.kind = .function)
    (ho : K.lookup f = some ⟨oc, od, .func (fnOf name qual params body scope dV kV doc pm an cdv ct), osl⟩) (hcd : codeIn K cdv qual = true) (hroom : A.depth < recursionLimit)
    (hbind : BindsTo s (fnOf name qual params body scope dV kV doc pm an cdv ct) args binds) (hkind : (binds.all fun y => scope.names.lookup y.1 == some .local || scope.names.lookup y.1 == some .cell) = true)
    (hnd : ((cellsFrom 0 scope.names []).map (·.1)).Nodup)
    (h : ∀ g L' h₁ tk cells, d < L' → g = s.heap.hide d → Fr g L' h₁ (bindL (envOfC qual scope L' f cdv).kindOf binds fun _ => none) → News g L' h₁ (cells ++ [(d, o)]) →
      CellsAre (bindC (envOfC qual scope L' f cdv).kindOf binds fun _ => none) (cellsFrom (L' + 1) scope.names []) cells → Below A base (env :: outer) g → K.In g → Top p loose mean mg mb g →
      wpAny (model prog w) (A.deeper (envOfC qual scope L' f cdv)) (execs body (envOfC qual scope L' f cdv))
        (fun fl s' => LeaveD h₀ L m g d o news R (match fl with | .ret v => v | _ => .none) s')
        (fun e s' => wpAny (model prog w) (A.deeper (envOfC qual scope L' f cdv)) (leaving (envOfC qual scope L' f cdv) e) (fun _ s'' => R (.error e) s'') (fun e' s'' => R (.error e') s'') s')
        { s with heap := h₁, toks := tk })
    (hco : scope.isCoroutine = false) (hgen : scope.isGenerator = false) (hk : scope.kind = .function) : codeAny (model prog w) A (.call (.ref f) args) R s := by
  have N1 : News h₀ L s.heap [(d, o)] := fun q hq => by rw [List.mem_singleton.mp hq]; exact N _ hm
  obtain ⟨_, BG, st, lv⟩ := groundX (R := R) B F N1 hA hf hke
  have X := X₀.keeps F.keep
  refine codeAny_call_function hroom (X _ _ ho) rfl hco hgen rfl (codeRec_of X hcd) (hbind _ _ _ _ ?_)
  refine wpAny_newFunctionEnv_cells hk (kindsX hkind _) fun env' he s' x => ?_
  subst he
  refine ⟨(T.nolimit.keeps F.keep).keeps x.toInCall.keep, codeAny_func ?_⟩
  obtain ⟨h₁, tk, rfl, _⟩ := x.done
  have hk₁ := x.toInCall.keep
  obtain ⟨cells, NC, Y⟩ := Cl.news (h₀ := s.heap) (Nat.le_refl _) fun n c hm => ⟨x.cell n c (lookup_of_mem_nodup (cellsFrom_names scope.names 0 (s.heap.objs.size + 1) [] [] rfl ▸ hnd) hm), x.above n c hm⟩
  refine wpAny_mono (h (s.heap.hide d) s.heap.objs.size h₁ tk cells (Heap.lt_size (N _ hm).1) rfl ⟨x.toInCall.ns, fun b ob e => hk₁ b ob (Heap.of_hide e), Nat.le_of_eq (Heap.hide_size _ _)⟩
    (fun q hq => ?_) Y BG (X₀.keeps st) (T.keeps st)) (fun fl s' hl => ?_) fun _ _ y => y
  · rcases List.mem_append.mp hq with hq | hq
    · refine ⟨(NC q hq).1, (NC q hq).2.1, ?_⟩
      cases e : (s.heap.hide d).get? q.1 with
      | none => rfl
      | some ob => have := Heap.of_hide e; rw [(NC q hq).2.2] at this; cases this
    · rw [List.mem_singleton.mp hq]
      exact ⟨hk₁ _ _ (N _ hm).1, Nat.ne_of_lt (Heap.lt_size (N _ hm).1), Heap.hide_self _ _⟩
  · obtain ⟨L', m', news', o', F', N', hm', k⟩ := hl
    refine lv _ _ ⟨L', m', [(d, o')], F', fun q hq => by rw [List.mem_singleton.mp hq]; exact N' _ hm', fun F₂ N₂ => k F₂ fun nw U => ?_⟩
    obtain ⟨pre, post, e1, rfl, a, b⟩ := U.split
    have N₃ : News h₀ L s.heap (pre ++ (d, o) :: post) := e1 ▸ N
    intro q hq
    have old : q ∈ pre ++ (d, o) :: post → q.1 ≠ d → s'.heap.get? q.1 = some q.2 ∧ q.1 ≠ L ∧ h₀.get? q.1 = none := fun hq hne =>
      ⟨F'.keep _ _ ((Heap.hide_ne _ hne).trans (N₃ q hq).1), (N₃ q hq).2⟩
    rcases List.mem_append.mp hq with hq | hq
    · exact old (List.mem_append_left _ hq) (a q hq)
    · rcases List.mem_cons.mp hq with rfl | hq
      · exact N₂ _ (.head _)
      · exact old (List.mem_append_right _ (.tail _ hq)) (b q hq)
end

-- Draw
open PySem.Calls

/-- an element drawn: an octet, the source at d turned, the cell at c as it was -/
def DrEl (c d : Addr) (oc : Obj) (y : Value) (nw : List (Addr × Obj)) : Prop := ∃ r t vs ns k, y = .int r t ∧ 0 ≤ r ∧ r < 256 ∧ IntsAre vs ns ∧ SrcNs ns ∧ (c, oc) ∈ nw ∧ (d, listOf vs.toArray k) ∈ nw
theorem off3_sub {I C D : Addr} {l l' : List (Addr × Obj)} (h : LCg.Off3 I C D l) (hs : ∀ q ∈ l', q ∈ l) : LCg.Off3 I C D l' := LCg.Off3.of fun q hq => h.mem q (hs q hq)
section
variable {prog : Program} {w : World} {A : Around} {h₀ : Heap} {L : Addr} {m : Str → Option Value} {env : Env} {elt : PySem.Expr} {x : Str} {scope : Scope} {cl : List (Str × Addr)} {s : Shared} {S : List (Addr × Obj) → Prop} {P : Nat → Value → Prop} {Fin : List Value → List (Addr × Obj) → Prop}
/-- a comprehension whose element draws -/
theorem draw_rest {n : Nat} {c d : Addr} {oc : Obj} {vs : List Value} {ns : List Int} {k : Nat} (hi : IntsAre vs ns) (hs : SrcNs ns) (hS : ∀ nw, S nw)
    (turn : ∀ (vs : List Value) (ns : List Int) (k : Nat) I oI C oC D m₂ ys h tk (E' : Value → Shared → Prop), IntsAre vs ns → SrcNs ns → LCg.NsObj oC m₂ → Fr h₀ L h m → News h₀ L h ((I, oI) :: (C, oC) :: (D, LCg.lst ys) :: [(c, oc), (d, listOf vs.toArray k)]) → LCg.Off3 I C D [(c, oc), (d, listOf vs.toArray k)] → ((@Ne Nat I C) ∧ (@Ne Nat I D) ∧ (@Ne Nat C D)) →
      wpAny (model prog w) A (eval elt (compEnvC scope cl C env)) (LCg.CompEnd h₀ L m { s with heap := h, toks := tk } I oI C oC D (LCg.lst ys) S (fun y nw => DrEl c d oc y nw)) E' { s with heap := h, toks := tk })
    (fin : ∀ (ys : List Value) (ks : List Int) (vs : List Value) (ns : List Int) (k : Nat), IntsAre ys ks → ks.length = n → KBa.In ks → IntsAre vs ns → SrcNs ns → Fin ys [(c, oc), (d, listOf vs.toArray k)]) :
    LCg.CompRest prog w A h₀ L m env elt x scope cl s S P Fin n 0 [] [(c, oc), (d, listOf vs.toArray k)] := by
  have key : ∀ (j i : Nat) (ys : List Value) (ks : List Int) (vs : List Value) (ns : List Int) (k : Nat), i + j = n → IntsAre ys ks → ks.length = i → KBa.In ks → IntsAre vs ns → SrcNs ns →
      LCg.CompRest prog w A h₀ L m env elt x scope cl s S P Fin j i ys [(c, oc), (d, listOf vs.toArray k)] := by
    intro j
    induction j with
    | zero =>
      intro i ys ks vs ns k hij hy hl hin hi hs
      exact LCg.CompRest.zero (fin ys ks vs ns k hy (by omega) hin hi hs)
    | succ j ih =>
      intro i ys ks vs ns k hij hy hl hin hi hs
      refine LCg.CompRest.succ ?_
      intro v I oI C oC D m₂ h tk E' hv hC hx F N off ne
      refine wpAny_mono (turn vs ns k I oI C oC D m₂ ys h tk E' hi hs hC F N off ne) (fun y s₂ hq => ?_) fun _ _ e => e
      obtain ⟨h', tk', nw, e, F', N', off', hS', r, t, vs', ns', k', hy', hr0, hr1, hi', hs', hc, hd⟩ := hq
      have sub : ∀ q ∈ [(c, oc), (d, listOf vs'.toArray k')], q ∈ nw := by
        intro q hq
        rcases List.mem_cons.mp hq with rfl | hq
        · exact hc
        · rw [List.mem_singleton.mp hq]; exact hd
      refine ⟨h', tk', [(c, oc), (d, listOf vs'.toArray k')], e, F', ?_, off3_sub off' sub, hS _, ?_⟩
      · intro q hq
        rcases List.mem_cons.mp hq with rfl | hq
        · exact N' _ (List.mem_cons_self)
        rcases List.mem_cons.mp hq with rfl | hq
        · exact N' _ (List.mem_cons_of_mem _ List.mem_cons_self)
        rcases List.mem_cons.mp hq with rfl | hq
        · exact N' _ (List.mem_cons_of_mem _ (List.mem_cons_of_mem _ List.mem_cons_self))
        · exact N' _ (List.mem_cons_of_mem _ (List.mem_cons_of_mem _ (List.mem_cons_of_mem _ (sub q hq))))
      · rw [hy']
        refine ih (i + 1) (ys ++ [.int r t]) (ks ++ [r]) vs' ns' k' (by omega) (IntsAre.append hy (.cons r t .nil)) (by rw [List.length_append, hl]; rfl) ?_ hi' hs'
        intro q hq
        rcases List.mem_append.mp hq with hq | hq
        · exact hin q hq
        · rw [List.mem_singleton.mp hq]; exact ⟨hr0, hr1⟩
  exact key n 0 [] [] vs ns k (by omega) .nil rfl (fun q hq => nomatch hq) hi hs
end

-- Err
open PySem.Calls

/-- the kinds of errors -/
def errK (k : Int) : Bool := decide (k = 3) || (decide (k = 4) || (decide (k = 5) || (decide (k = 11) || decide (k = 12))))
theorem eqi {a k : Int} : (a == k) = decide (k = a) := by
  show decide (a = k) = decide (k = a)
  exact decide_eq_decide.mpr ⟨Eq.symm, Eq.symm⟩
theorem any5 {k : Int} {t1 t2 t3 t4 t5 : Tok} : [Value.int 3 t1, Value.int 4 t2, Value.int 5 t3, Value.int 11 t4, Value.int 12 t5].any (isInt k) = errK k := by
  simp only [List.any_cons, List.any_nil, Bool.or_false, errK, isInt]
  rw [eqi, eqi, eqi, eqi, eqi]
section
variable {prog : Program} {w : World} {A : Around} {E : Value → Shared → Prop} {s : Shared} {h₀ : Heap} {L D : Addr} {news : List (Addr × Obj)} {n : Nat}
theorem in5 {k : Int} {t t1 t2 t3 t4 t5 : Tok} {Q : Value → Shared → Prop} (N : News h₀ L s.heap news) (hm : (D, listOf #[Value.int 3 t1, Value.int 4 t2, Value.int 5 t3, Value.int 11 t4, Value.int 12 t5] n) ∈ news)
    (h : Q (.bool (errK k)) s) : wpAny (model prog w) A (compareOp .In (.int k t) (.ref D)) Q E s :=
  kf_in N hm rfl any5 h
theorem eqb_nil {b : Array UInt8} {t u : Tok} {Q : Value → Shared → Prop} (hb : KBw.bInts b = []) (h : Q (.bool true) s) : wpAny (model prog w) A (compareOp .Eq (.bytes b t) (.bytes ([] : List UInt8).toArray u)) Q E s := by
  refine eq_bytes ?_
  have e : b.toList = [] := List.map_eq_nil_iff.mp hb
  rw [e]
  exact h
theorem eqb_cons {b : Array UInt8} {k : Int} {r : List Int} {t u : Tok} {Q : Value → Shared → Prop} (hb : KBw.bInts b = k :: r) (h : Q (.bool false) s) : wpAny (model prog w) A (compareOp .Eq (.bytes b t) (.bytes ([] : List UInt8).toArray u)) Q E s := by
  refine eq_bytes ?_
  have e : (b.toList == ([] : List UInt8).toArray.toList) = false := by
    cases hl : b.toList with
    | nil =>
      have : KBw.bInts b = [] := by show b.toList.map _ = []; rw [hl]; rfl
      rw [hb] at this
      cases this
    | cons x l => rfl
  rw [e]
  exact h
end

-- Objs
open PySem.Calls
/-- the contract of a class called: two new objects -/
def CtN (w : World) (p : Program) (loose : List Str) (mean : ExcName → Option Value) (mg mb : Str → Option Value) (k : Nat) (C : Addr) (vs : List Value) (Ob : Addr → Addr → Obj → Obj → Prop) : Prop :=
  ∀ (dp un : Nat) (gd : Option (List Code)) (cn : Str) (cs : Scope) (a : Addr) (ccd : Value) (cl : List (Str × Addr)) (outer : List Env) (A₀ : Around) (base h₀ : Heap) (L : Addr) (m : Str → Option Value)
    (news : List (Addr × Obj)) (s : Shared) (Q E : Value → Shared → Prop),
    Below A₀ base outer h₀ → Fr h₀ L s.heap m → (K9 w.params).In h₀ → News h₀ L s.heap news → Top p loose mean mg mb h₀ → cs.kind = .function → dp + k < recursionLimit → un + 8 * k < cLine →
    (∀ x dx o1 o2 h' tk', Ob x dx o1 o2 → Fr h₀ L h' m → News h₀ L h' ((x, o1) :: (dx, o2) :: news) → AllLt dx news → dx < x → Q (.ref x) { s with heap := h', toks := tk' }) →
    wpAny (model P0 w) (ktrTop dp un gd cn cs L a ccd cl outer) (call (.ref C) vs) Q E s
abbrev ent (w : World) (k : String) (t : Tok) (v : Value) : DictEntry := { hash := PyData.keyHash w.params (Str.ofString k), key := Value.str (Str.ofString k) t, val := v }
def HdrOb (w : World) (pr : Int) (_x dx : Addr) (o1 o2 : Obj) : Prop := o1 = instObj 241 dx ∧ ∃ (t0 t1 t2 t3 t4 t5 t6 t7 t8 t9 u0 u1 u2 u3 u4 u5 u6 u7 : Tok), o2 = dictOf [ent w "source" t0 (.int 1 u0), ent w "target" t1 (.int 2 u1), ent w "protocol" t2 (.int pr u2), ent w "ident" t3 (.int 0 u3), ent w "ttl" t4 (.int 64 u4), ent w "tos" t5 (.int 0 u5), ent w "dont" t6 (.bool false), ent w "more" t7 (.bool false), ent w "offset" t8 (.int 0 u6), ent w "options" t9 (.bytes ([] : List UInt8).toArray u7)] 10
def MsgOb (w : World) (kd cd rs : Int) (b : Array UInt8) (_x dx : Addr) (o1 o2 : Obj) : Prop := o1 = instObj 156 dx ∧ ∃ (t0 t1 t2 t3 u0 u1 u2 u3 : Tok), o2 = dictOf [ent w "kind" t0 (.int kd u0), ent w "code" t1 (.int cd u1), ent w "rest" t2 (.int rs u2), ent w "payload" t3 (.bytes b u3)] 4
set_option maxHeartbeats 8000000 in
theorem hdr_ct (w : World) (p : Program) (loose : List Str) (mean : ExcName → Option Value) (mg mb : Str → Option Value) (t1 t2 tp : Tok) (pr : Int) :
    CtN w p loose mean mg mb 3 241 [.int 1 t1, .int 2 t2, .int pr tp] (HdrOb w pr) := by
  k_with_none
  k_with "eval Constant int" => ((with_reducible refine const_fr ?_); intro _ _)
  k_with "binaryOp Add int int" => ((with_reducible refine add_fr ?_); intro _ _)
  k_with "inplaceOp Add int int" => ((with_reducible refine iadd_fr ?_); intro _ _)
  k_with "binaryOp Sub int int" => ((with_reducible refine sub_fr ?_); intro _ _)
  k_with "LeaveP" => ((refine leaveP_ (by k_asm) ?_; intro kF kN; (try dsimp only)))
  k_with "spliced" => (dsimp only)
  k_with "subscriptTail" => ((k_here; (with_reducible show wpAny _ _ (subscriptTail _ _ (Value.bytes _ _) (Value.int _ _)) _ _ _); (refine item_lit (by kba_ints) (by exact of_decide_eq_true rfl) (by exact of_decide_eq_true rfl) (by exact of_decide_eq_true rfl) (by (simp only [Int.reduceAdd, Int.reduceMul, Int.reduceSub, Int.reduceFMod, Int.cast_ofNat_Int, Int.reduceToNat, List.cons_append, List.nil_append, List.getD_cons_zero, List.getD_cons_succ]; try exact rfl)) (by with_unfolding_all rfl) (by intro _; with_unfolding_all rfl) ?_); intro _ _ kbaLo kbaHi))
  k_with "binaryOp LShift int int" => (((with_reducible show wpAny _ _ (binaryOp _ _ (Value.int 8 _)) _ _ _); k_dflt ((refine' shl8 ?k1 ?k2 ?_); (case k1 => omega); (case k2 => omega); k_whole; intro _ _ v9 hv9)))
  k_with "binaryOp BitOr int int" => ((k_dflt ((refine' or8 ?k1 ?k2 ?k3 ?k4 ?_); (case k1 => assumption); (case k2 => omega); (case k3 => omega); (case k4 => omega); k_whole; intro _ _ v9 hv9)))
  k_with "binaryOp BitAnd int int" => (((with_reducible show wpAny _ _ (binaryOp _ _ (Value.int 255 _)) _ _ _); k_dflt ((refine' and8 ?_); k_whole; intro _ _ v9 q9 hv9 hv0 hv1)))
  k_with "binaryOp BitAnd int int" => (((with_reducible show wpAny _ _ (binaryOp _ _ (Value.int 65535 _)) _ _ _); k_dflt ((refine' and16 ?_); k_whole; intro _ _ v9 q9 hv9 hv0 hv1)))
  k_with "binaryOp RShift int int" => (((with_reducible show wpAny _ _ (binaryOp _ _ (Value.int 8 _)) _ _ _); k_dflt ((refine' shr8 ?_); k_whole; intro _ _ q9 v9 hv9 hv0 hv1)))
  k_with "binaryOp RShift int int" => (((with_reducible show wpAny _ _ (binaryOp _ _ (Value.int 16 _)) _ _ _); k_dflt ((refine' shr16 ?_); k_whole; intro _ _ q9 v9 hv9 hv0 hv1)))
  k_with "subscriptTail" => ((k_here; (with_reducible show wpAny _ _ (subscriptTail _ _ (Value.bytes _ _) (Value.int _ _)) _ _ _); (refine item_lit (by kba_ints) (by exact of_decide_eq_true rfl) (by exact of_decide_eq_true rfl) (by exact of_decide_eq_true rfl) (by (simp only [Int.reduceAdd, Int.reduceMul, Int.reduceSub, Int.reduceFMod, Int.cast_ofNat_Int, Int.reduceToNat, List.cons_append, List.nil_append, List.getD_cons_zero, List.getD_cons_succ]; try exact rfl)) (by with_unfolding_all rfl) (by intro _; with_unfolding_all rfl) ?_); intro _ _ kbaLo kbaHi))
  k_with "call builtin:len" => ((k_here; (with_reducible show wpAny _ _ (call (Value.builtin "len") [Value.bytes _ _]) _ _ _); (refine len_lit (by kba_ints) (by (simp only [List.cons_append, List.nil_append, List.length_cons, List.length_nil, Nat.reduceAdd]; try exact rfl)) (by exact of_decide_eq_true rfl) ?_); intro _ _))
  k_with "call type:range" => ((simp only [List.length_cons, List.length_nil, Nat.reduceAdd, Int.cast_ofNat_Int, Int.reduceFMod, Int.reduceSub, Int.reduceFDiv]; walk_at "call type:range"))
  k_with "call type:bytes" => ((k_here; (with_reducible show wpAny _ _ (call (Value.type "bytes") [Value.ref _]) _ _ _); k_dflt (refine' make_own ?kbaF ?kbaN ?kbah ?kbal ?kbai ?kbar ?kban ?_; (case kbaF => k_asm); (case kbaN => k_asm); (case kbah => rfl); (case kbal => kba_isList); (case kbai => kba_listInts); (case kbar => (intro k9z hk9; simp only [List.mem_cons, List.not_mem_nil, or_false] at hk9; omega)); (case kban => first | exact of_decide_eq_true rfl | kba_size)); intro _ _ _ b9 hb9 F' N'; (try k_sweep)))
  unfold CtN P0
  k_fill
  intro dp un gd cn cs a ccd cl outer A₀ base h₀ L m news s Q E B F X N T hk hd hu hret
  have hMk := kstMark
  k_dflt ((refine' call_cls ?k1 ?k2 ?k3 ?k4 ?k5 ?k6 ?_; (case k1 => k_asm); (case k2 => k_asm); (case k3 => k_asm); (case k4 => k_is); (case k5 => k_is); (case k6 => k_is); intro x' d' h' F' N' l1 l2; (try k_lt2 l2); (try k_sweep); refine' code_def ?k1 ?k2 ?k3 ?k4 ?k5 ?kA ?kF ?kK ?k6 ?k7 ?k8 ?k9 ?kB ?_ ?c2 ?c3 ?c4 ?c5; (case kA => exact rfl); (case kF => exact rfl); (case kK => assumption); (case k1 => k_asm); (case k2 => k_asm); (case k3 => k_asm); (case k4 => k_asm); (case k5 => k_asm); (case k6 => k_is); (case k7 => k_is); (case k8 => ktr_room); (case k9 => first | exact BindsTo.of_eq rfl | exact binds_K (by k_in) rfl (by k_is) rfl rfl rfl); (case c5 => decide); (case kB => exact locs rfl); (case c2 => exact rfl); (case c3 => exact rfl); (case c4 => exact rfl); k_whole; intro g' L' h' FG' F' N' B' X' T'; (try dsimp only); (try k_fold)))
  k_steps
  rename Fr h₀ L _ m => kF
  rename News h₀ L _ _ => kN
  exact hret _ _ _ _ _ _ ⟨rfl, _, _, _, _, _, _, _, _, _, _, _, _, _, _, _, _, _, _, rfl⟩ kF kN (allLt_of (by assumption)) (by assumption)
section
variable {w : World} {p : Program} {loose : List Str} {mean : ExcName → Option Value} {mg mb : Str → Option Value}
  {dp un : Nat} {gd : Option (List Code)} {cn : Str} {cs : Scope} {a : Addr} {ccd : Value} {cl : List (Str × Addr)} {outer : List Env} {A₀ : Around} {base h₀ : Heap} {L : Addr} {m : Str → Option Value} {s : Shared} {Q E : Value → Shared → Prop} {news : List (Addr × Obj)}
theorem hdr_use {t1 t2 tp : Tok} {pr : Int} (B : Below A₀ base outer h₀) (F : Fr h₀ L s.heap m) (X : (K9 w.params).In h₀) (N : News h₀ L s.heap news)
    (T : Top p loose mean mg mb h₀) (hk : cs.kind = .function) (hd : dp + 3 < recursionLimit) (hu : un + 8 * 3 < cLine)
    (ret : ∀ x dx o1 o2 h' tk', HdrOb w pr x dx o1 o2 → Fr h₀ L h' m → News h₀ L h' ((x, o1) :: (dx, o2) :: news) → AllLt dx news → @LT.lt Nat _ dx x → Q (.ref x) { s with heap := h', toks := tk' }) :
    wpAny (model P0 w) (ktrTop dp un gd cn cs L a ccd cl outer) (call (.ref 241) [.int 1 t1, .int 2 t2, .int pr tp]) Q E s :=
  hdr_ct w p loose mean mg mb t1 t2 tp pr _ _ _ _ _ _ _ _ _ _ _ _ _ _ _ _ _ _ B F X N T hk hd hu ret
end
set_option maxHeartbeats 8000000 in
theorem msg_ct (w : World) (p : Program) (loose : List Str) (mean : ExcName → Option Value) (mg mb : Str → Option Value) (t1 t2 t3 t4 : Tok) (kd cd rs : Int) (b : Array UInt8) :
    CtN w p loose mean mg mb 3 156 [.int kd t1, .int cd t2, .int rs t3, .bytes b t4] (MsgOb w kd cd rs b) := by
  k_with_none
  k_with "eval Constant int" => ((with_reducible refine const_fr ?_); intro _ _)
  k_with "binaryOp Add int int" => ((with_reducible refine add_fr ?_); intro _ _)
  k_with "inplaceOp Add int int" => ((with_reducible refine iadd_fr ?_); intro _ _)
  k_with "binaryOp Sub int int" => ((with_reducible refine sub_fr ?_); intro _ _)
  k_with "LeaveP" => ((refine leaveP_ (by k_asm) ?_; intro kF kN; (try dsimp only)))
  k_with "spliced" => (dsimp only)
  k_with "subscriptTail" => ((k_here; (with_reducible show wpAny _ _ (subscriptTail _ _ (Value.bytes _ _) (Value.int _ _)) _ _ _); (refine item_lit (by kba_ints) (by exact of_decide_eq_true rfl) (by exact of_decide_eq_true rfl) (by exact of_decide_eq_true rfl) (by (simp only [Int.reduceAdd, Int.reduceMul, Int.reduceSub, Int.reduceFMod, Int.cast_ofNat_Int, Int.reduceToNat, List.cons_append, List.nil_append, List.getD_cons_zero, List.getD_cons_succ]; try exact rfl)) (by with_unfolding_all rfl) (by intro _; with_unfolding_all rfl) ?_); intro _ _ kbaLo kbaHi))
  k_with "binaryOp LShift int int" => (((with_reducible show wpAny _ _ (binaryOp _ _ (Value.int 8 _)) _ _ _); k_dflt ((refine' shl8 ?k1 ?k2 ?_); (case k1 => omega); (case k2 => omega); k_whole; intro _ _ v9 hv9)))
  k_with "binaryOp BitOr int int" => ((k_dflt ((refine' or8 ?k1 ?k2 ?k3 ?k4 ?_); (case k1 => assumption); (case k2 => omega); (case k3 => omega); (case k4 => omega); k_whole; intro _ _ v9 hv9)))
  k_with "binaryOp BitAnd int int" => (((with_reducible show wpAny _ _ (binaryOp _ _ (Value.int 255 _)) _ _ _); k_dflt ((refine' and8 ?_); k_whole; intro _ _ v9 q9 hv9 hv0 hv1)))
  k_with "binaryOp BitAnd int int" => (((with_reducible show wpAny _ _ (binaryOp _ _ (Value.int 65535 _)) _ _ _); k_dflt ((refine' and16 ?_); k_whole; intro _ _ v9 q9 hv9 hv0 hv1)))
  k_with "binaryOp RShift int int" => (((with_reducible show wpAny _ _ (binaryOp _ _ (Value.int 8 _)) _ _ _); k_dflt ((refine' shr8 ?_); k_whole; intro _ _ q9 v9 hv9 hv0 hv1)))
  k_with "binaryOp RShift int int" => (((with_reducible show wpAny _ _ (binaryOp _ _ (Value.int 16 _)) _ _ _); k_dflt ((refine' shr16 ?_); k_whole; intro _ _ q9 v9 hv9 hv0 hv1)))
  k_with "subscriptTail" => ((k_here; (with_reducible show wpAny _ _ (subscriptTail _ _ (Value.bytes _ _) (Value.int _ _)) _ _ _); (refine item_lit (by kba_ints) (by exact of_decide_eq_true rfl) (by exact of_decide_eq_true rfl) (by exact of_decide_eq_true rfl) (by (simp only [Int.reduceAdd, Int.reduceMul, Int.reduceSub, Int.reduceFMod, Int.cast_ofNat_Int, Int.reduceToNat, List.cons_append, List.nil_append, List.getD_cons_zero, List.getD_cons_succ]; try exact rfl)) (by with_unfolding_all rfl) (by intro _; with_unfolding_all rfl) ?_); intro _ _ kbaLo kbaHi))
  k_with "call builtin:len" => ((k_here; (with_reducible show wpAny _ _ (call (Value.builtin "len") [Value.bytes _ _]) _ _ _); (refine len_lit (by kba_ints) (by (simp only [List.cons_append, List.nil_append, List.length_cons, List.length_nil, Nat.reduceAdd]; try exact rfl)) (by exact of_decide_eq_true rfl) ?_); intro _ _))
  k_with "call type:range" => ((simp only [List.length_cons, List.length_nil, Nat.reduceAdd, Int.cast_ofNat_Int, Int.reduceFMod, Int.reduceSub, Int.reduceFDiv]; walk_at "call type:range"))
  k_with "call type:bytes" => ((k_here; (with_reducible show wpAny _ _ (call (Value.type "bytes") [Value.ref _]) _ _ _); k_dflt (refine' make_own ?kbaF ?kbaN ?kbah ?kbal ?kbai ?kbar ?kban ?_; (case kbaF => k_asm); (case kbaN => k_asm); (case kbah => rfl); (case kbal => kba_isList); (case kbai => kba_listInts); (case kbar => (intro k9z hk9; simp only [List.mem_cons, List.not_mem_nil, or_false] at hk9; omega)); (case kban => first | exact of_decide_eq_true rfl | kba_size)); intro _ _ _ b9 hb9 F' N'; (try k_sweep)))
  unfold CtN P0
  k_fill
  intro dp un gd cn cs a ccd cl outer A₀ base h₀ L m news s Q E B F X N T hk hd hu hret
  have hMk := kstMark
  k_dflt ((refine' call_cls ?k1 ?k2 ?k3 ?k4 ?k5 ?k6 ?_; (case k1 => k_asm); (case k2 => k_asm); (case k3 => k_asm); (case k4 => k_is); (case k5 => k_is); (case k6 => k_is); intro x' d' h' F' N' l1 l2; (try k_lt2 l2); (try k_sweep); refine' code_def ?k1 ?k2 ?k3 ?k4 ?k5 ?kA ?kF ?kK ?k6 ?k7 ?k8 ?k9 ?kB ?_ ?c2 ?c3 ?c4 ?c5; (case kA => exact rfl); (case kF => exact rfl); (case kK => assumption); (case k1 => k_asm); (case k2 => k_asm); (case k3 => k_asm); (case k4 => k_asm); (case k5 => k_asm); (case k6 => k_is); (case k7 => k_is); (case k8 => ktr_room); (case k9 => first | exact BindsTo.of_eq rfl | exact binds_K (by k_in) rfl (by k_is) rfl rfl rfl); (case c5 => decide); (case kB => exact locs rfl); (case c2 => exact rfl); (case c3 => exact rfl); (case c4 => exact rfl); k_whole; intro g' L' h' FG' F' N' B' X' T'; (try dsimp only); (try k_fold)))
  k_steps
  rename Fr h₀ L _ m => kF
  rename News h₀ L _ _ => kN
  exact hret _ _ _ _ _ _ ⟨rfl, _, _, _, _, _, _, _, _, rfl⟩ kF kN (allLt_of (by assumption)) (by assumption)
section
variable {w : World} {p : Program} {loose : List Str} {mean : ExcName → Option Value} {mg mb : Str → Option Value}
  {dp un : Nat} {gd : Option (List Code)} {cn : Str} {cs : Scope} {a : Addr} {ccd : Value} {cl : List (Str × Addr)} {outer : List Env} {A₀ : Around} {base h₀ : Heap} {L : Addr} {m : Str → Option Value} {s : Shared} {Q E : Value → Shared → Prop} {news : List (Addr × Obj)}
theorem msg_use {t1 t2 t3 t4 : Tok} {kd cd rs : Int} {b : Array UInt8} (B : Below A₀ base outer h₀) (F : Fr h₀ L s.heap m) (X : (K9 w.params).In h₀) (N : News h₀ L s.heap news)
    (T : Top p loose mean mg mb h₀) (hk : cs.kind = .function) (hd : dp + 3 < recursionLimit) (hu : un + 8 * 3 < cLine)
    (ret : ∀ x dx o1 o2 h' tk', MsgOb w kd cd rs b x dx o1 o2 → Fr h₀ L h' m → News h₀ L h' ((x, o1) :: (dx, o2) :: news) → AllLt dx news → @LT.lt Nat _ dx x → Q (.ref x) { s with heap := h', toks := tk' }) :
    wpAny (model P0 w) (ktrTop dp un gd cn cs L a ccd cl outer) (call (.ref 156) [.int kd t1, .int cd t2, .int rs t3, .bytes b t4]) Q E s :=
  msg_ct w p loose mean mg mb t1 t2 t3 t4 kd cd rs b _ _ _ _ _ _ _ _ _ _ _ _ _ _ _ _ _ _ B F X N T hk hd hu ret
end

-- Carry
open PySem.Calls
def CarOut (pr : Int) (ks : List Int) (r : Value) : Prop := r = .bool (decide (pr = 1) && match ks with | [] => true | k :: _ => errK k)
theorem car_no {pr : Int} {ks : List Int} (h : pr ≠ 1) : CarOut pr ks (.bool false) := by
  unfold CarOut
  rw [decide_eq_false h]
  rfl
theorem car_nil {pr : Int} (h : pr = 1) : CarOut pr [] (.bool (((0 : Nat) : Int) == 0)) := by
  subst h; rfl
theorem car_err {pr k : Int} {ks : List Int} (h : pr = 1) : CarOut pr (k :: ks) (.bool ([(3 : Int), 4, 5, 11, 12].any fun x => x == k)) := by
  subst h
  show Value.bool _ = Value.bool (true && errK k)
  simp only [List.any_cons, List.any_nil, Bool.or_false, errK, Bool.true_and]
  rw [eqi, eqi, eqi, eqi, eqi]
set_option maxHeartbeats 8000000 in
theorem car0_ct (w : World) (p : Program) (loose : List Str) (mean : ExcName → Option Value) (mg mb : Str → Option Value) (pr : Int) (x dx : Addr) (o1 o2 : Obj) (b : Array UInt8) (t : Tok) (ho : HdrOb w pr x dx o1 o2) (hb : KBw.bInts b = []) :
    CtR w p loose mean mg mb 2 266 [.ref x, .bytes b t] [(x, o1), (dx, o2)] (CarOut pr []) := by
  k_with_none
  k_with "eval Constant int" => ((with_reducible refine const_fr ?_); intro _ _)
  k_with "binaryOp Add int int" => ((with_reducible refine add_fr ?_); intro _ _)
  k_with "inplaceOp Add int int" => ((with_reducible refine iadd_fr ?_); intro _ _)
  k_with "binaryOp Sub int int" => ((with_reducible refine sub_fr ?_); intro _ _)
  k_with "spliced" => (dsimp only)
  k_with "subscriptTail" => ((k_here; (with_reducible show wpAny _ _ (subscriptTail _ _ (Value.bytes _ _) (Value.int _ _)) _ _ _); (refine item_lit (by kba_ints) (by exact of_decide_eq_true rfl) (by exact of_decide_eq_true rfl) (by exact of_decide_eq_true rfl) (by (simp only [Int.reduceAdd, Int.reduceMul, Int.reduceSub, Int.reduceFMod, Int.cast_ofNat_Int, Int.reduceToNat, List.cons_append, List.nil_append, List.getD_cons_zero, List.getD_cons_succ]; try exact rfl)) (by with_unfolding_all rfl) (by intro _; with_unfolding_all rfl) ?_); intro _ _ kbaLo kbaHi))
  k_with "binaryOp LShift int int" => (((with_reducible show wpAny _ _ (binaryOp _ _ (Value.int 8 _)) _ _ _); k_dflt ((refine' shl8 ?k1 ?k2 ?_); (case k1 => omega); (case k2 => omega); k_whole; intro _ _ v9 hv9)))
  k_with "binaryOp BitOr int int" => ((k_dflt ((refine' or8 ?k1 ?k2 ?k3 ?k4 ?_); (case k1 => assumption); (case k2 => omega); (case k3 => omega); (case k4 => omega); k_whole; intro _ _ v9 hv9)))
  k_with "binaryOp BitAnd int int" => (((with_reducible show wpAny _ _ (binaryOp _ _ (Value.int 255 _)) _ _ _); k_dflt ((refine' and8 ?_); k_whole; intro _ _ v9 q9 hv9 hv0 hv1)))
  k_with "binaryOp BitAnd int int" => (((with_reducible show wpAny _ _ (binaryOp _ _ (Value.int 65535 _)) _ _ _); k_dflt ((refine' and16 ?_); k_whole; intro _ _ v9 q9 hv9 hv0 hv1)))
  k_with "binaryOp RShift int int" => (((with_reducible show wpAny _ _ (binaryOp _ _ (Value.int 8 _)) _ _ _); k_dflt ((refine' shr8 ?_); k_whole; intro _ _ q9 v9 hv9 hv0 hv1)))
  k_with "binaryOp RShift int int" => (((with_reducible show wpAny _ _ (binaryOp _ _ (Value.int 16 _)) _ _ _); k_dflt ((refine' shr16 ?_); k_whole; intro _ _ q9 v9 hv9 hv0 hv1)))
  k_with "subscriptTail" => ((k_here; (with_reducible show wpAny _ _ (subscriptTail _ _ (Value.bytes _ _) (Value.int _ _)) _ _ _); (refine item_lit (by kba_ints) (by exact of_decide_eq_true rfl) (by exact of_decide_eq_true rfl) (by exact of_decide_eq_true rfl) (by (simp only [Int.reduceAdd, Int.reduceMul, Int.reduceSub, Int.reduceFMod, Int.cast_ofNat_Int, Int.reduceToNat, List.cons_append, List.nil_append, List.getD_cons_zero, List.getD_cons_succ]; try exact rfl)) (by with_unfolding_all rfl) (by intro _; with_unfolding_all rfl) ?_); intro _ _ kbaLo kbaHi))
  k_with "call builtin:len" => ((k_here; (with_reducible show wpAny _ _ (call (Value.builtin "len") [Value.bytes _ _]) _ _ _); (refine len_lit (by kba_ints) (by (simp only [List.cons_append, List.nil_append, List.length_cons, List.length_nil, Nat.reduceAdd]; try exact rfl)) (by exact of_decide_eq_true rfl) ?_); intro _ _))
  k_with "call type:range" => ((simp only [List.length_cons, List.length_nil, Nat.reduceAdd, Int.cast_ofNat_Int, Int.reduceFMod, Int.reduceSub, Int.reduceFDiv]; walk_at "call type:range"))
  k_with "call type:bytes" => ((k_here; (with_reducible show wpAny _ _ (call (Value.type "bytes") [Value.ref _]) _ _ _); k_dflt (refine' make_own ?kbaF ?kbaN ?kbah ?kbal ?kbai ?kbar ?kban ?_; (case kbaF => k_asm); (case kbaN => k_asm); (case kbah => rfl); (case kbal => kba_isList); (case kbai => kba_listInts); (case kbar => (intro k9z hk9; simp only [List.mem_cons, List.not_mem_nil, or_false] at hk9; omega)); (case kban => first | exact of_decide_eq_true rfl | kba_size)); intro _ _ _ b9 hb9 F' N'; (try k_sweep)))
  k_with "LeaveR" => ((refine leaveR_ (by k_asm) (by k_asm) (by kcf_all) ?_; intro kF kN; (try dsimp only)))
  k_with "subscriptTail" => ((k_here; (with_reducible show wpAny _ _ (subscriptTail _ _ (Value.bytes _ _) (Value.int _ _)) _ _ _); k_dflt (refine item_lit (by kba_ints) (by (simp only [List.length_append, List.length_cons, List.length_nil]; omega)) (by omega) (by (simp only [List.length_append, List.length_cons, List.length_nil]; omega)) (by (simp only [Int.reduceAdd, Int.reduceToNat, List.cons_append, List.nil_append, List.getD_cons_zero, List.getD_cons_succ]; try exact rfl)) (by with_unfolding_all rfl) (by intro _; with_unfolding_all rfl) ?_); intro _ _ kbaLo kbaHi))
  k_with "call builtin:len" => ((k_here; (with_reducible show wpAny _ _ (call (Value.builtin "len") [Value.bytes _ _]) _ _ _); (k_dflt (refine len_lit (by kba_ints) (by (simp only [List.length_append, List.length_cons, List.length_nil, Nat.reduceAdd]; try exact rfl)) (by omega) ?_); intro _ _)))
  obtain ⟨rfl, _, _, _, _, _, _, _, _, _, _, _, _, _, _, _, _, _, _, rfl⟩ := ho
  unfold CtR P0
  k_fill
  intro dp un gd cn cs a ccd cl outer A₀ base h₀ L m news s Q E B F X N hown T hk hd hu hret
  refine wpAny_call ?_
  k_dflt ((refine' code_defR ?k1 ?k2 ?k3 ?k4 ?kO ?k5 ?kA ?kF ?kK ?k6 ?k7 ?k8 ?k9 ?kB ?_ ?c2 ?c3 ?c4 ?c5; (case kA => exact rfl); (case kF => exact rfl); (case kK => assumption); (case k1 => k_asm); (case k2 => k_asm); (case k3 => k_asm); (case k4 => k_asm); (case kO => assumption); (case k5 => k_asm); (case k6 => k_is); (case k7 => k_is); (case k8 => ktr_room); (case k9 => first | exact BindsTo.of_eq rfl | exact binds_K (by k_in) rfl (by k_is) rfl rfl rfl); (case c5 => decide); (case kB => exact locs rfl); (case c2 => exact rfl); (case c3 => exact rfl); (case c4 => exact rfl); k_whole; intro g' L' h' F' N' B' X' T'; (try dsimp only); (try k_fold)))
  k_steps
  all_goals (rename Fr h₀ L _ m => kF; rename News h₀ L _ news => kN; first | exact hret _ _ _ (car_no (by assumption)) kF kN | exact hret _ _ _ (car_err (by assumption)) kF kN | exact hret _ _ _ (car_nil (by assumption)) kF kN | (exfalso; omega))
set_option maxHeartbeats 8000000 in
theorem car1_ct (w : World) (p : Program) (loose : List Str) (mean : ExcName → Option Value) (mg mb : Str → Option Value) (pr : Int) (x dx : Addr) (o1 o2 : Obj) (b : Array UInt8) (t : Tok) (k : Int) (ks : List Int) (ho : HdrOb w pr x dx o1 o2) (hb : KBw.bInts b = k :: ks) (hl : ks.length ≤ 2) :
    CtR w p loose mean mg mb 2 266 [.ref x, .bytes b t] [(x, o1), (dx, o2)] (CarOut pr (k :: ks)) := by
  k_with_none
  k_with "eval Constant int" => ((with_reducible refine const_fr ?_); intro _ _)
  k_with "binaryOp Add int int" => ((with_reducible refine add_fr ?_); intro _ _)
  k_with "inplaceOp Add int int" => ((with_reducible refine iadd_fr ?_); intro _ _)
  k_with "binaryOp Sub int int" => ((with_reducible refine sub_fr ?_); intro _ _)
  k_with "spliced" => (dsimp only)
  k_with "subscriptTail" => ((k_here; (with_reducible show wpAny _ _ (subscriptTail _ _ (Value.bytes _ _) (Value.int _ _)) _ _ _); (refine item_lit (by kba_ints) (by exact of_decide_eq_true rfl) (by exact of_decide_eq_true rfl) (by exact of_decide_eq_true rfl) (by (simp only [Int.reduceAdd, Int.reduceMul, Int.reduceSub, Int.reduceFMod, Int.cast_ofNat_Int, Int.reduceToNat, List.cons_append, List.nil_append, List.getD_cons_zero, List.getD_cons_succ]; try exact rfl)) (by with_unfolding_all rfl) (by intro _; with_unfolding_all rfl) ?_); intro _ _ kbaLo kbaHi))
  k_with "binaryOp LShift int int" => (((with_reducible show wpAny _ _ (binaryOp _ _ (Value.int 8 _)) _ _ _); k_dflt ((refine' shl8 ?k1 ?k2 ?_); (case k1 => omega); (case k2 => omega); k_whole; intro _ _ v9 hv9)))
  k_with "binaryOp BitOr int int" => ((k_dflt ((refine' or8 ?k1 ?k2 ?k3 ?k4 ?_); (case k1 => assumption); (case k2 => omega); (case k3 => omega); (case k4 => omega); k_whole; intro _ _ v9 hv9)))
  k_with "binaryOp BitAnd int int" => (((with_reducible show wpAny _ _ (binaryOp _ _ (Value.int 255 _)) _ _ _); k_dflt ((refine' and8 ?_); k_whole; intro _ _ v9 q9 hv9 hv0 hv1)))
  k_with "binaryOp BitAnd int int" => (((with_reducible show wpAny _ _ (binaryOp _ _ (Value.int 65535 _)) _ _ _); k_dflt ((refine' and16 ?_); k_whole; intro _ _ v9 q9 hv9 hv0 hv1)))
  k_with "binaryOp RShift int int" => (((with_reducible show wpAny _ _ (binaryOp _ _ (Value.int 8 _)) _ _ _); k_dflt ((refine' shr8 ?_); k_whole; intro _ _ q9 v9 hv9 hv0 hv1)))
  k_with "binaryOp RShift int int" => (((with_reducible show wpAny _ _ (binaryOp _ _ (Value.int 16 _)) _ _ _); k_dflt ((refine' shr16 ?_); k_whole; intro _ _ q9 v9 hv9 hv0 hv1)))
  k_with "subscriptTail" => ((k_here; (with_reducible show wpAny _ _ (subscriptTail _ _ (Value.bytes _ _) (Value.int _ _)) _ _ _); (refine item_lit (by kba_ints) (by exact of_decide_eq_true rfl) (by exact of_decide_eq_true rfl) (by exact of_decide_eq_true rfl) (by (simp only [Int.reduceAdd, Int.reduceMul, Int.reduceSub, Int.reduceFMod, Int.cast_ofNat_Int, Int.reduceToNat, List.cons_append, List.nil_append, List.getD_cons_zero, List.getD_cons_succ]; try exact rfl)) (by with_unfolding_all rfl) (by intro _; with_unfolding_all rfl) ?_); intro _ _ kbaLo kbaHi))
  k_with "call builtin:len" => ((k_here; (with_reducible show wpAny _ _ (call (Value.builtin "len") [Value.bytes _ _]) _ _ _); (refine len_lit (by kba_ints) (by (simp only [List.cons_append, List.nil_append, List.length_cons, List.length_nil, Nat.reduceAdd]; try exact rfl)) (by exact of_decide_eq_true rfl) ?_); intro _ _))
  k_with "call type:range" => ((simp only [List.length_cons, List.length_nil, Nat.reduceAdd, Int.cast_ofNat_Int, Int.reduceFMod, Int.reduceSub, Int.reduceFDiv]; walk_at "call type:range"))
  k_with "call type:bytes" => ((k_here; (with_reducible show wpAny _ _ (call (Value.type "bytes") [Value.ref _]) _ _ _); k_dflt (refine' make_own ?kbaF ?kbaN ?kbah ?kbal ?kbai ?kbar ?kban ?_; (case kbaF => k_asm); (case kbaN => k_asm); (case kbah => rfl); (case kbal => kba_isList); (case kbai => kba_listInts); (case kbar => (intro k9z hk9; simp only [List.mem_cons, List.not_mem_nil, or_false] at hk9; omega)); (case kban => first | exact of_decide_eq_true rfl | kba_size)); intro _ _ _ b9 hb9 F' N'; (try k_sweep)))
  k_with "LeaveR" => ((refine leaveR_ (by k_asm) (by k_asm) (by kcf_all) ?_; intro kF kN; (try dsimp only)))
  k_with "subscriptTail" => ((k_here; (with_reducible show wpAny _ _ (subscriptTail _ _ (Value.bytes _ _) (Value.int _ _)) _ _ _); k_dflt (refine item_lit (by kba_ints) (by (simp only [List.length_append, List.length_cons, List.length_nil]; omega)) (by omega) (by (simp only [List.length_append, List.length_cons, List.length_nil]; omega)) (by (simp only [Int.reduceAdd, Int.reduceToNat, List.cons_append, List.nil_append, List.getD_cons_zero, List.getD_cons_succ]; try exact rfl)) (by with_unfolding_all rfl) (by intro _; with_unfolding_all rfl) ?_); intro _ _ kbaLo kbaHi))
  k_with "call builtin:len" => ((k_here; (with_reducible show wpAny _ _ (call (Value.builtin "len") [Value.bytes _ _]) _ _ _); (k_dflt (refine len_lit (by kba_ints) (by (simp only [List.length_append, List.length_cons, List.length_nil, Nat.reduceAdd]; try exact rfl)) (by omega) ?_); intro _ _)))
  obtain ⟨rfl, _, _, _, _, _, _, _, _, _, _, _, _, _, _, _, _, _, _, rfl⟩ := ho
  unfold CtR P0
  k_fill
  intro dp un gd cn cs a ccd cl outer A₀ base h₀ L m news s Q E B F X N hown T hk hd hu hret
  refine wpAny_call ?_
  k_dflt ((refine' code_defR ?k1 ?k2 ?k3 ?k4 ?kO ?k5 ?kA ?kF ?kK ?k6 ?k7 ?k8 ?k9 ?kB ?_ ?c2 ?c3 ?c4 ?c5; (case kA => exact rfl); (case kF => exact rfl); (case kK => assumption); (case k1 => k_asm); (case k2 => k_asm); (case k3 => k_asm); (case k4 => k_asm); (case kO => assumption); (case k5 => k_asm); (case k6 => k_is); (case k7 => k_is); (case k8 => ktr_room); (case k9 => first | exact BindsTo.of_eq rfl | exact binds_K (by k_in) rfl (by k_is) rfl rfl rfl); (case c5 => decide); (case kB => exact locs rfl); (case c2 => exact rfl); (case c3 => exact rfl); (case c4 => exact rfl); k_whole; intro g' L' h' F' N' B' X' T'; (try dsimp only); (try k_fold)))
  k_steps
  all_goals (rename Fr h₀ L _ m => kF; rename News h₀ L _ news => kN; first | exact hret _ _ _ (car_no (by assumption)) kF kN | exact hret _ _ _ (car_err (by assumption)) kF kN | exact hret _ _ _ (car_nil (by assumption)) kF kN | (exfalso; omega))

def carV (pr : Int) : List Int → Bool
  | [] => decide (pr = 1)
  | k :: _ => decide (pr = 1) && errK k
section
variable {w : World} {p : Program} {loose : List Str} {mean : ExcName → Option Value} {mg mb : Str → Option Value}
  {dp un : Nat} {gd : Option (List Code)} {cn : Str} {cs : Scope} {a : Addr} {ccd : Value} {cl : List (Str × Addr)} {outer : List Env} {A₀ : Around} {base h₀ : Heap} {L : Addr} {m : Str → Option Value} {s : Shared} {Q E : Value → Shared → Prop} {news : List (Addr × Obj)}
theorem car_use {pr : Int} {x dx : Addr} {o1 o2 : Obj} {b : Array UInt8} {t : Tok} {ks : List Int} {v : Bool} (B : Below A₀ base outer h₀) (F : Fr h₀ L s.heap m) (X : (K9 w.params).In h₀) (N : News h₀ L s.heap news) (hm1 : (x, o1) ∈ news) (hm2 : (dx, o2) ∈ news) (ho : HdrOb w pr x dx o1 o2)
    (T : Top p loose mean mg mb h₀) (hk : cs.kind = .function) (hb : KBw.bInts b = ks) (hl : ks.length ≤ 3) (e : carV pr ks = v) (hd : dp + 2 < recursionLimit) (hu : un + 8 * 2 < cLine)
    (ret : ∀ h' tk', Fr h₀ L h' m → News h₀ L h' news → Q (.bool v) { s with heap := h', toks := tk' }) :
    wpAny (model P0 w) (ktrTop dp un gd cn cs L a ccd cl outer) (call (.ref 266) [.ref x, .bytes b t]) Q E s := by
  have own : ∀ q ∈ [(x, o1), (dx, o2)], q ∈ news := by
    intro q hq
    rcases List.mem_cons.mp hq with rfl | hq
    · exact hm1
    · rw [List.mem_singleton.mp hq]; exact hm2
  subst e
  cases ks with
  | nil =>
    refine car0_ct w p loose mean mg mb pr x dx o1 o2 b t ho hb _ _ _ _ _ _ _ _ _ _ _ _ _ _ _ _ _ _ B F X N own T hk hd hu ?_
    rintro _ h' tk' rfl F' N'
    have e : carV pr [] = (decide (pr = 1) && true) := (Bool.and_true _).symm
    exact e ▸ ret h' tk' F' N'
  | cons k ks =>
    refine car1_ct w p loose mean mg mb pr x dx o1 o2 b t k ks ho hb (by simpa using hl) _ _ _ _ _ _ _ _ _ _ _ _ _ _ _ _ _ _ B F X N own T hk hd hu ?_
    rintro _ h' tk' rfl F' N'
    exact ret h' tk' F' N'
end

-- Pack
open PySem.Calls
/-- what pack_icmp gives -/
def PackOut (kd cd : Int) (ks : List Int) (r : Value) : Prop := ∃ b t r0 r1 r2 r3 v1 v2, r = .bytes b t ∧ KBw.bInts b = ([kd, cd] ++ [v1, v2]) ++ (([r0, r1] ++ [r2, r3]) ++ ks) ∧ ∀ W, WFact (([kd, cd] ++ [v1, v2]) ++ (([r0, r1] ++ [r2, r3]) ++ ks)) W → W = 65535
theorem wsum8 {a0 a1 a2 a3 a4 a5 a6 a7 : Int} {ks : List Int} : wsum (([a0, a1] ++ [a2, a3]) ++ (([a4, a5] ++ [a6, a7]) ++ ks)) = a0 * 256 + a1 + (a2 * 256 + a3) + (a4 * 256 + a5) + (a6 * 256 + a7) + wsum ks := by
  show a0 * 256 + a1 + (a2 * 256 + a3 + (a4 * 256 + a5 + (a6 * 256 + a7 + wsum ks))) = _
  omega
theorem pack_words {kd cd z1 z2 r0 r1 r2 r3 v1 v2 c : Int} {ks : List Int} (hf : FoldIn (wsum (([kd, cd] ++ [z1, z2]) ++ (([r0, r1] ++ [r2, r3]) ++ ks))) c) (hc : c ≤ 65535)
    (ev : ∃ q, 65535 - c = q * 65536 + v1 * 256 + v2) (v10 : 0 ≤ v1) (v11 : v1 < 256) (v20 : 0 ≤ v2) (v21 : v2 < 256)
    (ez : ∃ q, (0 : Int) = q * 65536 + z1 * 256 + z2) (z10 : 0 ≤ z1) (z11 : z1 < 256) (z20 : 0 ≤ z2) (z21 : z2 < 256) :
    ∀ W, WFact (([kd, cd] ++ [v1, v2]) ++ (([r0, r1] ++ [r2, r3]) ++ ks)) W → W = 65535 := by
  intro W hW
  obtain ⟨w0, w1, ⟨q, hq⟩, w2⟩ := hW
  obtain ⟨f0, ⟨k, k0, hk⟩, f1⟩ := hf
  obtain ⟨qv, hv⟩ := ev
  obtain ⟨qz, hz⟩ := ez
  rw [wsum8] at hq w2 hk f1
  generalize wsum ks = S at hq w2 hk f1
  omega
set_option maxHeartbeats 8000000 in
theorem pack_ct (w : World) (p : Program) (loose : List Str) (mean : ExcName → Option Value) (mg mb : Str → Option Value) (kd cd rs : Int) (x dx : Addr) (o1 o2 : Obj) (b : Array UInt8) (ks : List Int) (ho : MsgOb w kd cd rs b x dx o1 o2) (hb : KBw.bInts b = ks) (hl : ks.length ≤ 3)
    (k0 : 0 ≤ kd) (k1 : kd < 256) (c0 : 0 ≤ cd) (c1 : cd < 256) (r0 : 0 ≤ rs) (r1 : rs < 4294967296) :
    CtR w p loose mean mg mb 4 181 [.ref x] [(x, o1), (dx, o2)] (PackOut kd cd ks) := by
  k_with_none
  k_with "eval Constant int" => ((with_reducible refine const_fr ?_); intro _ _)
  k_with "binaryOp Add int int" => ((with_reducible refine add_fr ?_); intro _ _)
  k_with "inplaceOp Add int int" => ((with_reducible refine iadd_fr ?_); intro _ _)
  k_with "binaryOp Sub int int" => ((with_reducible refine sub_fr ?_); intro _ _)
  k_with "spliced" => (dsimp only)
  k_with "subscriptTail" => ((k_here; (with_reducible show wpAny _ _ (subscriptTail _ _ (Value.bytes _ _) (Value.int _ _)) _ _ _); (refine item_lit (by kba_ints) (by exact of_decide_eq_true rfl) (by exact of_decide_eq_true rfl) (by exact of_decide_eq_true rfl) (by (simp only [Int.reduceAdd, Int.reduceMul, Int.reduceSub, Int.reduceFMod, Int.cast_ofNat_Int, Int.reduceToNat, List.cons_append, List.nil_append, List.getD_cons_zero, List.getD_cons_succ]; try exact rfl)) (by with_unfolding_all rfl) (by intro _; with_unfolding_all rfl) ?_); intro _ _ kbaLo kbaHi))
  k_with "binaryOp LShift int int" => (((with_reducible show wpAny _ _ (binaryOp _ _ (Value.int 8 _)) _ _ _); k_dflt ((refine' shl8 ?k1 ?k2 ?_); (case k1 => omega); (case k2 => omega); k_whole; intro _ _ v9 hv9)))
  k_with "binaryOp BitOr int int" => ((k_dflt ((refine' or8 ?k1 ?k2 ?k3 ?k4 ?_); (case k1 => assumption); (case k2 => omega); (case k3 => omega); (case k4 => omega); k_whole; intro _ _ v9 hv9)))
  k_with "binaryOp BitAnd int int" => (((with_reducible show wpAny _ _ (binaryOp _ _ (Value.int 255 _)) _ _ _); k_dflt ((refine' and8 ?_); k_whole; intro _ _ v9 q9 hv9 hv0 hv1)))
  k_with "binaryOp BitAnd int int" => (((with_reducible show wpAny _ _ (binaryOp _ _ (Value.int 65535 _)) _ _ _); k_dflt ((refine' and16 ?_); k_whole; intro _ _ v9 q9 hv9 hv0 hv1)))
  k_with "binaryOp RShift int int" => (((with_reducible show wpAny _ _ (binaryOp _ _ (Value.int 8 _)) _ _ _); k_dflt ((refine' shr8 ?_); k_whole; intro _ _ q9 v9 hv9 hv0 hv1)))
  k_with "binaryOp RShift int int" => (((with_reducible show wpAny _ _ (binaryOp _ _ (Value.int 16 _)) _ _ _); k_dflt ((refine' shr16 ?_); k_whole; intro _ _ q9 v9 hv9 hv0 hv1)))
  k_with "subscriptTail" => ((k_here; (with_reducible show wpAny _ _ (subscriptTail _ _ (Value.bytes _ _) (Value.int _ _)) _ _ _); (refine item_lit (by kba_ints) (by exact of_decide_eq_true rfl) (by exact of_decide_eq_true rfl) (by exact of_decide_eq_true rfl) (by (simp only [Int.reduceAdd, Int.reduceMul, Int.reduceSub, Int.reduceFMod, Int.cast_ofNat_Int, Int.reduceToNat, List.cons_append, List.nil_append, List.getD_cons_zero, List.getD_cons_succ]; try exact rfl)) (by with_unfolding_all rfl) (by intro _; with_unfolding_all rfl) ?_); intro _ _ kbaLo kbaHi))
  k_with "call builtin:len" => ((k_here; (with_reducible show wpAny _ _ (call (Value.builtin "len") [Value.bytes _ _]) _ _ _); (refine len_lit (by kba_ints) (by (simp only [List.cons_append, List.nil_append, List.length_cons, List.length_nil, Nat.reduceAdd]; try exact rfl)) (by exact of_decide_eq_true rfl) ?_); intro _ _))
  k_with "call type:range" => ((simp only [List.length_cons, List.length_nil, Nat.reduceAdd, Int.cast_ofNat_Int, Int.reduceFMod, Int.reduceSub, Int.reduceFDiv]; walk_at "call type:range"))
  k_with "call type:bytes" => ((k_here; (with_reducible show wpAny _ _ (call (Value.type "bytes") [Value.ref _]) _ _ _); k_dflt (refine' make_own ?kbaF ?kbaN ?kbah ?kbal ?kbai ?kbar ?kban ?_; (case kbaF => k_asm); (case kbaN => k_asm); (case kbah => rfl); (case kbal => kba_isList); (case kbai => kba_listInts); (case kbar => (intro k9z hk9; simp only [List.mem_cons, List.not_mem_nil, or_false] at hk9; omega)); (case kban => first | exact of_decide_eq_true rfl | kba_size)); intro _ _ _ b9 hb9 F' N'; (try k_sweep)))
  k_with "LeaveR" => ((refine leaveR_ (by k_asm) (by k_asm) (by kcf_all) ?_; intro kF kN; (try dsimp only)))
  k_with "subscriptTail" => ((k_here; (with_reducible show wpAny _ _ (subscriptTail _ _ (Value.bytes _ _) (Value.int _ _)) _ _ _); k_dflt (refine item_lit (by kba_ints) (by (simp only [List.length_append, List.length_cons, List.length_nil]; omega)) (by omega) (by (simp only [List.length_append, List.length_cons, List.length_nil]; omega)) (by (simp only [Int.reduceAdd, Int.reduceToNat, List.cons_append, List.nil_append, List.getD_cons_zero, List.getD_cons_succ]; try exact rfl)) (by with_unfolding_all rfl) (by intro _; with_unfolding_all rfl) ?_); intro _ _ kbaLo kbaHi))
  k_with "call builtin:len" => ((k_here; (with_reducible show wpAny _ _ (call (Value.builtin "len") [Value.bytes _ _]) _ _ _); (k_dflt (refine len_lit (by kba_ints) (by (simp only [List.length_append, List.length_cons, List.length_nil, Nat.reduceAdd]; try exact rfl)) (by omega) ?_); intro _ _)))
  k_with "call ref" => ((
  (with_reducible show wpAny _ _ (call (Value.ref 60) [Value.int _ _]) _ _ _);
  k_dflt (refine' put16_use ?k1 ?k2 ?k3 ?k4 ?k5 ?kK ?kd ?ku ?_);
  (case k1 => k_dflt (k_asm)); (case k2 => k_dflt (k_asm)); (case k3 => k_dflt (k_asm)); (case k4 => k_dflt (k_asm)); (case k5 => k_dflt (k_asm)); (case kK => k_dflt (exact rfl)); (case kd => k_dflt (ktr_room)); (case ku => k_dflt (ktr_units));
  k_whole; intro b9 v91 v92 t9 h9 tk9 hb9 hv90 hv91 hv92 hv93 hv94 F9 N9; (try k_sweep); (try dsimp only); (try k_fold)))
  k_with "call ref" => ((
  (with_reducible show wpAny _ _ (call (Value.ref 67) [Value.int _ _]) _ _ _);
  k_dflt (refine' put32_use ?k1 ?k2 ?k3 ?k4 ?k5 ?kK ?kd ?ku ?_);
  (case k1 => k_dflt (k_asm)); (case k2 => k_dflt (k_asm)); (case k3 => k_dflt (k_asm)); (case k4 => k_dflt (k_asm)); (case k5 => k_dflt (k_asm)); (case kK => k_dflt (exact rfl)); (case kd => k_dflt (ktr_room)); (case ku => k_dflt (ktr_units));
  k_whole; intro b9 v90 v91 v92 v93 t9 h9 tk9 hb9 F9 N9; (try k_sweep); (try dsimp only); (try k_fold)))
  k_with "call ref" => ((
  (with_reducible show wpAny _ _ (call (Value.ref 104) [Value.bytes _ _]) _ _ _);
  k_dflt (refine' ck_use ?k1 ?k2 ?k3 ?k4 ?k5 ?kK ?kb ?kl1 ?kd ?ku ?_);
  (case k1 => k_dflt (k_asm)); (case k2 => k_dflt (k_asm)); (case k3 => k_dflt (k_asm)); (case k4 => k_dflt (k_asm)); (case k5 => k_dflt (k_asm)); (case kK => k_dflt (exact rfl)); (case kb => k_dflt (kba_ints)); (case kl1 => k_dflt (simp only [List.length_append, List.length_cons, List.length_nil]; omega)); (case kd => k_dflt (ktr_room)); (case ku => k_dflt (ktr_units));
  k_whole; intro c9 t9 h9 tk9 hf9 hc9 F9 N9; (try k_sweep); (try dsimp only); (try k_fold)))
  obtain ⟨rfl, _, _, _, _, _, _, _, _, rfl⟩ := ho
  unfold CtR P0
  k_fill
  intro dp un gd cn cs a ccd cl outer A₀ base h₀ L m news s Q E B F X N hown T hk hd hu hret
  refine wpAny_call ?_
  k_dflt ((refine' code_defR ?k1 ?k2 ?k3 ?k4 ?kO ?k5 ?kA ?kF ?kK ?k6 ?k7 ?k8 ?k9 ?kB ?_ ?c2 ?c3 ?c4 ?c5; (case kA => exact rfl); (case kF => exact rfl); (case kK => assumption); (case k1 => k_asm); (case k2 => k_asm); (case k3 => k_asm); (case k4 => k_asm); (case kO => assumption); (case k5 => k_asm); (case k6 => k_is); (case k7 => k_is); (case k8 => ktr_room); (case k9 => first | exact BindsTo.of_eq rfl | exact binds_K (by k_in) rfl (by k_is) rfl rfl rfl); (case c5 => decide); (case kB => exact locs rfl); (case c2 => exact rfl); (case c3 => exact rfl); (case c4 => exact rfl); k_whole; intro g' L' h' F' N' B' X' T'; (try dsimp only); (try k_fold)))
  k_steps
  rename Fr h₀ L _ m => kF
  rename News h₀ L _ news => kN
  exact hret _ _ _ ⟨_, _, _, _, _, _, _, _, rfl, by assumption, pack_words (by assumption) (by assumption) (by assumption) (by assumption) (by assumption) (by assumption) (by assumption) (by assumption) (by assumption) (by assumption) (by assumption) (by assumption)⟩ kF kN
set_option maxHeartbeats 8000000 in
theorem told_ct (w : World) (p : Program) (loose : List Str) (mean : ExcName → Option Value) (mg mb : Str → Option Value) (kd cd rs : Int) (x dx : Addr) (o1 o2 : Obj) (b : Array UInt8) (ks : List Int) (ho : MsgOb w kd cd rs b x dx o1 o2) (hb : KBw.bInts b = ks) (hl : ks.length ≤ 3) :
    CtR w p loose mean mg mb 2 273 [.ref x] [(x, o1), (dx, o2)] (fun r => ∃ t, r = .int (8 + (ks.length : Int)) t) := by
  k_with_none
  k_with "eval Constant int" => ((with_reducible refine const_fr ?_); intro _ _)
  k_with "binaryOp Add int int" => ((with_reducible refine add_fr ?_); intro _ _)
  k_with "inplaceOp Add int int" => ((with_reducible refine iadd_fr ?_); intro _ _)
  k_with "binaryOp Sub int int" => ((with_reducible refine sub_fr ?_); intro _ _)
  k_with "spliced" => (dsimp only)
  k_with "subscriptTail" => ((k_here; (with_reducible show wpAny _ _ (subscriptTail _ _ (Value.bytes _ _) (Value.int _ _)) _ _ _); (refine item_lit (by kba_ints) (by exact of_decide_eq_true rfl) (by exact of_decide_eq_true rfl) (by exact of_decide_eq_true rfl) (by (simp only [Int.reduceAdd, Int.reduceMul, Int.reduceSub, Int.reduceFMod, Int.cast_ofNat_Int, Int.reduceToNat, List.cons_append, List.nil_append, List.getD_cons_zero, List.getD_cons_succ]; try exact rfl)) (by with_unfolding_all rfl) (by intro _; with_unfolding_all rfl) ?_); intro _ _ kbaLo kbaHi))
  k_with "binaryOp LShift int int" => (((with_reducible show wpAny _ _ (binaryOp _ _ (Value.int 8 _)) _ _ _); k_dflt ((refine' shl8 ?k1 ?k2 ?_); (case k1 => omega); (case k2 => omega); k_whole; intro _ _ v9 hv9)))
  k_with "binaryOp BitOr int int" => ((k_dflt ((refine' or8 ?k1 ?k2 ?k3 ?k4 ?_); (case k1 => assumption); (case k2 => omega); (case k3 => omega); (case k4 => omega); k_whole; intro _ _ v9 hv9)))
  k_with "binaryOp BitAnd int int" => (((with_reducible show wpAny _ _ (binaryOp _ _ (Value.int 255 _)) _ _ _); k_dflt ((refine' and8 ?_); k_whole; intro _ _ v9 q9 hv9 hv0 hv1)))
  k_with "binaryOp BitAnd int int" => (((with_reducible show wpAny _ _ (binaryOp _ _ (Value.int 65535 _)) _ _ _); k_dflt ((refine' and16 ?_); k_whole; intro _ _ v9 q9 hv9 hv0 hv1)))
  k_with "binaryOp RShift int int" => (((with_reducible show wpAny _ _ (binaryOp _ _ (Value.int 8 _)) _ _ _); k_dflt ((refine' shr8 ?_); k_whole; intro _ _ q9 v9 hv9 hv0 hv1)))
  k_with "binaryOp RShift int int" => (((with_reducible show wpAny _ _ (binaryOp _ _ (Value.int 16 _)) _ _ _); k_dflt ((refine' shr16 ?_); k_whole; intro _ _ q9 v9 hv9 hv0 hv1)))
  k_with "subscriptTail" => ((k_here; (with_reducible show wpAny _ _ (subscriptTail _ _ (Value.bytes _ _) (Value.int _ _)) _ _ _); (refine item_lit (by kba_ints) (by exact of_decide_eq_true rfl) (by exact of_decide_eq_true rfl) (by exact of_decide_eq_true rfl) (by (simp only [Int.reduceAdd, Int.reduceMul, Int.reduceSub, Int.reduceFMod, Int.cast_ofNat_Int, Int.reduceToNat, List.cons_append, List.nil_append, List.getD_cons_zero, List.getD_cons_succ]; try exact rfl)) (by with_unfolding_all rfl) (by intro _; with_unfolding_all rfl) ?_); intro _ _ kbaLo kbaHi))
  k_with "call builtin:len" => ((k_here; (with_reducible show wpAny _ _ (call (Value.builtin "len") [Value.bytes _ _]) _ _ _); (refine len_lit (by kba_ints) (by (simp only [List.cons_append, List.nil_append, List.length_cons, List.length_nil, Nat.reduceAdd]; try exact rfl)) (by exact of_decide_eq_true rfl) ?_); intro _ _))
  k_with "call type:range" => ((simp only [List.length_cons, List.length_nil, Nat.reduceAdd, Int.cast_ofNat_Int, Int.reduceFMod, Int.reduceSub, Int.reduceFDiv]; walk_at "call type:range"))
  k_with "call type:bytes" => ((k_here; (with_reducible show wpAny _ _ (call (Value.type "bytes") [Value.ref _]) _ _ _); k_dflt (refine' make_own ?kbaF ?kbaN ?kbah ?kbal ?kbai ?kbar ?kban ?_; (case kbaF => k_asm); (case kbaN => k_asm); (case kbah => rfl); (case kbal => kba_isList); (case kbai => kba_listInts); (case kbar => (intro k9z hk9; simp only [List.mem_cons, List.not_mem_nil, or_false] at hk9; omega)); (case kban => first | exact of_decide_eq_true rfl | kba_size)); intro _ _ _ b9 hb9 F' N'; (try k_sweep)))
  k_with "LeaveR" => ((refine leaveR_ (by k_asm) (by k_asm) (by kcf_all) ?_; intro kF kN; (try dsimp only)))
  k_with "subscriptTail" => ((k_here; (with_reducible show wpAny _ _ (subscriptTail _ _ (Value.bytes _ _) (Value.int _ _)) _ _ _); k_dflt (refine item_lit (by kba_ints) (by (simp only [List.length_append, List.length_cons, List.length_nil]; omega)) (by omega) (by (simp only [List.length_append, List.length_cons, List.length_nil]; omega)) (by (simp only [Int.reduceAdd, Int.reduceToNat, List.cons_append, List.nil_append, List.getD_cons_zero, List.getD_cons_succ]; try exact rfl)) (by with_unfolding_all rfl) (by intro _; with_unfolding_all rfl) ?_); intro _ _ kbaLo kbaHi))
  k_with "call builtin:len" => ((k_here; (with_reducible show wpAny _ _ (call (Value.builtin "len") [Value.bytes _ _]) _ _ _); (k_dflt (refine len_lit (by kba_ints) (by (simp only [List.length_append, List.length_cons, List.length_nil, Nat.reduceAdd]; try exact rfl)) (by omega) ?_); intro _ _)))
  k_with "call ref" => ((
  (with_reducible show wpAny _ _ (call (Value.ref 60) [Value.int _ _]) _ _ _);
  k_dflt (refine' put16_use ?k1 ?k2 ?k3 ?k4 ?k5 ?kK ?kd ?ku ?_);
  (case k1 => k_dflt (k_asm)); (case k2 => k_dflt (k_asm)); (case k3 => k_dflt (k_asm)); (case k4 => k_dflt (k_asm)); (case k5 => k_dflt (k_asm)); (case kK => k_dflt (exact rfl)); (case kd => k_dflt (ktr_room)); (case ku => k_dflt (ktr_units));
  k_whole; intro b9 v91 v92 t9 h9 tk9 hb9 hv90 hv91 hv92 hv93 hv94 F9 N9; (try k_sweep); (try dsimp only); (try k_fold)))
  k_with "call ref" => ((
  (with_reducible show wpAny _ _ (call (Value.ref 67) [Value.int _ _]) _ _ _);
  k_dflt (refine' put32_use ?k1 ?k2 ?k3 ?k4 ?k5 ?kK ?kd ?ku ?_);
  (case k1 => k_dflt (k_asm)); (case k2 => k_dflt (k_asm)); (case k3 => k_dflt (k_asm)); (case k4 => k_dflt (k_asm)); (case k5 => k_dflt (k_asm)); (case kK => k_dflt (exact rfl)); (case kd => k_dflt (ktr_room)); (case ku => k_dflt (ktr_units));
  k_whole; intro b9 v90 v91 v92 v93 t9 h9 tk9 hb9 F9 N9; (try k_sweep); (try dsimp only); (try k_fold)))
  k_with "call ref" => ((
  (with_reducible show wpAny _ _ (call (Value.ref 104) [Value.bytes _ _]) _ _ _);
  k_dflt (refine' ck_use ?k1 ?k2 ?k3 ?k4 ?k5 ?kK ?kb ?kl1 ?kd ?ku ?_);
  (case k1 => k_dflt (k_asm)); (case k2 => k_dflt (k_asm)); (case k3 => k_dflt (k_asm)); (case k4 => k_dflt (k_asm)); (case k5 => k_dflt (k_asm)); (case kK => k_dflt (exact rfl)); (case kb => k_dflt (kba_ints)); (case kl1 => k_dflt (simp only [List.length_append, List.length_cons, List.length_nil]; omega)); (case kd => k_dflt (ktr_room)); (case ku => k_dflt (ktr_units));
  k_whole; intro c9 t9 h9 tk9 hf9 hc9 F9 N9; (try k_sweep); (try dsimp only); (try k_fold)))
  obtain ⟨rfl, _, _, _, _, _, _, _, _, rfl⟩ := ho
  unfold CtR P0
  k_fill
  intro dp un gd cn cs a ccd cl outer A₀ base h₀ L m news s Q E B F X N hown T hk hd hu hret
  refine wpAny_call ?_
  k_dflt ((refine' code_defR ?k1 ?k2 ?k3 ?k4 ?kO ?k5 ?kA ?kF ?kK ?k6 ?k7 ?k8 ?k9 ?kB ?_ ?c2 ?c3 ?c4 ?c5; (case kA => exact rfl); (case kF => exact rfl); (case kK => assumption); (case k1 => k_asm); (case k2 => k_asm); (case k3 => k_asm); (case k4 => k_asm); (case kO => assumption); (case k5 => k_asm); (case k6 => k_is); (case k7 => k_is); (case k8 => ktr_room); (case k9 => first | exact BindsTo.of_eq rfl | exact binds_K (by k_in) rfl (by k_is) rfl rfl rfl); (case c5 => decide); (case kB => exact locs rfl); (case c2 => exact rfl); (case c3 => exact rfl); (case c4 => exact rfl); k_whole; intro g' L' h' F' N' B' X' T'; (try dsimp only); (try k_fold)))
  k_steps
  rename Fr h₀ L _ m => kF
  rename News h₀ L _ news => kN
  exact hret _ _ _ ⟨_, rfl⟩ kF kN

theorem two_own {x dx : Addr} {o1 o2 : Obj} {news : List (Addr × Obj)} (hm1 : (x, o1) ∈ news) (hm2 : (dx, o2) ∈ news) : ∀ q ∈ [(x, o1), (dx, o2)], q ∈ news := by
  intro q hq
  rcases List.mem_cons.mp hq with rfl | hq
  · exact hm1
  · rw [List.mem_singleton.mp hq]; exact hm2
section
variable {w : World} {p : Program} {loose : List Str} {mean : ExcName → Option Value} {mg mb : Str → Option Value}
  {dp un : Nat} {gd : Option (List Code)} {cn : Str} {cs : Scope} {a : Addr} {ccd : Value} {cl : List (Str × Addr)} {outer : List Env} {A₀ : Around} {base h₀ : Heap} {L : Addr} {m : Str → Option Value} {s : Shared} {Q E : Value → Shared → Prop} {news : List (Addr × Obj)}
theorem pack_use {kd cd rs : Int} {x dx : Addr} {o1 o2 : Obj} {b : Array UInt8} {ks : List Int} (B : Below A₀ base outer h₀) (F : Fr h₀ L s.heap m) (X : (K9 w.params).In h₀) (N : News h₀ L s.heap news) (hm1 : (x, o1) ∈ news) (hm2 : (dx, o2) ∈ news) (ho : MsgOb w kd cd rs b x dx o1 o2)
    (T : Top p loose mean mg mb h₀) (hk : cs.kind = .function) (hb : KBw.bInts b = ks) (hl : ks.length ≤ 3) (k0 : 0 ≤ kd) (k1 : kd < 256) (c0 : 0 ≤ cd) (c1 : cd < 256) (r0 : 0 ≤ rs) (r1 : rs < 4294967296) (hd : dp + 4 < recursionLimit) (hu : un + 8 * 4 < cLine)
    (ret : ∀ b' t' a0 a1 a2 a3 v1 v2 h' tk', KBw.bInts b' = ([kd, cd] ++ [v1, v2]) ++ (([a0, a1] ++ [a2, a3]) ++ ks) → (∀ W, WFact (([kd, cd] ++ [v1, v2]) ++ (([a0, a1] ++ [a2, a3]) ++ ks)) W → W = 65535) → Fr h₀ L h' m → News h₀ L h' news → Q (.bytes b' t') { s with heap := h', toks := tk' }) :
    wpAny (model P0 w) (ktrTop dp un gd cn cs L a ccd cl outer) (call (.ref 181) [.ref x]) Q E s := by
  refine pack_ct w p loose mean mg mb kd cd rs x dx o1 o2 b ks ho hb hl k0 k1 c0 c1 r0 r1 _ _ _ _ _ _ _ _ _ _ _ _ _ _ _ _ _ _ B F X N (two_own hm1 hm2) T hk hd hu ?_
  rintro _ h' tk' ⟨b', t', a0, a1, a2, a3, v1, v2, rfl, h1, h2⟩ F' N'
  exact ret b' t' a0 a1 a2 a3 v1 v2 h' tk' h1 h2 F' N'
theorem told_use {kd cd rs : Int} {x dx : Addr} {o1 o2 : Obj} {b : Array UInt8} {ks : List Int} (B : Below A₀ base outer h₀) (F : Fr h₀ L s.heap m) (X : (K9 w.params).In h₀) (N : News h₀ L s.heap news) (hm1 : (x, o1) ∈ news) (hm2 : (dx, o2) ∈ news) (ho : MsgOb w kd cd rs b x dx o1 o2)
    (T : Top p loose mean mg mb h₀) (hk : cs.kind = .function) (hb : KBw.bInts b = ks) (hl : ks.length ≤ 3) (hd : dp + 2 < recursionLimit) (hu : un + 8 * 2 < cLine)
    (ret : ∀ t' h' tk', Fr h₀ L h' m → News h₀ L h' news → Q (.int (8 + (ks.length : Int)) t') { s with heap := h', toks := tk' }) :
    wpAny (model P0 w) (ktrTop dp un gd cn cs L a ccd cl outer) (call (.ref 273) [.ref x]) Q E s := by
  refine told_ct w p loose mean mg mb kd cd rs x dx o1 o2 b ks ho hb hl _ _ _ _ _ _ _ _ _ _ _ _ _ _ _ _ _ _ B F X N (two_own hm1 hm2) T hk hd hu ?_
  rintro _ h' tk' ⟨t', rfl⟩ F' N'
  exact ret t' h' tk' F' N'
end

-- Meth
open PySem.Calls

def LeaveB (h₀ : Heap) (L : Addr) (m : Str → Option Value) (g : Heap) (x : Addr) (ox : Obj) (d : Addr) (o : Obj) (news : List (Addr × Obj)) (R : Result → Shared → Prop) (v : Value) (s' : Shared) : Prop :=
  ∃ L' m' news' o', Fr g L' s'.heap m' ∧ News g L' s'.heap news' ∧ (x, ox) ∈ news' ∧ (d, o') ∈ news' ∧ (Fr h₀ L s'.heap m → (∀ nw, Upd d o o' news nw → News h₀ L s'.heap nw) → R (.ok (.ret v)) s')
theorem leaveB_ {h₀ g : Heap} {L L' x d : Addr} {ox o o' : Obj} {m m' : Str → Option Value} {news news' : List (Addr × Obj)} {R : Result → Shared → Prop} {v : Value} {s' : Shared} (F' : Fr g L' s'.heap m') (N' : News g L' s'.heap news') (hx : (x, ox) ∈ news') (hm : (d, o') ∈ news')
    (k : Fr h₀ L s'.heap m → (∀ nw, Upd d o o' news nw → News h₀ L s'.heap nw) → R (.ok (.ret v)) s') : LeaveB h₀ L m g x ox d o news R v s' := ⟨L', m', news', o', F', N', hx, hm, k⟩

section
variable {prog : Program} {w : World} {A A₀ : Around} {s : Shared} {K : Frag} {L : Addr} {h₀ base : Heap} {m mg mb : Str → Option Value} {news : List (Addr × Obj)} {p : Program} {loose : List Str} {mean : ExcName → Option Value}
/-- the call of a method, its object and the object's dict handed in -/
theorem code_defB {env : Env} {outer : List Env} {R : Result → Shared → Prop} {x d : Addr} {ox o : Obj} {name qual : Str} {params : Arguments} {body : List Stmt} {scope : Scope} {dV kV doc pm cdv ct oc : Value} {an od : Option Addr} {osl : Array (Option Value)} {f : Addr} {args : Args} {binds : List (Str × Value)}
    (B : Below A₀ base outer h₀) (F : Fr h₀ L s.heap m) (X₀ : K.In h₀) (N : News h₀ L s.heap news) (hx : (x, ox) ∈ news) (hm : (d, o) ∈ news) (T : Top p loose mean mg mb h₀) (hA : A.frames = some (env :: outer)) (hf : env.frame = some L) (hke : env.scope.kind = .function)
    (ho : K.lookup f = some ⟨oc, od, .func (fnOf name qual params body scope dV kV doc pm an cdv ct), osl⟩) (hcd : codeIn K cdv qual = true) (hroom : A.depth < recursionLimit)
    (hbind : BindsTo s (fnOf name qual params body scope dV kV doc pm an cdv ct) args binds) (hloc : ∀ y ∈ binds, scope.names.lookup y.1 = some .local)
    (h : ∀ g L' h₁, Fr g L' h₁ (fun y => binds.reverse.lookup y) → News g L' h₁ [(x, ox), (d, o)] → Below A base (env :: outer) g → K.In g → Top p loose mean mg mb g →
      wpAny (model prog w) (A.deeper (envOf qual scope L' f cdv)) (execs body (envOf qual scope L' f cdv))
        (fun fl s' => LeaveB h₀ L m g x ox d o news R (match fl with | .ret v => v | _ => .none) s')
        (fun e s' => wpAny (model prog w) (A.deeper (envOf qual scope L' f cdv)) (leaving (envOf qual scope L' f cdv) e) (fun _ s'' => R (.error e) s'') (fun e' s'' => R (.error e') s'') s')
        { s with heap := h₁, toks := s.toks + binds.length })
    (hco : scope.isCoroutine = false) (hgen : scope.isGenerator = false) (hk : scope.kind = .function)
    (hcell : ∀ x ∈ scope.names, x.2 ≠ .cell) : codeAny (model prog w) A (.call (.ref f) args) R s := by
  have N1 : News h₀ L s.heap [(x, ox), (d, o)] := fun q hq => by
    rcases List.mem_cons.mp hq with rfl | hq
    · exact N _ hx
    · rw [List.mem_singleton.mp hq]; exact N _ hm
  obtain ⟨_, BG, st, lv⟩ := groundX (R := R) B F N1 hA hf hke
  have X := X₀.keeps F.keep
  refine codeAny_call_def (fd := fnOf name qual params body scope dV kV doc pm an cdv ct) (body := body) (binds := binds) hroom (X _ _ ho) rfl (T.nolimit.keeps F.keep) (codeRec_of X hcd) rfl hbind hcell hloc (fun h₁ hns hk₁ => ?_) hco hgen hk
  refine wpAny_mono (h (hideAll s.heap ([(x, ox), (d, o)].map fun x : Addr × Obj => x.1)) s.heap.objs.size h₁ ⟨hns, fun b ob e => hk₁ b ob (of_hideAll _ e), Nat.le_of_eq (hideAll_size _ _)⟩
    (fun q hq => ⟨hk₁ _ _ (N1 q hq).1, Nat.ne_of_lt (Heap.lt_size (N1 q hq).1), hideAll_none _ (List.mem_map_of_mem hq)⟩) BG (X₀.keeps st) (T.keeps st)) (fun fl s' hl => ?_) fun _ _ y => y
  obtain ⟨L', m', news', o', F', N', hx', hm', k⟩ := hl
  refine lv _ _ ⟨L', m', [(x, ox), (d, o')], F', fun q hq => ?_, fun F₂ N₂ => k F₂ fun nw U => ?_⟩
  · rcases List.mem_cons.mp hq with rfl | hq
    · exact N' _ hx'
    · rw [List.mem_singleton.mp hq]; exact N' _ hm'
  · obtain ⟨pre, post, e1, rfl, a, b⟩ := U.split
    have old : ∀ q ∈ news, q.1 ≠ d → s'.heap.get? q.1 = some q.2 ∧ q.1 ≠ L ∧ h₀.get? q.1 = none := fun q hq hne => by
      refine ⟨?_, (N q hq).2⟩
      by_cases hqx : q.1 = x
      · have e1 := (N q hq).1
        rw [hqx, (N _ hx).1] at e1
        rw [hqx, ← Option.some.inj e1]
        exact (N₂ _ (.head _)).1
      · refine F'.keep _ _ (hideAll_get _ (N q hq).1 fun hm => ?_)
        rcases List.mem_cons.mp hm with h | h
        · exact hqx h
        · exact hne (List.mem_singleton.mp h)
    intro q hq
    rcases List.mem_append.mp hq with hq | hq
    · exact old q (e1 ▸ List.mem_append_left _ hq) (a q hq)
    · rcases List.mem_cons.mp hq with rfl | hq
      · exact N₂ _ (.tail _ (.head _))
      · exact old q (e1 ▸ List.mem_append_right _ (.tail _ hq)) (b q hq)
end

-- Refill
open PySem.Calls
abbrev ent9 (w : World) (k : String) (t : Tok) (v : Value) : DictEntry := { hash := PyData.keyHash w.params (Str.ofString k), key := Value.str (Str.ofString k) t, val := v }
abbrev bud (w : World) (m e l sn : Int) (t0 t1 t2 t3 u0 u1 u2 u3 : Tok) : Obj := dictOf [ent9 w "most" t0 (.int m u0), ent9 w "refill_after" t1 (.int e u1), ent9 w "left" t2 (.int l u2), ent9 w "since" t3 (.int sn u3)] 4
/-- what refill does to left and since -/
def Refill (m e l sn now l' sn' : Int) : Prop :=
  (l = m ∧ l' = l ∧ sn' = now) ∨ ∃ q, l ≠ m ∧ q * e ≤ now - sn ∧ now - sn < q * e + e ∧ ((m ≤ l + q ∧ l' = m ∧ sn' = now) ∨ (l + q < m ∧ l' = l + q ∧ sn' = sn + q * e))
section
variable {prog : Program} {w : World} {A : Around} {E : Value → Shared → Prop} {s : Shared}
/-- a floor division by a small positive int: its quotient by what bounds it -/
theorem fdiv_q {a b : Int} {t u : Tok} {Q : Value → Shared → Prop} (hb : 0 < b) (hs : b ≤ 1000) (h : ∀ q, q * b ≤ a → a < q * b + b → Q (.int q s.toks) { s with toks := s.toks + 1 }) :
    wpAny (model prog w) A (binaryOp .FloorDiv (.int a t) (.int b u)) Q E s := by
  have f := fdiv_fmod_facts a b
  have g := f.2.2.1 hb
  have e := f.1
  clear f
  exact floordiv_int (by omega) (h _ (by omega) (by omega)) (Or.inl (PyProof.noPylong_small (by omega)))
end
set_option maxHeartbeats 8000000 in
theorem refill_ct (w : World) (p : Program) (loose : List Str) (mean : ExcName → Option Value) (mg mb : Str → Option Value) (x dx : Addr) (m e l sn now : Int) (t0 t1 t2 t3 u0 u1 u2 u3 tn : Tok) (he : 0 < e) (he2 : e ≤ 1000)
    (dp un : Nat) (gd : Option (List Code)) (cn : Str) (cs : Scope) (a : Addr) (ccd : Value) (cl : List (Str × Addr)) (outer : List Env) (A₀ : Around) (base h₀ : Heap) (L : Addr) (mm : Str → Option Value)
    (news : List (Addr × Obj)) (s : Shared) (Q E : Value → Shared → Prop)
    (B : Below A₀ base outer h₀) (F : Fr h₀ L s.heap mm) (X : (K9 w.params).In h₀) (N : News h₀ L s.heap news) (hx : (x, instObj 304 dx) ∈ news) (hm : (dx, bud w m e l sn t0 t1 t2 t3 u0 u1 u2 u3) ∈ news) (hxd : @Ne Nat x dx)
    (T : Top p loose mean mg mb h₀) (hk : cs.kind = .function) (hd : dp + 1 < recursionLimit) (hu : un + 8 * 1 < cLine)
    (hret : ∀ l' sn' u2' u3' h' tk', Refill m e l sn now l' sn' → Fr h₀ L h' mm → (∀ nw, Upd dx (bud w m e l sn t0 t1 t2 t3 u0 u1 u2 u3) (bud w m e l' sn' t0 t1 t2 t3 u0 u1 u2' u3') news nw → News h₀ L h' nw) → Q .none { s with heap := h', toks := tk' }) :
    wpAny (model P0 w) (ktrTop dp un gd cn cs L a ccd cl outer) (call (.ref 294) [.ref x, .int now tn]) Q E s := by
  k_with_none
  k_with "eval Constant int" => ((with_reducible refine const_fr ?_); intro _ _)
  k_with "binaryOp Add int int" => ((with_reducible refine add_fr ?_); intro _ _)
  k_with "inplaceOp Add int int" => ((with_reducible refine iadd_fr ?_); intro _ _)
  k_with "binaryOp Sub int int" => ((with_reducible refine sub_fr ?_); intro _ _)
  k_with "binaryOp FloorDiv int int" => (k_extra "binaryOp FloorDiv int int")
  k_with "call ref" => (k_extra "call ref")
  k_with_none
  k_with "LeaveB" => (refine leaveB_ (by k_asm) (by k_asm) (by k_mem) (by k_mem) ?_; intro kF kN; (try dsimp only))
  k_with "binaryOp FloorDiv int int" => (k_dflt ((refine' fdiv_q ?k1 ?k2 ?_); (case k1 => assumption); (case k2 => assumption); intro q9 hq1 hq2))
  unfold P0
  revert X
  k_fill
  intro X
  refine wpAny_call ?_
  k_dflt (refine' code_defB ?k1 ?k2 ?k3 ?k4 ?kx ?km ?k5 ?kA ?kF ?kK ?k6 ?k7 ?k8 ?k9 ?kB ?_ ?c2 ?c3 ?c4 ?c5; (case kA => exact rfl); (case kF => exact rfl); (case kK => assumption); (case k1 => k_asm); (case k2 => k_asm); (case k3 => k_asm); (case k4 => k_asm); (case kx => exact hx); (case km => exact hm); (case k5 => k_asm); (case k6 => k_is); (case k7 => k_is); (case k8 => ktr_room); (case k9 => exact BindsTo.of_eq rfl); (case c5 => decide); (case kB => exact locs rfl); (case c2 => exact rfl); (case c3 => exact rfl); (case c4 => exact rfl); k_whole; intro g' L' h' F' N' B' X' T'; (try dsimp only); (try k_fold))
  k_steps
  all_goals (rename Fr h₀ L _ _ => kF; rename ∀ nw, Upd dx _ _ news nw → _ => kN; refine hret _ _ _ _ _ _ ?_ kF kN; clear kF kN hret B F X N T)
  · exact .inl ⟨by first | assumption | omega, rfl, rfl⟩
  · exact .inr ⟨_, by first | assumption | omega, by assumption, by assumption, .inl ⟨by first | assumption | omega, rfl, rfl⟩⟩
  · exact .inr ⟨_, by first | assumption | omega, by assumption, by assumption, .inr ⟨by first | assumption | omega, rfl, rfl⟩⟩
section
variable {w : World} {p : Program} {loose : List Str} {mean : ExcName → Option Value} {mg mb : Str → Option Value} {x dx : Addr} {m e l sn now : Int} {t0 t1 t2 t3 u0 u1 u2 u3 tn : Tok}
    {dp un : Nat} {gd : Option (List Code)} {cn : Str} {cs : Scope} {a : Addr} {ccd : Value} {cl : List (Str × Addr)} {outer : List Env} {A₀ : Around} {base h₀ : Heap} {L : Addr} {mm : Str → Option Value}
    {news : List (Addr × Obj)} {s : Shared} {Q E : Value → Shared → Prop}
/-- what take does: refill, then one less -/
def Took (m e l sn now l' sn' : Int) (b : Bool) : Prop := ∃ l1, Refill m e l sn now l1 sn' ∧ ((l1 = 0 ∧ l' = 0 ∧ b = false) ∨ (l1 ≠ 0 ∧ l' = l1 - 1 ∧ b = true))
end
set_option maxHeartbeats 8000000 in
theorem take_bct (w : World) (p : Program) (loose : List Str) (mean : ExcName → Option Value) (mg mb : Str → Option Value) (x dx : Addr) (m e l sn now : Int) (t0 t1 t2 t3 u0 u1 u2 u3 tn : Tok) (he : 0 < e) (he2 : e ≤ 1000)
    (dp un : Nat) (gd : Option (List Code)) (cn : Str) (cs : Scope) (a : Addr) (ccd : Value) (cl : List (Str × Addr)) (outer : List Env) (A₀ : Around) (base h₀ : Heap) (L : Addr) (mm : Str → Option Value)
    (news : List (Addr × Obj)) (s : Shared) (Q E : Value → Shared → Prop)
    (B : Below A₀ base outer h₀) (F : Fr h₀ L s.heap mm) (X : (K9 w.params).In h₀) (N : News h₀ L s.heap news) (hx : (x, instObj 304 dx) ∈ news) (hm : (dx, bud w m e l sn t0 t1 t2 t3 u0 u1 u2 u3) ∈ news) (hxd : @Ne Nat x dx)
    (T : Top p loose mean mg mb h₀) (hk : cs.kind = .function) (hd : dp + 2 < recursionLimit) (hu : un + 8 * 2 < cLine)
    (hret : ∀ b l' sn' u2' u3' h' tk', Took m e l sn now l' sn' b → Fr h₀ L h' mm → (∀ nw, Upd dx (bud w m e l sn t0 t1 t2 t3 u0 u1 u2 u3) (bud w m e l' sn' t0 t1 t2 t3 u0 u1 u2' u3') news nw → News h₀ L h' nw) → Q (.bool b) { s with heap := h', toks := tk' }) :
    wpAny (model P0 w) (ktrTop dp un gd cn cs L a ccd cl outer) (call (.ref 301) [.ref x, .int now tn]) Q E s := by
  k_with_none
  k_with "eval Constant int" => ((with_reducible refine const_fr ?_); intro _ _)
  k_with "binaryOp Add int int" => ((with_reducible refine add_fr ?_); intro _ _)
  k_with "inplaceOp Add int int" => ((with_reducible refine iadd_fr ?_); intro _ _)
  k_with "binaryOp Sub int int" => ((with_reducible refine sub_fr ?_); intro _ _)
  k_with "binaryOp FloorDiv int int" => (k_extra "binaryOp FloorDiv int int")
  k_with "call ref" => (k_extra "call ref")
  k_with_none
  k_with "LeaveB" => (refine leaveB_ (by k_asm) (by k_asm) (by k_mem) (by k_mem) ?_; intro kF kN; (try dsimp only))
  k_with "call ref" => ((with_reducible show wpAny _ _ (call (Value.ref 294) [Value.ref _, Value.int _ _]) _ _ _); k_dflt ((refine' refill_ct _ _ _ _ _ _ _ _ _ _ _ _ _ _ _ _ _ _ _ _ _ _ ?he ?he2 _ _ _ _ _ _ _ _ _ _ _ _ _ _ _ _ _ _ ?k1 ?k2 ?k3 ?k4 ?kx ?km ?kn ?k5 ?kK ?kd ?ku ?_); (case k1 => k_asm); (case k2 => k_asm); (case k3 => k_asm); (case k4 => k_asm); (case kx => k_mem); (case km => k_mem); (case kn => assumption); (case he => assumption); (case he2 => assumption); (case k5 => k_asm); (case kK => exact rfl); (case kd => ktr_room); (case ku => ktr_units); k_whole; intro l9 s9 u29 u39 h9 tk9 hR9 F9 N9; replace N9 := N9 _ (by k_upd); (try k_sweep); (try dsimp only); (try k_fold)))
  unfold P0
  revert X
  k_fill
  intro X
  refine wpAny_call ?_
  k_dflt (refine' code_defB ?k1 ?k2 ?k3 ?k4 ?kx ?km ?k5 ?kA ?kF ?kK ?k6 ?k7 ?k8 ?k9 ?kB ?_ ?c2 ?c3 ?c4 ?c5; (case kA => exact rfl); (case kF => exact rfl); (case kK => assumption); (case k1 => k_asm); (case k2 => k_asm); (case k3 => k_asm); (case k4 => k_asm); (case kx => exact hx); (case km => exact hm); (case k5 => k_asm); (case k6 => k_is); (case k7 => k_is); (case k8 => ktr_room); (case k9 => exact BindsTo.of_eq rfl); (case c5 => decide); (case kB => exact locs rfl); (case c2 => exact rfl); (case c3 => exact rfl); (case c4 => exact rfl); k_whole; intro g' L' h' F' N' B' X' T'; (try dsimp only); (try k_fold))
  k_steps
  all_goals (rename Fr h₀ L _ _ => kF; rename ∀ nw, Upd dx _ _ news nw → _ => kN; refine hret _ _ _ _ _ _ _ ?_ kF kN; clear kF kN hret B F X N T)
  · exact ⟨_, by assumption, .inl ⟨by assumption, by assumption, rfl⟩⟩
  · exact ⟨_, by assumption, .inr ⟨by assumption, rfl, rfl⟩⟩

-- Budget
open PySem.Calls
/-- what the inner loop of _law_budget_right keeps: ticks of a budget, from l0 and w0 -/
structure JIn (e most n0 l0 w0 : Int) (pre : List Int) (now left waited : Int) : Prop where
  hnow : now = n0 + (pre.length : Int)
  hlo : l0 ≤ left
  hhi : left ≤ most
  hw : 0 ≤ waited
  hz : left = most → waited = 0
  hl : left < most → waited < e ∧ w0 + (pre.length : Int) = (left - l0) * e + waited
  hm : left = most → (most - l0) * e ≤ w0 + (pre.length : Int)
theorem JIn.start {e most n0 l0 w0 : Int} (h1 : l0 ≤ most) (h2 : 0 ≤ w0) (h3 : l0 = most → w0 = 0) (h4 : l0 < most → w0 < e) : JIn e most n0 l0 w0 [] n0 l0 w0 := by
  refine ⟨by simp, by omega, h1, h2, h3, fun h => ⟨h4 h, ?_⟩, fun h => ?_⟩
  · rw [Int.sub_self, Int.zero_mul]; simp
  · rw [h, Int.sub_self, Int.zero_mul]; simpa using h2
theorem len1 (pre : List Int) (k : Int) : ((pre ++ [k]).length : Int) = (pre.length : Int) + 1 := by simp
theorem JIn.full {e most n0 l0 w0 now left waited k : Int} {pre : List Int} (J : JIn e most n0 l0 w0 pre now left waited) (h : ¬ left < most) : JIn e most n0 l0 w0 (pre ++ [k]) (now + 1) left 0 := by
  have e1 := len1 pre k
  have h1 := J.hhi
  refine ⟨by have := J.hnow; omega, J.hlo, J.hhi, by omega, fun _ => rfl, fun h' => absurd h' h, fun h' => ?_⟩
  have := J.hm h'
  omega
theorem JIn.grow {e most n0 l0 w0 now left waited k : Int} {pre : List Int} (J : JIn e most n0 l0 w0 pre now left waited) (h : left < most) (hn : waited + 1 ≠ e) : JIn e most n0 l0 w0 (pre ++ [k]) (now + 1) left (waited + 1) := by
  have e1 := len1 pre k
  have h1 := J.hl h
  have h2 := J.hw
  refine ⟨by have := J.hnow; omega, J.hlo, J.hhi, by omega, fun h' => by omega, fun _ => ⟨by omega, by omega⟩, fun h' => by omega⟩
theorem JIn.more {e most n0 l0 w0 now left waited k : Int} {pre : List Int} (J : JIn e most n0 l0 w0 pre now left waited) (h : left < most) (hn : waited + 1 = e) : JIn e most n0 l0 w0 (pre ++ [k]) (now + 1) (left + 1) 0 := by
  have e1 := len1 pre k
  have h1 := J.hl h
  have h2 := J.hw
  have h3 := J.hlo
  have e2 : (left + 1 - l0) * e = (left - l0) * e + e := by rw [show left + 1 - l0 = (left - l0) + 1 by omega, Int.add_mul, Int.one_mul]
  refine ⟨by have := J.hnow; omega, by omega, by omega, by omega, fun _ => rfl, fun _ => ⟨by omega, by omega⟩, fun h' => ?_⟩
  rw [← h', e2]
  omega
/-- the quotient that refill reckons -/
theorem quot_eq {a e r x q : Int} (he : 0 < e) (hx : x = a * e + r) (h0 : 0 ≤ r) (h1 : r < e) (q1 : q * e ≤ x) (q2 : x < q * e + e) : q = a := by
  have u : q * e - a * e = (q - a) * e := by rw [Int.sub_mul]
  rcases Int.lt_trichotomy q a with h | h | h
  · have : (q - a) * e ≤ -1 * e := Int.mul_le_mul_of_nonneg_right (by omega) (by omega)
    omega
  · exact h
  · have : 1 * e ≤ (q - a) * e := Int.mul_le_mul_of_nonneg_right (by omega) (by omega)
    omega
/-- the budget as the law reckons it: left, and the ticks waited since sn -/
structure Bst (most e now left waited sn : Int) : Prop where
  h0 : 0 ≤ left
  h1 : left ≤ most
  h2 : 0 ≤ waited
  h3 : left = most → waited = 0
  h4 : left < most → waited = now - sn ∧ waited < e
theorem Bst.start {most e now : Int} (h : 0 ≤ most) : Bst most e now most 0 now := ⟨h, by omega, by omega, fun _ => rfl, fun h => by omega⟩
theorem Bst.cast {most e now l l' w sn : Int} (S : Bst most e now l w sn) (h : l' = l) : Bst most e now l' w sn := h ▸ S
theorem JIn.of {most e n0 l0 w0 sn : Int} (S : Bst most e n0 l0 w0 sn) : JIn e most n0 l0 w0 [] n0 l0 w0 := JIn.start S.h1 S.h2 S.h3 fun h => (S.h4 h).2
theorem refill_full {m e sn now l' sn' : Int} (R : Refill m e m sn now l' sn') : l' = m ∧ sn' = now := by
  rcases R with ⟨_, h1, h2⟩ | ⟨q, h, _⟩
  · exact ⟨h1, h2⟩
  · exact absurd rfl h
theorem after_refill {most e n0 l0 w0 sn now left waited bl l' sn' : Int} {pre : List Int} (he : 0 < e) (S : Bst most e n0 l0 w0 sn) (J : JIn e most n0 l0 w0 pre now left waited) (hb : bl = l0) (R : Refill most e bl sn now l' sn') : l' = left ∧ Bst most e now left waited sn' := by
  rw [hb] at R
  have j1 := J.hlo
  have j2 := J.hhi
  have j3 := J.hnow
  have s0 := S.h0
  rcases R with ⟨r1, r2, r3⟩ | ⟨q, hne, q1, q2, hq⟩
  · exact ⟨by omega, by omega, j2, J.hw, J.hz, fun h => by omega⟩
  · have s4 := S.h4 (by have := S.h1; omega)
    by_cases hl : left < most
    · obtain ⟨a1, a2⟩ := J.hl hl
      have e1 := quot_eq he (x := now - sn) (a := left - l0) (r := waited) (by omega) J.hw a1 q1 q2
      subst e1
      rcases hq with ⟨h, _⟩ | ⟨_, h1, h2⟩
      · omega
      · refine ⟨by omega, by omega, by omega, J.hw, J.hz, fun _ => ⟨?_, a1⟩⟩
        rw [h2]
        omega
    · have e1 : left = most := by omega
      have h5 := J.hm e1
      rw [← e1] at h5
      rcases hq with ⟨_, h1, h2⟩ | ⟨h, _⟩
      · exact ⟨by omega, by omega, by omega, J.hw, J.hz, fun h => by omega⟩
      · have u : (q + 1) * e ≤ (left - l0) * e := Int.mul_le_mul_of_nonneg_right (by omega) (by omega)
        have v : (q + 1) * e = q * e + e := by rw [Int.add_mul, Int.one_mul]
        omega
theorem after_take {most e now left waited sn l' sn' : Int} {b : Bool} (he : 0 < e) (S : Bst most e now left waited sn) (Tk : Took most e left sn now l' sn' b) :
    (left = 0 ∧ b = false ∧ l' = left ∧ Bst most e now left waited sn') ∨ (0 < left ∧ b = true ∧ l' = left - 1 ∧ Bst most e now (left - 1) waited sn') := by
  obtain ⟨l1, R, h⟩ := Tk
  have s0 := S.h0
  have s1 := S.h1
  have s2 := S.h2
  have key : l1 = left ∧ (left = most → sn' = now) ∧ (left < most → sn' = sn) := by
    rcases R with ⟨h1, h2, h3⟩ | ⟨q, hne, q1, q2, hq⟩
    · exact ⟨h2, fun _ => h3, fun h => by omega⟩
    · have s4 := S.h4 (by omega)
      have e1 := quot_eq he (x := now - sn) (a := 0) (r := waited) (by omega) s2 s4.2 q1 q2
      subst e1
      rcases hq with ⟨h, _⟩ | ⟨_, h1, h2⟩
      · omega
      · exact ⟨by omega, fun h => by omega, fun _ => by omega⟩
  obtain ⟨rfl, k1, k2⟩ := key
  rcases h with ⟨h1, h2, h3⟩ | ⟨h1, h2, h3⟩
  · refine .inl ⟨h1, h3, by omega, s0, s1, s2, S.h3, fun h => ?_⟩
    have := S.h4 h
    have := k2 h
    omega
  · refine .inr ⟨by omega, h3, h2, by omega, by omega, s2, fun h => by omega, fun _ => ?_⟩
    by_cases hm : l1 = most
    · have := S.h3 hm
      have := k1 hm
      omega
    · have := S.h4 (by omega)
      have := k2 (by omega)
      omega
def TrueOut (r : Value) (o' : Obj) : Prop := ∃ vs ns n, r = .bool true ∧ IntsAre vs ns ∧ SrcNs ns ∧ o' = listOf vs.toArray n
theorem one4 {a : Int} (_h : a < 4) : ∃ m, m = 1 + a := ⟨_, rfl⟩
theorem ev4 {a : Int} (h0 : 0 ≤ a) (h : a < 4) : a = 0 ∨ a = 1 ∨ a = 2 ∨ a = 3 := by omega
theorem menu8 {r e : Int} (h : r ∈ [(0:Int), 0, 1, 1, 2, e, e + 1, 3 * e + 1]) (h0 : 1 ≤ e) (h1 : e ≤ 4) : 0 ≤ r ∧ r ≤ 13 := by
  simp only [List.mem_cons, List.not_mem_nil, or_false] at h
  omega

set_option maxHeartbeats 8000000 in
theorem budget_ct (w : World) (p : Program) (loose : List Str) (mean : ExcName → Option Value) (mg mb : Str → Option Value) (d : Addr) (vs : List Value) (ns : List Int) (n : Nat)
    (hi : IntsAre vs ns) (hs : SrcNs ns) :
    CtS w p loose mean mg mb 6 362 [.ref d] d (listOf vs.toArray n) (fun _ => True) TrueOut := by
  k_with_none
  k_with "eval Constant int" => ((with_reducible refine const_fr ?_); intro _ _)
  k_with "binaryOp Add int int" => ((with_reducible refine add_fr ?_); intro _ _)
  k_with "inplaceOp Add int int" => ((with_reducible refine iadd_fr ?_); intro _ _)
  k_with "binaryOp Sub int int" => ((with_reducible refine sub_fr ?_); intro _ _)
  k_with "LeaveD" => ((refine leaveD_ (by k_asm) (by k_asm) (by k_mem) ?_; intro kF kN; (try dsimp only); refine hold_in ?_))
  k_with "LeaveD" => ((exfalso; omega))
  k_with "call ref" => (( (with_reducible show wpAny _ _ (call (Value.ref 322) [Value.ref _, Value.int _ _]) _ _ _); k_dflt ((refine' take_use ?k1 ?k2 ?k3 ?k4 ?km ?ki ?ks ?k5 ?kK ?kt ?kl ?kd ?ku ?_); (case k1 => k_asm); (case k2 => k_asm); (case k3 => k_asm); (case k4 => k_asm); (case km => k_mem); (case ki => assumption); (case ks => assumption); (case k5 => k_asm); (case kK => exact rfl); (case kt => first | assumption | decide +kernel | omega); (case kl => first | assumption | decide +kernel | omega); (case kd => ktr_room); (case ku => ktr_units); k_whole; intro r9 t9 vs9 ns9 n9 h9 tk9 hr0 hr1 hi9 hs9 F9 N9; replace N9 := N9 _ (by k_upd); (try k_sweep); (try dsimp only); (try k_fold))))
  k_with "call ref" => (( (with_reducible show wpAny _ _ (call (Value.ref 329) [Value.ref _, Value.ref _]) _ _ _); k_dflt ((refine' one_use ?k1 ?k2 ?k3 ?k4 ?km ?km2 ?kn ?ki ?ks ?kw ?k5 ?kK ?kt ?kl ?kd ?ku ?_); (case k1 => k_asm); (case k2 => k_asm); (case k3 => k_asm); (case k4 => k_asm); (case km => k_mem); (case km2 => k_mem); (case kn => k_ne); (case ki => assumption); (case ks => assumption); (case kw => first | assumption | (repeat constructor)); (case k5 => k_asm); (case kK => exact rfl); (case kt => first | decide | assumption | exact Nat.zero_lt_succ _); (case kl => first | decide | assumption | exact of_decide_eq_true rfl); (case kd => ktr_room); (case ku => ktr_units); k_whole; intro r9 t9 vs9 ns9 n9 h9 tk9 hr9 hi9 hs9 F9 N9; replace N9 := N9 _ (by k_upd); (try k_sweep); (try dsimp only); ktr_unf; (try k_fold))))
  k_with "spliced" => (dsimp only)
  k_with "call ref" => (((with_reducible show wpAny _ _ (call (Value.ref 294) [Value.ref _, Value.int _ _]) _ _ _); k_dflt ((refine' refill_ct _ _ _ _ _ _ _ _ _ _ _ _ _ _ _ _ _ _ _ _ _ _ ?he ?he2 _ _ _ _ _ _ _ _ _ _ _ _ _ _ _ _ _ _ ?k1 ?k2 ?k3 ?k4 ?kx ?km ?kn ?k5 ?kK ?kd ?ku ?_); (case k1 => k_asm); (case k2 => k_asm); (case k3 => k_asm); (case k4 => k_asm); (case kx => k_mem); (case km => k_mem); (case kn => k_ne); (case he => omega); (case he2 => omega); (case k5 => k_asm); (case kK => first | exact rfl | assumption); (case kd => ktr_room); (case ku => ktr_units); k_whole; intro l9 s9 u29 u39 h9 tk9 hR9 F9 N9; replace N9 := N9 _ (by k_upd); (try dsimp only [bud, ent9] at N9); (first | (obtain ⟨hL9, hS9⟩ := refill_full hR9; subst hL9 hS9) | (obtain ⟨hL9, hS9⟩ := after_refill (by omega) (by assumption) (by assumption) (by with_reducible assumption) hR9; subst hL9)); (try k_sweep); (try dsimp only); (try k_fold))))
  k_with "call ref" => (((with_reducible show wpAny _ _ (call (Value.ref 301) [Value.ref _, Value.int _ _]) _ _ _); k_dflt ((refine' take_bct _ _ _ _ _ _ _ _ _ _ _ _ _ _ _ _ _ _ _ _ _ _ ?he ?he2 _ _ _ _ _ _ _ _ _ _ _ _ _ _ _ _ _ _ ?k1 ?k2 ?k3 ?k4 ?kx ?km ?kn ?k5 ?kK ?kd ?ku ?_); (case k1 => k_asm); (case k2 => k_asm); (case k3 => k_asm); (case k4 => k_asm); (case kx => k_mem); (case km => k_mem); (case kn => k_ne); (case he => omega); (case he2 => omega); (case k5 => k_asm); (case kK => first | exact rfl | assumption); (case kd => ktr_room); (case ku => ktr_units); k_whole; intro b9 l9 s9 u29 u39 h9 tk9 hR9 F9 N9; replace N9 := N9 _ (by k_upd); (try dsimp only [bud, ent9] at N9); (rcases after_take (by omega) (by assumption) hR9 with ⟨hZ9, hB9, hL9, hS9⟩ | ⟨hZ9, hB9, hL9, hS9⟩ <;> subst hB9 hL9); (all_goals (clear hR9)); (all_goals (try k_sweep)); (all_goals (try dsimp only)); (all_goals (try k_fold)))))
  k_with "exec For Name Call cons nil" => (((fail_if_success (rename GoOn => hG9)); refine hold_in ?_))
  k_with "pyIter ref" => ((k_of "tick" => refine hold_in ?_))
  k_with "LeaveD" => ((exfalso; (rename (_ != decide _) = _ => hb9); (simp at hb9); omega))
  k_with "LeaveD" => ((exfalso; (rename (_ : Int) ≠ _ => hc9); (simp only [decide_eq_true_eq] at hc9); (split at hc9 <;> omega)))
  k_with "tree" => ((rename _ ∈ [(0:Int), 0, 1, 1, 2, _, _, _] => hz9; (have hb9 := menu8 hz9 (by omega) (by omega))))
  unfold CtS P0
  k_fill
  intro dp un gd cn cs a ccd cl outer A₀ base h₀ L m news s Q E B F X N hm hneed T hk hd hu hret
  refine wpAny_call ?_
  k_dflt ((refine' code_defD ?k1 ?k2 ?k3 ?k4 ?km ?k5 ?kA ?kF ?kK ?k6 ?k7 ?k8 ?k9 ?kB ?_ ?c2 ?c3 ?c4 ?c5; (case kA => exact rfl); (case kF => exact rfl); (case kK => assumption); (case k1 => k_asm); (case k2 => k_asm); (case k3 => k_asm); (case k4 => k_asm); (case km => k_asm); (case k5 => k_asm); (case k6 => k_is); (case k7 => k_is); (case k8 => ktr_room); (case k9 => exact BindsTo.of_eq rfl); (case c5 => decide); (case kB => exact locs rfl); (case c2 => exact rfl); (case c3 => exact rfl); (case c4 => exact rfl); k_whole; intro g' L' h' hg' F' N' B' X' T'; subst hg'; (try dsimp only); (try k_fold)))
  k_steps
  rename _ < (4:Int) => hE1
  revert hE1
  rename _ < (4:Int) => hM1
  obtain ⟨most, hmost⟩ := one4 hM1
  intro hE1
  rename Fr _ _ _ _ => kF
  rename News _ _ _ _ => kN
  try dsimp only at kF kN
  revert kF kN
  repeat (rename Fr _ _ _ _ => z9; clear z9)
  repeat (rename News _ _ _ _ => z9; clear z9)
  intro kF kN
  obtain ⟨every, hev⟩ := one4 hE1
  rw [← hev, ← hmost] at kF kN
  have hG : GoOn := ⟨trivial⟩
  refine Hold.mk ?_
  k_with "state" => first
    | with_reducible exact JIn.of (by assumption)
    | exact JIn.more (by assumption) (by assumption) (by assumption)
    | exact JIn.grow (by assumption) (by assumption) (by assumption)
    | exact JIn.full (by assumption) (by assumption)
    | with_reducible exact ⟨rfl, Bst.start (by omega), by assumption⟩
    | with_reducible exact ⟨rfl, by assumption, by assumption⟩
    | with_reducible exact ⟨by omega, Bst.cast (by assumption) (by omega), by assumption⟩
  k_with "pyIter ref" => (k_of "turn" => k_state_short (fun (_pre : List Int) (now left waited bl since : Int) (src : List Int) => bl = left ∧ Bst most every now left waited since ∧ SrcNs src) "now" "left" "waited" "budget.left" "budget.since" "source")
  k_with "exec For Name Call cons nil" => kpr_for
  k_steps
  · refine Hold.mk ?_
    k_state_given ["now!", "left!", "waited!"] (fun (n0 l0 w0 : Int) (pre : List Int) (now left waited : Int) => JIn every most n0 l0 w0 pre now left waited) "now" "left" "waited"
    · skip
      k_steps
    · k_steps
  · refine Hold.mk ?_
    rename Fr h₀ L _ _ => kF
    rename ∀ nw, Upd d _ _ news nw → _ => kN
    exact hret _ _ _ _ ⟨_, _, _, rfl, by assumption, by assumption, rfl⟩ kF kN

section
variable {w : World} {p : Program} {loose : List Str} {mean : ExcName → Option Value} {mg mb : Str → Option Value} {d : Addr} {vs : List Value} {ns : List Int} {n : Nat}
  {dp un : Nat} {gd : Option (List Code)} {cn : Str} {cs : Scope} {a : Addr} {ccd : Value} {cl : List (Str × Addr)} {outer : List Env} {A₀ : Around} {base h₀ : Heap} {L : Addr} {m : Str → Option Value} {s : Shared} {Q E : Value → Shared → Prop} {news : List (Addr × Obj)}

theorem budget_use (B : Below A₀ base outer h₀) (F : Fr h₀ L s.heap m) (X : (K9 w.params).In h₀) (N : News h₀ L s.heap news) (hm : (d, listOf vs.toArray n) ∈ news) (hi : IntsAre vs ns) (hs : SrcNs ns)
    (T : Top p loose mean mg mb h₀) (hk : cs.kind = .function) (hd : dp + 6 < recursionLimit) (hu : un + 8 * 6 < cLine)
    (ret : ∀ vs' ns' n' h' tk', IntsAre vs' ns' → SrcNs ns' → Fr h₀ L h' m → (∀ nw, Upd d (listOf vs.toArray n) (listOf vs'.toArray n') news nw → News h₀ L h' nw) → Q (.bool true) { s with heap := h', toks := tk' }) :
    wpAny (model P0 w) (ktrTop dp un gd cn cs L a ccd cl outer) (call (.ref 362) [.ref d]) Q E s := by
  refine budget_ct w p loose mean mg mb d vs ns n hi hs _ _ _ _ _ _ _ _ _ _ _ _ _ _ _ _ _ _ B F X N hm trivial T hk hd hu ?_
  rintro _ _ h' tk' ⟨vs', ns', n', rfl, h5, h6, rfl⟩ F' N'
  exact ret _ _ n' h' tk' h5 h6 F' N'
end

-- Cut
open PySem.Calls PySem.Spec
def CutPost (Mid : Shared → Prop) (Q : Flow → Shared → Prop) (f : Flow) (s' : Shared) : Prop :=
  match f with
  | .next => Mid s'
  | f => Q f s'
theorem execs_two {a b : Stmt} {rest : List Stmt} {env : Env} : execs (a :: b :: rest) env = execs [a, b] env >>= fun f => match f with | .next => execs rest env | f => pure f := by
  show (exec a env >>= fun f => match f with | .next => execs (b :: rest) env | f => pure f) = (exec a env >>= fun f => match f with | .next => execs [b] env | f => pure f) >>= _
  rw [bind_assoc]
  congr 1
  funext f
  cases f with
  | next =>
    show (exec b env >>= fun f => match f with | .next => execs rest env | f => pure f) = (exec b env >>= fun f => match f with | .next => execs [] env | f => pure f) >>= _
    rw [bind_assoc]
    congr 1
    funext f'
    cases f' with
    | next => show execs rest env = (pure Flow.next : Sem Flow) >>= _; rw [pure_bind]
    | ret v => rw [pure_bind]
    | brk => rw [pure_bind]
    | cont => rw [pure_bind]
  | ret v => rw [pure_bind]
  | brk => rw [pure_bind]
  | cont => rw [pure_bind]
/-- two statements cut out: what they leave is said once -/
theorem execs_cut2 {M : Model} {A : Around} {E : Value → Shared → Prop} {s : Shared} {a b : Stmt} {rest : List Stmt} {env : Env} {Q : Flow → Shared → Prop} (Mid : Shared → Prop)
    (h1 : wpAny M A (execs [a, b] env) (CutPost Mid Q) E s) (h2 : ∀ s', Mid s' → wpAny M A (execs rest env) Q E s') : wpAny M A (execs (a :: b :: rest) env) Q E s := by
  rw [execs_two]
  refine wpAny_bind (wpAny_mono h1 (fun f s' h => ?_) fun _ _ e => e)
  cases f with
  | next => exact h2 s' h
  | ret v => exact wpAny_pure h
  | brk => exact wpAny_pure h
  | cont => exact wpAny_pure h
/-- the frame but for one name, and the ledger, as they were -/
def CutMid (g : Heap) (L : Addr) (nm : Str) (m : Str → Option Value) (news : List (Addr × Obj)) (s s' : Shared) : Prop :=
  ∃ h' tk v, s' = { s with heap := h', toks := tk } ∧ Fr g L h' (fun y => if y = nm then v else m y) ∧ News g L h' news
theorem CutMid.intro {g : Heap} {L : Addr} {nm : Str} {m m' : Str → Option Value} {news news' : List (Addr × Obj)} {s : Shared} {h' : Heap} {tk : Nat} (F : Fr g L h' m') (N : News g L h' news') (hn : ∀ p ∈ news, p ∈ news')
    (hm : ∀ z, z ≠ nm → m' z = m z) : CutMid g L nm m news s { s with heap := h', toks := tk } := by
  refine ⟨h', tk, m' nm, rfl, ?_, fun p hp => N p (hn p hp)⟩
  have e : (fun y => if y = nm then m' nm else m y) = m' := by
    funext y
    by_cases h : y = nm
    · rw [if_pos h, h]
    · rw [if_neg h, hm y h]
  rw [e]; exact F
theorem cut2_use {M : Model} {A : Around} {E : Value → Shared → Prop} {s : Shared} {a b : Stmt} {rest : List Stmt} {env : Env} {Q : Flow → Shared → Prop} {g : Heap} {L : Addr} {m : Str → Option Value} {news : List (Addr × Obj)} (nm : Str)
    (F : Fr g L s.heap m) (N : News g L s.heap news) (h1 : Fr g L s.heap m → News g L s.heap news → wpAny M A (execs [a, b] env) (CutPost (CutMid g L nm m news s) Q) E s)
    (h2 : ∀ h' tk v, Fr g L h' (fun y => if y = nm then v else m y) → News g L h' news → wpAny M A (execs rest env) Q E { s with heap := h', toks := tk }) : wpAny M A (execs (a :: b :: rest) env) Q E s :=
  execs_cut2 _ (h1 F N) fun s' ⟨h', tk, v, e, F', N'⟩ => e ▸ h2 h' tk v F' N'

-- Packet
open PySem.Calls
theorem oct9 {r : Int} (h : r ∈ [(0:Int), 3, 4, 5, 8, 11, 12, 13, 255]) : 0 ≤ r ∧ r < 256 := by
  simp only [List.mem_cons, List.not_mem_nil, or_false] at h
  omega
theorem in_hd {k : Int} {r : List Int} (h : KBa.In (k :: r)) : 0 ≤ k ∧ k < 256 := h k List.mem_cons_self
theorem in_tl {k : Int} {r : List Int} (h : KBa.In (k :: r)) : KBa.In r := fun q hq => h q (List.mem_cons_of_mem _ hq)
theorem carV_n1 {pr : Int} (h : pr = 1) : carV pr [] = true := by subst h; rfl
theorem carV_n0 {pr : Int} (h : pr ≠ 1) : carV pr [] = false := decide_eq_false h
theorem carV_c1 {pr k : Int} {r : List Int} (h : pr = 1) : carV pr (k :: r) = errK k := by subst h; rfl
theorem carV_c0 {pr k : Int} {r : List Int} (h : pr ≠ 1) : carV pr (k :: r) = false := by
  show (decide (pr = 1) && errK k) = false
  rw [decide_eq_false h]; rfl
theorem rest_in {r u : Int} (h : r ∈ [(0:Int), 1, 2 ^ Int.toNat 32 - 1, u]) (h0 : 0 ≤ u) (h1 : u < 2 ^ Int.toNat 32) : 0 ≤ r ∧ r < 4294967296 := by
  have e : (2:Int) ^ Int.toNat 32 = 4294967296 := by decide +kernel
  rw [e] at h h1
  simp only [List.mem_cons, List.not_mem_nil, or_false] at h
  omega
section
variable {prog : Program} {w : World} {A : Around} {E : Value → Shared → Prop} {s : Shared}
theorem ne_same {b : Bool} {Q : Value → Shared → Prop} (h : Q (.bool false) s) : wpAny (model prog w) A (compareOp .NotEq (.bool b) (.bool b)) Q E s :=
  ne_bool (by rw [bne_self_eq_false]; exact h)
end
def TruePk (r : Value) (o' : Obj) : Prop := ∃ vs ns n, r = .bool true ∧ IntsAre vs ns ∧ SrcNs ns ∧ o' = listOf vs.toArray n
set_option maxHeartbeats 8000000 in
theorem packet_ct (w : World) (p : Program) (loose : List Str) (mean : ExcName → Option Value) (mg mb : Str → Option Value) (d : Addr) (vs : List Value) (ns : List Int) (n : Nat)
    (hi : IntsAre vs ns) (hs : SrcNs ns) :
    CtS w p loose mean mg mb 6 355 [.ref d] d (listOf vs.toArray n) (fun _ => True) TruePk := by
  k_with_none
  k_with "eval Constant int" => ((with_reducible refine const_fr ?_); intro _ _)
  k_with "binaryOp Add int int" => ((with_reducible refine add_fr ?_); intro _ _)
  k_with "inplaceOp Add int int" => ((with_reducible refine iadd_fr ?_); intro _ _)
  k_with "binaryOp Sub int int" => ((with_reducible refine sub_fr ?_); intro _ _)
  k_with "LeaveD" => ((refine leaveD_ (by k_asm) (by k_asm) (by k_mem) ?_; intro kF kN; (try dsimp only)))
  k_with "call ref" => (( (with_reducible show wpAny _ _ (call (Value.ref 322) [Value.ref _, Value.int _ _]) _ _ _); k_dflt ((refine' take_use ?k1 ?k2 ?k3 ?k4 ?km ?ki ?ks ?k5 ?kK ?kt ?kl ?kd ?ku ?_); (case k1 => k_dflt (k_asm)); (case k2 => k_dflt (k_asm)); (case k3 => k_dflt (k_asm)); (case k4 => k_dflt (k_asm)); (case km => k_dflt (k_mem)); (case ki => k_dflt (assumption)); (case ks => k_dflt (assumption)); (case k5 => k_dflt (k_asm)); (case kK => k_dflt (exact rfl)); (case kt => k_dflt (first | assumption | decide +kernel | omega)); (case kl => k_dflt (first | assumption | decide +kernel | omega)); (case kd => k_dflt (ktr_room)); (case ku => k_dflt (ktr_units)); k_whole; intro r9 t9 vs9 ns9 n9 h9 tk9 hr0 hr1 hi9 hs9 F9 N9; replace N9 := N9 _ (by k_upd); (try k_sweep); (try dsimp only); (try k_fold))))
  k_with "call ref" => (( (with_reducible show wpAny _ _ (call (Value.ref 329) [Value.ref _, Value.ref _]) _ _ _); k_dflt ((refine' one_use ?k1 ?k2 ?k3 ?k4 ?km ?km2 ?kn ?ki ?ks ?kw ?k5 ?kK ?kt ?kl ?kd ?ku ?_); (case k1 => k_dflt (k_asm)); (case k2 => k_dflt (k_asm)); (case k3 => k_dflt (k_asm)); (case k4 => k_dflt (k_asm)); (case km => k_dflt (k_mem)); (case km2 => k_dflt (k_mem)); (case kn => k_dflt (k_ne)); (case ki => k_dflt (assumption)); (case ks => k_dflt (assumption)); (case kw => k_dflt (first | assumption | (repeat constructor))); (case k5 => k_dflt (k_asm)); (case kK => k_dflt (exact rfl)); (case kt => k_dflt (first | decide | assumption | exact Nat.zero_lt_succ _)); (case kl => k_dflt (first | decide | assumption | exact of_decide_eq_true rfl)); (case kd => k_dflt (ktr_room)); (case ku => k_dflt (ktr_units)); k_whole; intro r9 t9 vs9 ns9 n9 h9 tk9 hr9 hi9 hs9 F9 N9; replace N9 := N9 _ (by k_upd); (try k_sweep); (try dsimp only); (try k_fold))))
  k_with "spliced" => (dsimp only)
  k_with "CompSrc" => ((k_here; k_dflt (refine LCg.CompSrc.range (by rfl) (by k_asm) (by k_asm) (by assumption) (by exact small_one (by omega) (by omega) (by omega) (by omega)) (by exact rangeSize_nat _ _) (by (rw [PySem.sizeLine_eq]; omega)) ?_; intro g'; (refine' draw_rest (by assumption) (by assumption) (fun _ => trivial) (fun vs9 ns9 k9z I' oI' C' oC' D' m' ys' h' tk' E' hi9 hs9 hC' F' N' off' ne' => ?_) (fun ys9 ks9 vs9 ns9 k9z hy9 hl9 hin9 hi9 hs9 D' h' tk' F' N' off' => ?_)); (all_goals (try (simp only [LCg.Off3, LCg.Off1, and_true] at off'))); (all_goals (try (rcases ks9 with _ | ⟨k9z, kr9⟩))); (all_goals (try (simp only [List.length_cons, List.length_nil] at hl9))); (all_goals (try dsimp only)); (all_goals (try k_fold)))))
  k_with "CompEnd" => (k_dflt lcg_end)
  k_with "DrEl" => (k_dflt (rename _ ∈ [(0:Int), 3, 4, 5, 8, 11, 12, 13, 255] => hz9; exact ⟨_, _, _, _, _, rfl, (oct9 hz9).1, (oct9 hz9).2, by assumption, by assumption, by k_mem, by k_mem⟩))
  k_with "call type:bytes" => ((k_here; (with_reducible show wpAny _ _ (call (Value.type "bytes") [Value.ref _]) _ _ _); k_dflt (refine' make_own ?kbaF ?kbaN ?kbah ?kbal ?kbai ?kbar ?kban ?_; (case kbaF => k_asm); (case kbaN => k_asm); (case kbah => rfl); (case kbal => kba_isList); (case kbai => kba_listInts); (case kbar => assumption); (case kban => (simp only [List.length_cons, List.length_nil]; omega))); intro _ _ _ b9 hb9 F' N'; (try k_sweep)))
  k_with "compareOp Eq bytes bytes" => (k_dflt (first | refine eqb_nil (by assumption) ?_ | refine eqb_cons (by assumption) ?_))
  k_with "compareOp In int ref" => ((k_here; k_dflt (refine in5 (by k_asm) (by k_mem) ?_)))
  k_with "subscriptTail" => ((k_here; (with_reducible show wpAny _ _ (subscriptTail _ _ (Value.bytes _ _) (Value.int _ _)) _ _ _); k_dflt (refine item_lit (by kba_ints) (by (simp only [List.length_append, List.length_cons, List.length_nil]; omega)) (by omega) (by (simp only [List.length_append, List.length_cons, List.length_nil]; omega)) (by (simp only [Int.reduceAdd, Int.reduceToNat, List.cons_append, List.nil_append, List.getD_cons_zero, List.getD_cons_succ]; try exact rfl)) (by with_unfolding_all rfl) (by intro _; with_unfolding_all rfl) ?_); intro _ _ kbaLo kbaHi))
  k_with "call builtin:len" => ((k_here; (with_reducible show wpAny _ _ (call (Value.builtin "len") [Value.bytes _ _]) _ _ _); (k_dflt (refine len_lit (by kba_ints) (by (simp only [List.length_append, List.length_cons, List.length_nil, Nat.reduceAdd]; try exact rfl)) (by omega) ?_); intro _ _)))
  k_with "binaryOp LShift int int" => (((with_reducible show wpAny _ _ (binaryOp _ _ (Value.int 8 _)) _ _ _); k_dflt ((refine' shl8 ?k1 ?k2 ?_); (case k1 => omega); (case k2 => omega); k_whole; intro _ _ v9 hv9)))
  k_with "binaryOp BitOr int int" => ((k_dflt ((refine' or8 ?k1 ?k2 ?k3 ?k4 ?_); (case k1 => assumption); (case k2 => omega); (case k3 => omega); (case k4 => omega); k_whole; intro _ _ v9 hv9)))
  k_with "compareOp NotEq bool bool" => (with_reducible refine ne_same ?_)
  k_with "call ref" => (((with_reducible show wpAny _ _ (call (Value.ref 241) [Value.int _ _, Value.int _ _, Value.int _ _]) _ _ _); k_dflt (refine' hdr_use ?k1 ?k2 ?k3 ?k4 ?k5 ?kK ?kd ?ku ?_); (case k1 => k_dflt (k_asm)); (case k2 => k_dflt (k_asm)); (case k3 => k_dflt (k_asm)); (case k4 => k_dflt (k_asm)); (case k5 => k_dflt (k_asm)); (case kK => k_dflt (exact rfl)); (case kd => k_dflt (ktr_room)); (case ku => k_dflt (ktr_units)); k_whole; intro x9 dx9 o91 o92 h9 tk9 ho9 F9 N9 l91 l92; (try (simp only [AllLt, and_true] at l91)); k_lt2 l92; (try k_sweep); (try dsimp only); (try k_fold)))
  k_with "call ref" => (((with_reducible show wpAny _ _ (call (Value.ref 266) [Value.ref _, Value.bytes _ _]) _ _ _); k_dflt (refine' car_use ?k1 ?k2 ?k3 ?k4 ?km1 ?km2 ?ko ?k5 ?kK ?kb ?kl ?ke ?kd ?ku ?_); (case k1 => k_dflt (k_asm)); (case k2 => k_dflt (k_asm)); (case k3 => k_dflt (k_asm)); (case k4 => k_dflt (k_asm)); (case ko => k_dflt (assumption)); (case km1 => k_dflt (k_mem)); (case km2 => k_dflt (k_mem)); (case k5 => k_dflt (k_asm)); (case kK => k_dflt (exact rfl)); (case kb => k_dflt (assumption)); (case kl => k_dflt ((simp only [List.length_append, List.length_cons, List.length_nil]); omega)); (case ke => k_dflt (first | exact carV_n1 (by assumption) | exact carV_n0 (by assumption) | exact carV_c1 (by assumption) | exact carV_c0 (by assumption))); (case kd => k_dflt (ktr_room)); (case ku => k_dflt (ktr_units)); k_whole; intro h9 tk9 F9 N9; (try k_sweep); (try dsimp only); (try k_fold)))
  k_with "call ref" => (((with_reducible show wpAny _ _ (call (Value.ref 156) [Value.int _ _, Value.int _ _, Value.int _ _, Value.bytes _ _]) _ _ _); k_dflt (refine' msg_use ?k1 ?k2 ?k3 ?k4 ?k5 ?kK ?kd ?ku ?_); (case k1 => k_dflt (k_asm)); (case k2 => k_dflt (k_asm)); (case k3 => k_dflt (k_asm)); (case k4 => k_dflt (k_asm)); (case k5 => k_dflt (k_asm)); (case kK => k_dflt (exact rfl)); (case kd => k_dflt (ktr_room)); (case ku => k_dflt (ktr_units)); k_whole; intro x9 dx9 o91 o92 h9 tk9 ho9 F9 N9 l91 l92; (try (simp only [AllLt, and_true] at l91)); k_lt2 l92; (try k_sweep); (try dsimp only); (try k_fold)))
  k_with "call ref" => (((with_reducible show wpAny _ _ (call (Value.ref 181) [Value.ref _]) _ _ _); k_dflt (refine' pack_use ?k1 ?k2 ?k3 ?k4 ?km1 ?km2 ?ko ?k5 ?kK ?kb ?kl ?k60 ?k61 ?k62 ?k63 ?k64 ?k65 ?kd ?ku ?_); (case k1 => k_dflt (k_asm)); (case k2 => k_dflt (k_asm)); (case k3 => k_dflt (k_asm)); (case k4 => k_dflt (k_asm)); (case ko => k_dflt (assumption)); (case km1 => k_dflt (k_mem)); (case km2 => k_dflt (k_mem)); (case k5 => k_dflt (k_asm)); (case kK => k_dflt (exact rfl)); (case kb => k_dflt (assumption)); (case kl => k_dflt ((simp only [List.length_append, List.length_cons, List.length_nil]); omega)); (case k60 => k_dflt (first | assumption | omega)); (case k61 => k_dflt (first | assumption | omega)); (case k62 => k_dflt (first | assumption | omega)); (case k63 => k_dflt (first | assumption | omega)); (case k64 => k_dflt (exact (rest_in (by assumption) (by assumption) (by assumption)).1)); (case k65 => k_dflt (exact (rest_in (by assumption) (by assumption) (by assumption)).2)); (case kd => k_dflt (ktr_room)); (case ku => k_dflt (ktr_units)); k_whole; intro b9 t9 a90 a91 a92 a93 v91 v92 h9 tk9 hb9 hW9 F9 N9; (try k_sweep); (try dsimp only); (try k_fold)))
  k_with "call ref" => (((with_reducible show wpAny _ _ (call (Value.ref 273) [Value.ref _]) _ _ _); k_dflt (refine' told_use ?k1 ?k2 ?k3 ?k4 ?km1 ?km2 ?ko ?k5 ?kK ?kb ?kl ?kd ?ku ?_); (case k1 => k_dflt (k_asm)); (case k2 => k_dflt (k_asm)); (case k3 => k_dflt (k_asm)); (case k4 => k_dflt (k_asm)); (case ko => k_dflt (assumption)); (case km1 => k_dflt (k_mem)); (case km2 => k_dflt (k_mem)); (case k5 => k_dflt (k_asm)); (case kK => k_dflt (exact rfl)); (case kb => k_dflt (assumption)); (case kl => k_dflt ((simp only [List.length_append, List.length_cons, List.length_nil]); omega)); (case kd => k_dflt (ktr_room)); (case ku => k_dflt (ktr_units)); k_whole; intro t9 h9 tk9 F9 N9; (try simp only [List.length_cons, List.length_nil]); (try k_sweep); (try dsimp only); (try k_fold)))
  k_with "call ref" => (((with_reducible show wpAny _ _ (call (Value.ref 343) [Value.bytes _ _]) _ _ _); k_dflt (refine' w_use ?k1 ?k2 ?k3 ?k4 ?k5 ?kK ?kb ?kl1 ?kd ?ku ?_); (case k1 => k_dflt (k_asm)); (case k2 => k_dflt (k_asm)); (case k3 => k_dflt (k_asm)); (case k4 => k_dflt (k_asm)); (case k5 => k_dflt (k_asm)); (case kK => k_dflt (exact rfl)); (case kb => k_dflt (assumption)); (case kl1 => k_dflt ((simp only [List.length_append, List.length_cons, List.length_nil]); omega)); (case kd => k_dflt (ktr_room)); (case ku => k_dflt (ktr_units)); k_whole; intro c9 t9 h9 tk9 hf9 F9 N9; (rename ∀ W, WFact _ W → W = 65535 => hW9; have hw9 := hW9 _ hf9); (try k_sweep); (try dsimp only); (try k_fold)))
  k_with "execs cons" => (((with_reducible show wpAny _ _ (execs (Stmt.Assign [Expr.Name (Str.ofString "due") _] _ _ :: Stmt.If _ _ _ _ :: _) _) _ _ _); (fail_if_success (with_reducible show wpAny _ _ _ (CutPost _ _) _ _)); k_dflt ((refine' cut2_use (Str.ofString "due") ?kF ?kN (fun F9 N9 => ?_) (fun h9 tk9 v9 F9 N9 => ?_)); (case kF => k_asm); (case kN => k_asm); (all_goals (try dsimp only)); (all_goals (try k_fold)))))
  k_with "CutPost" => (dsimp only [CutPost])
  k_with "CutMid" => (k_dflt ((rename News _ _ _ _ => nE'); (rename Fr _ _ _ _ => fE'); (refine' CutMid.intro fE' nE' ?hn ?hm); (case hn => kst_in); (case hm => (intro z hz; first | rfl | exact if_neg hz | (simp [hz]; done)))))
  unfold CtS P0
  k_fill
  intro dp un gd cn cs a ccd cl outer A₀ base h₀ L m news s Q E B F X N hm hneed T hk hd hu hret
  refine wpAny_call ?_
  k_dflt ((refine' code_cellD ?k1 ?k2 ?k3 ?k4 ?km ?k5 ?kA ?kF ?kK ?k6 ?k7 ?k8 ?k9 ?kB ?kD ?_ ?c2 ?c3 ?c4; (case kA => exact rfl); (case kF => exact rfl); (case kK => assumption); (case k1 => k_asm); (case k2 => k_asm); (case k3 => k_asm); (case k4 => k_asm); (case km => k_asm); (case k5 => k_asm); (case k6 => k_is); (case k7 => k_is); (case k8 => ktr_room); (case k9 => exact BindsTo.of_eq rfl); (case kB => exact rfl); (case kD => decide +kernel); (case c2 => exact rfl); (case c3 => exact rfl); (case c4 => exact rfl); k_whole; intro g' L' h' tk' cells' l9 hg' F' N' Y' B' X' T'; subst hg'; k_lt2 l9; k_cells Y'; (try simp only [List.cons_append, List.nil_append] at N'); (try dsimp only); (try k_fold)))
  k_steps
  all_goals (rename Fr h₀ L _ m => kF; rename ∀ nw, Upd d _ _ news nw → _ => kN; refine hret _ _ _ _ ⟨_, _, _, congrArg Value.bool ?_, by assumption, by assumption, rfl⟩ kF kN)
  all_goals first
    | (with_reducible exact beq_iff_eq.mpr (by assumption))
    | exact beq_iff_eq.mpr (by omega)
    | (exfalso; omega)
    | (exfalso; (rename (_ != (_ == _)) = true => hb); (rename _ ≠ (1:Int) => hc); rw [beq_eq_false_iff_ne.mpr hc] at hb; exact nomatch hb)

section
variable {w : World} {p : Program} {loose : List Str} {mean : ExcName → Option Value} {mg mb : Str → Option Value} {d : Addr} {vs : List Value} {ns : List Int} {n : Nat}
  {dp un : Nat} {gd : Option (List Code)} {cn : Str} {cs : Scope} {a : Addr} {ccd : Value} {cl : List (Str × Addr)} {outer : List Env} {A₀ : Around} {base h₀ : Heap} {L : Addr} {m : Str → Option Value} {s : Shared} {Q E : Value → Shared → Prop} {news : List (Addr × Obj)}

theorem packet_use (B : Below A₀ base outer h₀) (F : Fr h₀ L s.heap m) (X : (K9 w.params).In h₀) (N : News h₀ L s.heap news) (hm : (d, listOf vs.toArray n) ∈ news) (hi : IntsAre vs ns) (hs : SrcNs ns)
    (T : Top p loose mean mg mb h₀) (hk : cs.kind = .function) (hd : dp + 6 < recursionLimit) (hu : un + 8 * 6 < cLine)
    (ret : ∀ vs' ns' n' h' tk', IntsAre vs' ns' → SrcNs ns' → Fr h₀ L h' m → (∀ nw, Upd d (listOf vs.toArray n) (listOf vs'.toArray n') news nw → News h₀ L h' nw) → Q (.bool true) { s with heap := h', toks := tk' }) :
    wpAny (model P0 w) (ktrTop dp un gd cn cs L a ccd cl outer) (call (.ref 355) [.ref d]) Q E s := by
  refine packet_ct w p loose mean mg mb d vs ns n hi hs _ _ _ _ _ _ _ _ _ _ _ _ _ _ _ _ _ _ B F X N hm trivial T hk hd hu ?_
  rintro _ _ h' tk' ⟨vs', ns', n', rfl, h5, h6, rfl⟩ F' N'
  exact ret _ _ n' h' tk' h5 h6 F' N'
end

-- Pool
open PySem.Calls
theorem ownOff_one {own : List (Addr × Obj)} {D : Addr} (h : ∀ q ∈ own, @Ne Nat q.1 D) : OwnOff own [D] := fun q hq a ha => by rw [List.mem_singleton.mp ha]; exact h q hq
def LeaveQ (h₀ : Heap) (L : Addr) (m : Str → Option Value) (g : Heap) (news : List (Addr × Obj)) (R : Result → Shared → Prop) (v : Value) (s' : Shared) : Prop :=
  ∃ L' m' news' D o, Fr g L' s'.heap m' ∧ News g L' s'.heap news' ∧ (D, o) ∈ news' ∧ (Fr h₀ L s'.heap m → News h₀ L s'.heap ((D, o) :: news) → (∀ q ∈ news, q.1 ≠ D) → R (.ok (.ret v)) s')
theorem leaveQ_ {h₀ g : Heap} {L L' D : Addr} {o : Obj} {m m' : Str → Option Value} {news news' : List (Addr × Obj)} {R : Result → Shared → Prop} {v : Value} {s' : Shared} (F' : Fr g L' s'.heap m') (N' : News g L' s'.heap news') (hm : (D, o) ∈ news')
    (k : Fr h₀ L s'.heap m → News h₀ L s'.heap ((D, o) :: news) → (∀ q ∈ news, q.1 ≠ D) → R (.ok (.ret v)) s') : LeaveQ h₀ L m g news R v s' := ⟨L', m', news', D, o, F', N', hm, k⟩
section
variable {prog : Program} {w : World} {A A₀ : Around} {E : Value → Shared → Prop} {s : Shared} {K : Frag} {C L : Addr} {h₀ base : Heap} {m mg mb : Str → Option Value} {news : List (Addr × Obj)} {p : Program} {loose : List Str} {mean : ExcName → Option Value} {Q : Value → Shared → Prop}
/-- the call of a def of the text that hands back one new object -/
theorem code_defQ {env : Env} {outer : List Env} {R : Result → Shared → Prop} {name qual : Str} {params : Arguments} {body : List Stmt} {scope : Scope} {dV kV doc pm cdv ct oc : Value} {an od : Option Addr} {osl : Array (Option Value)} {f : Addr} {args : Args} {binds : List (Str × Value)}
    (B : Below A₀ base outer h₀) (F : Fr h₀ L s.heap m) (X₀ : K.In h₀) (N : News h₀ L s.heap news) (T : Top p loose mean mg mb h₀) (hA : A.frames = some (env :: outer)) (hf : env.frame = some L) (hke : env.scope.kind = .function)
    (ho : K.lookup f = some ⟨oc, od, .func (fnOf name qual params body scope dV kV doc pm an cdv ct), osl⟩) (hcd : codeIn K cdv qual = true) (hroom : A.depth < recursionLimit)
    (hbind : BindsTo s (fnOf name qual params body scope dV kV doc pm an cdv ct) args binds) (hloc : ∀ y ∈ binds, scope.names.lookup y.1 = some .local)
    (h : ∀ g L' h₁, g = s.heap → Fr g L' h₁ (fun y => binds.reverse.lookup y) → News g L' h₁ [] → Below A base (env :: outer) g → K.In g → Top p loose mean mg mb g →
      wpAny (model prog w) (A.deeper (envOf qual scope L' f cdv)) (execs body (envOf qual scope L' f cdv))
        (fun fl s' => LeaveQ h₀ L m g news R (match fl with | .ret v => v | _ => .none) s')
        (fun e s' => wpAny (model prog w) (A.deeper (envOf qual scope L' f cdv)) (leaving (envOf qual scope L' f cdv) e) (fun _ s'' => R (.error e) s'') (fun e' s'' => R (.error e') s'') s')
        { s with heap := h₁, toks := s.toks + binds.length })
    (hco : scope.isCoroutine = false) (hgen : scope.isGenerator = false) (hk : scope.kind = .function)
    (hcell : ∀ x ∈ scope.names, x.2 ≠ .cell) : codeAny (model prog w) A (.call (.ref f) args) R s := by
  have N1 : News h₀ L s.heap [] := fun q hq => nomatch hq
  obtain ⟨_, BG, st, lv⟩ := groundX (R := R) B F N1 hA hf hke
  have X := X₀.keeps F.keep
  refine codeAny_call_def (fd := fnOf name qual params body scope dV kV doc pm an cdv ct) (body := body) (binds := binds) hroom (X _ _ ho) rfl (T.nolimit.keeps F.keep) (codeRec_of X hcd) rfl hbind hcell hloc (fun h₁ hns hk₁ => ?_) hco hgen hk
  refine wpAny_mono (h s.heap s.heap.objs.size h₁ rfl ⟨hns, fun b ob e => hk₁ b ob e, Nat.le_refl _⟩
    (fun q hq => nomatch hq) BG (X₀.keeps st) (T.keeps st)) (fun fl s' hl => ?_) fun _ _ y => y
  obtain ⟨L', m', news', D, o, F', N', hm, k⟩ := hl
  have N2 : News s.heap L' s'.heap [(D, o)] := fun q hq => by rw [List.mem_singleton.mp hq]; exact N' _ hm
  refine lv _ _ ⟨L', m', [(D, o)], F', N2, fun F₂ N₂ => k F₂ (fun q hq => ?_) fun q hq e => ?_⟩
  · rcases List.mem_cons.mp hq with rfl | hq
    · exact N₂ _ (.head _)
    · exact ⟨F'.keep _ _ (N q hq).1, (N q hq).2⟩
  · have := (N' _ hm).2.2
    rw [← e, (N q hq).1] at this
    cases this
end
theorem big_nn {c : Int} {b : Bool} : 0 ≤ (if -1 - c > c then -1 - c else c) * (if b = true then 1 else 0) :=
  Int.mul_nonneg (by split <;> omega) (by split <;> decide)
theorem fmod_pos2 (a : Int) : 0 ≤ a.fmod 2147483647 ∧ a.fmod 2147483647 < 2147483647 := fmod_pos a (by decide)
set_option maxHeartbeats 8000000 in
theorem pool_use {w : World} {p : Program} {loose : List Str} {mean : ExcName → Option Value} {mg mb : Str → Option Value}
    {dp un : Nat} {gd : Option (List Code)} {cn : Str} {cs : Scope} {a : Addr} {ccd : Value} {cl : List (Str × Addr)} {outer : List Env} {A₀ : Around} {base h₀ : Heap} {L : Addr} {m : Str → Option Value} {s : Shared} {Q E : Value → Shared → Prop} {news : List (Addr × Obj)} {sc : Addr} {ws : List Value} {ms : List Int} {k : Int} {tk : Tok}
    (B : Below A₀ base outer h₀) (F : Fr h₀ L s.heap m) (X : (K9 w.params).In h₀) (N : News h₀ L s.heap news) (hl : h₀.IsList sc ws.toArray) (hi : IntsAre ws ms) (hn : ms.length ≤ 63) (hk0 : 0 ≤ k) (hk1 : k < 2)
    (T : Top p loose mean mg mb h₀) (hk : cs.kind = .function) (hd : dp + 1 < recursionLimit) (hu : un + 8 * 1 < cLine)
    (ret : ∀ D vs ns n h' tk', IntsAre vs ns → SrcNs ns → Fr h₀ L h' m → News h₀ L h' ((D, listOf vs.toArray n) :: news) → (∀ q ∈ news, @Ne Nat q.1 D) → Q (.ref D) { s with heap := h', toks := tk' }) :
    wpAny (model P0 w) (ktrTop dp un gd cn cs L a ccd cl outer) (call (.ref 315) [.ref sc, .int k tk]) Q E s := by
  k_with_none
  k_with "eval Constant int" => ((with_reducible refine const_fr ?_); intro _ _)
  k_with "binaryOp Add int int" => ((with_reducible refine add_fr ?_); intro _ _)
  k_with "inplaceOp Add int int" => ((with_reducible refine iadd_fr ?_); intro _ _)
  k_with "binaryOp Sub int int" => ((with_reducible refine sub_fr ?_); intro _ _)
  k_with "spliced" => (dsimp only)
  k_with "LeaveQ" => ((refine leaveQ_ (by k_asm) (by k_asm) (by k_mem) ?_; intro kF kN kD; (try dsimp only)))
  unfold P0
  have hl2 : s.heap.IsList sc ws.toArray := stays_list F.keep hl
  clear hl
  revert X
  k_fill
  intro X
  refine wpAny_call ?_
  k_dflt ((refine' code_defQ ?k1 ?k2 ?k3 ?k4 ?k5 ?kA ?kF ?kK ?k6 ?k7 ?k8 ?k9 ?kB ?_ ?c2 ?c3 ?c4 ?c5; (case kA => exact rfl); (case kF => exact rfl); (case kK => assumption); (case k1 => k_asm); (case k2 => k_asm); (case k3 => k_asm); (case k4 => k_asm); (case k5 => k_asm); (case k6 => k_is); (case k7 => k_is); (case k8 => ktr_room); (case k9 => exact BindsTo.of_eq rfl); (case c5 => decide); (case kB => exact locs rfl); (case c2 => exact rfl); (case c3 => exact rfl); (case c4 => exact rfl); k_whole; intro g' L' h' hg' F' N' B' X' T'; subst hg'; (try dsimp only); (try k_fold)))
  k_steps
  all_goals (rename Fr h₀ L _ m => kF; rename News h₀ L _ (_ :: news) => kN; rename ∀ q ∈ news, q.1 ≠ _ => kD; exact ret _ _ _ _ _ _ (srcNs_ints _ _ _ _) ⟨_, _, rfl, by first | exact big_nn | decide, (fmod_pos2 _).1, (fmod_pos2 _).2⟩ kF kN kD)

-- Form1
open PySem.Calls PySem.Spec

/-- an own exception class C under one own class D, whose base is a built-in -/
structure Two (h : Heap) (C D : Addr) (B : String) (bmB : List Value) (newId : String) (mN mD : Str → Option Value) : Prop where
  cls : ∃ nm q N bs sn sub ab col dd k0 k1 k2 k3 k5, h.get? C = some (excClassObj nm q C N bs (.ref D :: bmB) true sn sub ab col dd k0 k1 k2 k3 k5 newId) ∧ h.Ns N mN
  up : ∃ c0 dd cd sl, h.get? D = some { cls := c0, dict := dd, data := .cls cd, slots := sl } ∧ h.Ns cd.ns mD
theorem Two.keeps {h h' : Heap} {C D : Addr} {B : String} {bmB : List Value} {newId : String} {mN mD : Str → Option Value} (T : Two h C D B bmB newId mN mD)
    (hk : ∀ b o, h.get? b = some o → h'.get? b = some o) : Two h' C D B bmB newId mN mD := by
  obtain ⟨⟨nm, q, N, bs, sn, sub, ab, col, dd, k0, k1, k2, k3, k5, hC, hN⟩, c0, dd', cd, sl, hD, hM⟩ := T
  exact ⟨⟨nm, q, N, bs, sn, sub, ab, col, dd, k0, k1, k2, k3, k5, hk _ _ hC, hN.keeps hk⟩, c0, dd', cd, sl, hk _ _ hD, hM.keeps hk⟩

section
variable {M : Model} {A : Around} {E : Value → Shared → Prop} {h : Heap} {g : Array GenState} {d : Drawn} {t : Nat} {os : OsState} {C D : Addr} {B : String} {bmB : List Value} {newId : String} {mN mD : Str → Option Value}
theorem two_lookup {name : Str} {y : Option Value} {Q : Option Value → Shared → Prop} (T : Two h C D B bmB newId mN mD) (h1 : mN name = none) (hbm : mroOf (.type B) = pure bmB) (hB : typeLookup (.type B) name = pure y)
    (hq : Q (match mD name with | some v => some v | none => y) ⟨h, g, d, t, os⟩) : wpAny M A (typeLookup (.ref C) name) Q E ⟨h, g, d, t, os⟩ := by
  obtain ⟨⟨nm, q, N, bs, sn, sub, ab, col, dd, k0, k1, k2, k3, k5, hC, hN⟩, c0, dd', cd, sl, hD, hM⟩ := T
  have hrest : lookupAlong bmB name = pure y := by rw [typeLookup_eq, hbm] at hB; exact hB
  rw [typeLookup_eq]
  refine wpAny_bind (wpAny_mroOf_exc hC ?_)
  rw [lookupAlong_cons]
  refine wpAny_bind (wpAny_classOwn_exc hC hN ?_)
  rw [h1]
  show wpAny M A (lookupAlong (.ref D :: bmB) name) Q E _
  rw [lookupAlong_cons]
  refine wpAny_bind (wpAny_classOwn_cls hD hM ?_)
  cases hv : mD name with
  | some v => rw [hv] at hq; exact wpAny_pure hq
  | none => rw [hv] at hq; rw [hrest]; exact wpAny_pure hq
end

section
variable {prog : Program} {w : World} {A : Around} {E : Value → Shared → Prop} {h : Heap} {g : Array GenState} {d : Drawn} {t : Nat} {os : OsState} {C D : Addr} {B newId initId : String} {bmB : List Value} {mN mD : Str → Option Value}
theorem two_has {X : String} (T : bmB.contains (.type X) = true) : (Value.ref C :: .ref D :: bmB).contains (.type X) = true := by
  rw [List.contains_cons, List.contains_cons, T, Bool.or_true, Bool.or_true]
theorem two_hasnt {X : String} (T : bmB.contains (.type X) = false) : (Value.ref C :: .ref D :: bmB).contains (.type X) = false := by
  rw [List.contains_cons, List.contains_cons, T]; rfl

set_option maxHeartbeats 2000000 in
theorem two_type_call (F : ExcBaseFacts B newId initId bmB) (T : Two h C D B bmB newId mN mD) (h1 : mN "__init__" = none) {fI : Addr} {oI : Obj} (hi : mD "__init__" = some (.ref fI)) {rest : List Value} {Q : Fin → Shared → Prop}
    (hfI : h.get? fI = some oI) (hfc : oI.cls = .type "function") (hrest : rest.length ≤ sizeLine)
    (hq : ∀ h' e, Heap.MadeExcOf h h' e (.ref C) rest →
      wpAny (model prog w) A (call (.ref fI) (.ref e :: rest)) (fun r s' => r = .none ∧ Q (.done (.ret (.ref e))) s') E ⟨h', g, d, t, os⟩) :
    wpAny (model prog w) A (Builtin.«type.__call__» ⟨.ref C :: rest, []⟩) Q E ⟨h, g, d, t, os⟩ := by
  have T' := T
  obtain ⟨⟨nm, q, N, bs, sn, sub, ab, col, dd, k0, k1, k2, k3, k5, hC, hN⟩, _⟩ := T'
  have hstar := F.noStar
  have hends := F.ends
  have hcB := two_has (C := C) (D := D) F.hasB
  have hcA := two_hasnt (C := C) (D := D) F.noAttr
  have hcN := two_hasnt (C := C) (D := D) F.noName
  repeat (first | with_reducible refine wpAny_loadPart_at hC ?_ | with_reducible refine wpAny_madeBy_exc hC ?_ | wp_step)
  refine codeAny_call_builtin_code (Code.quiet_builtin _ F.quiet) ?_
  · simp only [checkBuiltinCall, F.newKind, F.newSplit, F.newRow]
    repeat (first | refine wpAny_loadPart_at hC ?_ | (refine wpAny_isSubtype_exc hC ?_; rw [hcB]) | refine wpAny_staticBase_exc hC ?_ | refine wpAny_madeBy_exc hC ?_ | simp only [bne_self_eq_false, Bool.false_eq_true, if_false] | wp_step)
    refine codeAny_builtinAt F.entry ?_
    unfold Builtin.«BaseException.__new__»
    refine PySem.wpAt_bind ?_
    show PySem.wpAt _ _ _ (stack >>= _) _ _ _
    refine PySem.wpAt_bind (PySem.wpAt_stack fun p below => PySem.wpAt_of_wpAny ?_)
    wp_walk
    refine PySem.wpAt_of_wpAny ?_
    rw [F.owner]
    repeat (first | with_reducible refine wpAny_madeHere_exc F.canon hC ?_ | with_reducible refine wpAny_loadPart_at hC ?_ | (with_reducible refine wpAny_isSubtype_exc hC ?_; first | rw [hcB] | rw [hcA] | rw [hcN]) | wp_step)
    rw [Heap.size_push]
    have hC₁ := Heap.get?_push_of_some { cls := .ref C, data := .fields #[.ref h.objs.size, .none, .none, .none, .bool false, .none] }
      (Heap.get?_push_of_some { cls := .type "tuple", data := .seq rest.toArray } hC)
    have hfI₁ := Heap.get?_push_of_some { cls := .ref C, data := .fields #[.ref h.objs.size, .none, .none, .none, .bool false, .none] }
      (Heap.get?_push_of_some { cls := .type "tuple", data := .seq rest.toArray } hfI)
    have T₁ := T.keeps (h' := (h.push { cls := .type "tuple", data := .seq rest.toArray }).push { cls := .ref C, data := .fields #[.ref h.objs.size, .none, .none, .none, .bool false, .none] })
      fun b o e => Heap.get?_push_of_some _ (Heap.get?_push_of_some _ e)
    have hget : ((h.push { cls := .type "tuple", data := .seq rest.toArray }).push
        { cls := .ref C, data := .fields #[.ref h.objs.size, .none, .none, .none, .bool false, .none] }).get? (h.objs.size + 1) = some
        { cls := .ref C, data := .fields #[.ref h.objs.size, .none, .none, .none, .bool false, .none] } := by heap_get
    have hcC : (Value.ref C :: .ref D :: bmB).contains (.ref C) = true := by simp
    show wpAny _ _ (isSubtype (.ref C) (.ref C)) _ _ ⟨(h.push { cls := .type "tuple", data := .seq rest.toArray }).push
        { cls := .ref C, data := .fields #[.ref h.objs.size, .none, .none, .none, .bool false, .none] }, g, d, t, os⟩
    refine wpAny_isSubtype_exc hC₁ ?_
    rw [hcC]
    repeat (first | with_reducible refine wpAny_loadPart_at hget ?_ | wp_step)
    show wpAny _ _ (typeLookup (.ref C) _) _ _ _
    refine two_lookup T₁ h1 F.mroIs F.init.lookup ?_
    rw [hi]
    refine wpAny_holding (wpAny_bind ?_)
    unfold bindSpecial
    refine wpAny_bind (wpAny_typeOf (T := "function") ⟨_, hfI₁, hfc⟩ ?_)
    rw [if_pos (by decide)]
    refine wpAny_pure (wpAny_bind (wpAny_mono (hq _ (h.objs.size + 1) ⟨fun b o hb => Heap.get?_push_of_some _ (Heap.get?_push_of_some _ hb), Heap.get?_none_of_le (Nat.le_succ _), h.objs.size, hget, Heap.get?_none_of_le (Nat.le_refl _), ?_⟩) (fun r s' hr => ?_) fun _ _ x => x))
    · exact Heap.get?_push_of_some _ (Heap.get?_push_at rfl rfl)
    · obtain ⟨rfl, hQ⟩ := hr
      wp_walk
      exact hQ

theorem two_call (F : ExcBaseFacts B newId initId bmB) (T : Two h C D B bmB newId mN mD) (h1 : mN "__init__" = none) {fI : Addr} {oI : Obj} (hi : mD "__init__" = some (.ref fI)) {rest : List Value} {Q : Value → Shared → Prop}
    (hfI : h.get? fI = some oI) (hfc : oI.cls = .type "function") (hrest : rest.length ≤ sizeLine)
    (hq : ∀ h' e, Heap.MadeExcOf h h' e (.ref C) rest →
      wpAny (model prog w) (A.under (.builtin "type.__call__" ⟨.ref C :: rest, []⟩)) (call (.ref fI) (.ref e :: rest)) (fun r s' => r = .none ∧ Q (.ref e) s') E ⟨h', g, d, t, os⟩) :
    wpAny (model prog w) A (call (.ref C) rest) Q E ⟨h, g, d, t, os⟩ := by
  have T' := T
  obtain ⟨⟨nm, q, N, bs, sn, sub, ab, col, dd, k0, k1, k2, k3, k5, hC, hN⟩, _⟩ := T'
  have f1 := tc_lookup
  have f2 := tc_bind (.ref C)
  have hT : (⟨h, g, d, t, os⟩ : Shared).TypeIs (.ref C) "type" := ⟨_, hC, rfl⟩
  refine wpAny_call (codeAny_of_tree ?_)
  show wpAny _ _ (callAny (.ref C) _) _ _ _
  repeat (any_goals (first | assumption | with_reducible refine wpAny_loadPart_at hC ?_ | wp_step))
  refine ⟨rfl, ?_⟩
  refine codeAny_call_builtin_at (Code.quiet_builtin _ (by decide +kernel)) entry_typeCall (wpAny_check_type_call_sub hC (two_type_call F T h1 hi hfI hfc hrest fun h' e hm => ?_))
  exact hq h' e hm
end


-- Form2
open PySem.Calls PySem.Spec


section
variable {prog : Program} {w : World} {A : Around} {E : Value → Shared → Prop} {h : Heap} {g : Array GenState} {d : Drawn} {t : Nat} {os : OsState} {C D : Addr} {B newId sa owner : String} {bmB : List Value} {mN mD : Str → Option Value}
open PySem.Builtin PySem.Builtin.ObjectAttr in
theorem two_store_body {name : Str} {v : Value} {e : Addr} {o : Obj} {tk : Tok} {Q : PySem.Fin → Shared → Prop} (SF : StoreFacts B bmB sa owner) (T : Two h C D B bmB newId mN mD)
    (hn1 : mN name = none) (hn2 : mD name = none) (hB : typeLookup (.type B) name = pure none) (he : h.get? e = some o) (hc : o.cls = .ref C) (hdn : o.dict = none) {vs : Array Value} (hdt : o.data = .fields vs)
    (hq : ∀ h' tk' dd, h'.get? e = some { o with dict := some dd } → (∀ b ob, b ≠ e → h.get? b = some ob → h'.get? b = some ob) → Q (.done (.ret .none)) ⟨h', g, d, tk', os⟩) :
    wpAny (model prog w) A (Builtin.«object.__setattr__» ⟨[.ref e, .str name tk, v], []⟩) Q E ⟨h, g, d, t, os⟩ := by
  have T' := T
  obtain ⟨⟨nm, q, N, bs, sn, sub, ab, col, dd, k0, k1, k2, k3, k5, hC, hN⟩, _⟩ := T'
  have hpass := SF.passes (.ref e)
  have hnc : ∀ c, o.data ≠ .cls c := fun c q => by rw [hdt] at q; cases q
  unfold Builtin.«object.__setattr__»
  repeat (first | rw [refuse_eq] | (rw [refuseLoop_ref, refuseLoop_ref, hpass]) | (with_reducible refine wpAny_loadPart_at he ?_; rw [hc]) | with_reducible refine wpAny_mroOf_exc hC ?_ | (with_reducible refine two_lookup T hn1 SF.mro hB ?_; rw [hn2]) | wp_step)
  rw [hdn, if_neg (by simp [typeHasDict])]
  split
  · rename_i hcd
    cases hcd
  split
  · rename_i c hcd
    exact absurd hcd (hnc c)
  have he₁ : (h.push { cls := .type "dict", data := .dict #[] }).get? e = some o := Heap.get?_push_of_some _ he
  have hes : e ≠ h.objs.size := Nat.ne_of_lt (Heap.lt_size he)
  refine wpAny_bind (wpAny_alloc' ?_)
  refine wpAny_bind (wpAny_update' he₁ ?_)
  refine wpAny_pure ?_
  have hgd : ((h.push { cls := .type "dict", data := .dict #[] }).update e fun o => { cls := o.cls, dict := some h.objs.size, data := o.data, slots := o.slots }).get? h.objs.size
      = some { cls := .type "dict", data := .dict #[] } :=
    (Heap.get?_update_ne _ _ _ _ hes.symm).trans (Heap.get?_push_at rfl rfl)
  have hnd : ((h.push { cls := .type "dict", data := .dict #[] }).update e fun o => { cls := o.cls, dict := some h.objs.size, data := o.data, slots := o.slots }).Ns h.objs.size (fun _ => none) :=
    ⟨_, #[], _, hgd, rfl, fun e he => absurd he (by simp), fun _ => rfl⟩
  show wpAny _ _ (storeInDict h.objs.size (.str name tk) name v) _ _ _
  unfold storeInDict newKeyGuard
  refine wpAny_bind (wpAny_pure (wpAny_bind (wpAny_nsSet1 (Heap.Ns1.of_empty hnd) fun h' hn' hs => ?_)))
  obtain ⟨oD, esD, epD, hoD, hdD, hcD⟩ := hn'.count (Within.cons name v Within.nil)
  refine wpAny_bind (wpAny_lookBehind hoD (by rw [hdD]; exact pastItsLine_dict (Nat.le_trans hcD (by rw [List.length_cons, List.length_nil, sizeLine_eq]; omega))) ?_)
  wp_walk
  refine hq h' _ h.objs.size ?_ fun b ob hbe hb => ?_
  · refine (hs.2 e hes).trans (Heap.get?_update_self _ he₁ ?_)
    have hfr := (Heap.get?_some_iff.mp he).2
    obtain ⟨oc, od, odt, osl⟩ := o
    cases odt <;> first | rfl | exact hfr
  · exact (hs.2 b (Nat.ne_of_lt (Heap.lt_size hb))).trans ((Heap.get?_update_ne _ _ _ _ hbe).trans (Heap.get?_push_of_some _ hb))

/-- the first attribute of an exception's object stored -/
theorem two_store {name : Str} {v : Value} {e : Addr} {o : Obj} {Q : Unit → Shared → Prop} (SF : StoreFacts B bmB sa owner) (T : Two h C D B bmB newId mN mD) (hs1 : mN "__setattr__" = none) (hs2 : mD "__setattr__" = none)
    (hn1 : mN name = none) (hn2 : mD name = none) (hB : typeLookup (.type B) name = pure none) (he : h.get? e = some o) (hc : o.cls = .ref C) (hdn : o.dict = none) {vs : Array Value} (hdt : o.data = .fields vs)
    (hq : ∀ h' tk' dd, h'.get? e = some { o with dict := some dd } → (∀ b ob, b ≠ e → h.get? b = some ob → h'.get? b = some ob) → Q () ⟨h', g, d, tk', os⟩) :
    wpAny (model prog w) A (setAttr (.ref e) name v) Q E ⟨h, g, d, t, os⟩ := by
  have T' := T
  obtain ⟨⟨nm, q, N, bs, sn, sub, ab, col, dd, k0, k1, k2, k3, k5, hC, hN⟩, _⟩ := T'
  have f3 := SF.slot.bind (.ref e)
  unfold setAttr callSpecial? specialOf
  repeat (any_goals (first | assumption | (with_reducible refine wpAny_loadPart_at he ?_; rw [hc]) | (with_reducible refine two_lookup T hs1 SF.mro SF.slot.lookup ?_; rw [hs2]) | wp_step))
  have hcB : (Value.ref C :: .ref D :: bmB).contains (.type owner) = true := two_has SF.hasOwner
  have ha := SF.args (.ref e) (.str name t) v
  refine codeAny_call_builtin SF.slot.plain SF.entry ?_
  simp only [checkBuiltinCall, SF.kind, SF.split, List.cons_append, List.nil_append]
  refine wpAny_bind ?_
  unfold isInstance
  repeat (first | (with_reducible refine wpAny_loadPart_at he ?_; rw [hc]) | (with_reducible refine wpAny_isSubtype_exc hC ?_; rw [hcB]) | wp_step)
  have body := two_store_body (prog := prog) (w := w) (A := A.in1) (E := E) (g := g) (d := d) (t := t + 1) (os := os) (tk := t) (v := v) (Q := fun fin s' => fin = .done (.ret .none) ∧ Q () s') SF T hn1 hn2 hB he hc hdn hdt
    fun h' tk' dd x y => ⟨rfl, hq h' tk' dd x y⟩
  have fin : ∀ (P : PySem.Fin → Shared → Prop), (∀ s', Q () s' → P (.done (.ret .none)) s') → wpAny (model prog w) A.in1 (Builtin.«object.__setattr__» ⟨[.ref e, .str name t, v], []⟩) P E ⟨h, g, d, t + 1, os⟩ :=
    fun P hP => wpAny_mono body (fun f s' hf => by obtain ⟨rfl, hQ⟩ := hf; exact hP s' hQ) fun _ _ x => x
  have go : ∀ s', Q () s' → wpAny (model prog w) A (pure (some Value.none)) (fun a s' => wpAny (model prog w) A (match a with | some _ => pure PUnit.unit | _ => unsupported "internal:no-__setattr__") Q E s') E s' :=
    fun s' hQ => wpAny_pure (wpAny_pure hQ)
  cases hsig : Manifest.signature? sa with
  | none => exact wpAny_pure (fin _ fun s' hQ => go s' hQ)
  | some sig =>
    simp only [argsOk, hsig] at ha
    have h2 : Bind.checkArgs sa sig ⟨[.ref e, .str name t, v], []⟩ = pure () := ha
    show wpAny (model prog w) A.in1 (Bind.checkArgs sa sig ⟨[.ref e, .str name t, v], []⟩) _ _ _
    rw [h2]
    exact wpAny_pure (fin _ fun s' hQ => go s' hQ)
end

section
variable {M : Model} {A : Around} {E : Value → Shared → Prop} {C D : Addr} {B newId : String} {bmB : List Value} {mN mD : Str → Option Value} {env : Env}
/-- an object of such a class raised -/
theorem two_raise {s : Shared} {x : Sem Value} {Q : Flow → Shared → Prop} (hbase : bmB.contains (.type "BaseException") = true) (hh : A.handled = none)
    (h : wpAny M A x (fun v s₁ => ∃ e o t0 v2 v3 v4 v5, v = .ref e ∧ Two s₁.heap C D B bmB newId mN mD ∧ s₁.heap.get? e = some o ∧ o.cls = .ref C ∧ o.data = .fields #[t0, .none, v2, v3, v4, v5] ∧ E (.ref e) s₁) E s) :
    wpAny M A (raiseStmt env (some x) none) Q E s := by
  have hcB : (Value.ref C :: .ref D :: bmB).contains (.type "BaseException") = true := two_has hbase
  unfold raiseStmt
  refine wpAny_bind (wpAny_mono h (fun v s₁ h₁ => ?_) fun _ _ x => x)
  obtain ⟨e, o, t0, v2, v3, v4, v5, rfl, T, he, hc, hdt, hE⟩ := h₁
  obtain ⟨⟨nm, q, N, bs, sn, sub, ab, col, dd, k0, k1, k2, k3, k5, hC, hN⟩, _⟩ := T
  obtain ⟨hp, g, d, tk, os⟩ := s₁
  obtain ⟨oc, od, odt, osl⟩ := o
  dsimp only at hc hdt
  subst hc hdt
  repeat (first | with_reducible refine wpAny_loadPart_at he ?_ | with_reducible refine wpAny_loadPart_at hC ?_ | (with_reducible refine wpAny_isSubtype_exc hC ?_; rw [hcB]) | wp_step)
  exact wpAny_raiseNew_none hh hE
end

-- Form3
open PySem.Calls PySem.Spec

theorem ns_some_of {K : Frag} {h : Heap} {N : Addr} {mg : Str → Option Value} {n : Str} {v : Value} (X : K.In h) (G : h.Ns N mg) (e : nsIn K N n = some (some v)) : mg n = some v := by
  obtain ⟨o, es, ep, ho, hd, _, hf⟩ := G
  unfold nsIn at e
  split at e
  · rename_i c d es' n' sl q
    have q1 := X _ _ q
    rw [ho] at q1
    cases q1
    cases hd
    split at e
    · rename_i en he
      cases e
      rw [← hf]
      unfold nsFind findBy
      rw [← Array.find?_toList, he]
      rfl
    · split at e <;> cases e
  · cases e

abbrev bmX : List Value := [.type "Exception", .type "BaseException", .type "object"]
theorem nsOk_of {K : Frag} {N : Addr} {c : Value} {d : Option Addr} {es : Array DictEntry} {n : Nat} {sl : Array (Option Value)} (e : K.lookup N = some ⟨c, d, .dict es n, sl⟩)
    (hs : (es.all fun e => match e.key with | .str _ _ => true | _ => false) = true) : nsOkIn K N = true := by
  unfold nsOkIn
  rw [e]
  exact hs
theorem ok50 {w : World} {h : Heap} (X : (K9 w.params).In h) : h.isNs 50 = true := by
  have hp : PySem.Challenge.rw_on0342_01.row.prog = PySem.Challenge.rw_on0342_01.row.prog := rfl
  revert X hp
  k_fill
  intro X hp
  refine isNs_of_in X (nsOk_of (by k_is) ?_)
  simp
theorem ok37 {w : World} {h : Heap} (X : (K9 w.params).In h) : h.isNs 37 = true := by
  have hp : PySem.Challenge.rw_on0342_01.row.prog = PySem.Challenge.rw_on0342_01.row.prog := rfl
  revert X hp
  k_fill
  intro X hp
  refine isNs_of_in X (nsOk_of (by k_is) ?_)
  simp
/-- FormError and StackError stand in the heap -/
theorem form_two {w : World} {h : Heap} (X : (K9 w.params).In h) : Two h 51 38 "Exception" bmX "Exception.__new__" (h.nsMap 50) (h.nsMap 37) := by
  have o50 := ok50 X
  have o37 := ok37 X
  have hp : PySem.Challenge.rw_on0342_01.row.prog = PySem.Challenge.rw_on0342_01.row.prog := rfl
  revert X hp
  k_fill
  intro X hp
  have hD : ∃ c0 dd cd sl, (K9 w.params).lookup 38 = some { cls := c0, dict := dd, data := .cls cd, slots := sl } ∧ cd.ns = 37 := ⟨_, _, _, _, by k_is, rfl⟩
  obtain ⟨c0, dd, cd, sl, h38, hns⟩ := hD
  have hC : ∃ nm q bs sn sub ab col dd k0 k1 k2 k3 k5, (K9 w.params).lookup 51 = some (excClassObj nm q 51 50 bs (.ref 38 :: bmX) true sn sub ab col dd k0 k1 k2 k3 k5 "Exception.__new__") := ⟨_, _, _, _, _, _, _, _, _, _, _, _, _, by k_is⟩
  obtain ⟨nm, q, bs, sn, sub, ab, col, dd', k0, k1, k2, k3, k5, h51⟩ := hC
  refine ⟨⟨nm, q, 50, bs, sn, sub, ab, col, dd', k0, k1, k2, k3, k5, X 51 _ h51, .of_isNs o50⟩, c0, dd, cd, sl, X 38 _ h38, ?_⟩
  rw [hns]
  exact .of_isNs o37
theorem ns_none_in {K : Frag} {h : Heap} {N : Addr} {x : Str} (X : K.In h) (o : h.isNs N = true) (q : nsIn K N x = some none) : h.nsMap N x = none := ns_none_of X (.of_isNs o) q
theorem form_names {w : World} {h : Heap} (X : (K9 w.params).In h) : h.nsMap 50 "__init__" = none ∧ h.nsMap 37 "__init__" = some (.ref 35) ∧ h.nsMap 50 "__setattr__" = none ∧ h.nsMap 37 "__setattr__" = none ∧
    h.nsMap 50 "message" = none ∧ h.nsMap 37 "message" = none := by
  have o50 := ok50 X
  have o37 := ok37 X
  have hp : PySem.Challenge.rw_on0342_01.row.prog = PySem.Challenge.rw_on0342_01.row.prog := rfl
  revert X hp
  k_fill
  intro X hp
  exact ⟨ns_none_in X o50 (by k_is), ns_some_of X (.of_isNs o37) (by k_is), ns_none_in X o50 (by k_is), ns_none_in X o37 (by k_is), ns_none_in X o50 (by k_is), ns_none_in X o37 (by k_is)⟩
theorem msg_none : typeLookup (.type "Exception") "message" = pure none := by rw [typeLookup_type, builtinLookup_eq_fast]; kernel_rfl

-- Form4
open PySem.Calls PySem.Spec

abbrev excD (C t : Addr) (dd : Option Addr) : Obj := { cls := .ref C, dict := dd, data := .fields #[.ref t, .none, .none, .none, .bool false, .none] }
abbrev tupO (vs : List Value) : Obj := { cls := .type "tuple", data := .seq vs.toArray }
/-- an exception's object made, with an attribute stored -/
structure MadeD (g : Heap) (L : Addr) (h : Heap) (m : Str → Option Value) (e C t : Addr) (vs : List Value) (news : List (Addr × Obj)) : Prop where
  F : Fr g L h m
  N : News g L h news
  he : ∃ dd, h.get? e = some (excD C t dd)
  ht : h.get? t = some (tupO vs)
  ge : g.get? e = none
  gt : g.get? t = none
  eL : e ≠ L
  tL : t ≠ L
  ne : ∀ q ∈ news, q.1 ≠ e ∧ q.1 ≠ t

theorem heap_not {h : Heap} {a : Addr} {o : Obj} (hk : h.get? a = some o) {b : Addr} (hb : h.get? b = none) : a ≠ b := fun q => by rw [q, hb] at hk; cases hk
theorem lookup35 {w : World} : ∃ oc od name qual params body scope dV kV doc pm an cdv ct osl, (K9 w.params).lookup 35 = some ⟨oc, od, .func (fnOf name qual params body scope dV kV doc pm an cdv ct), osl⟩ ∧ oc = .type "function" := by
  have hp : PySem.Challenge.rw_on0342_01.row.prog = PySem.Challenge.rw_on0342_01.row.prog := rfl
  revert hp
  k_fill
  intro hp
  exact ⟨_, _, _, _, _, _, _, _, _, _, _, _, _, _, _, by k_is, rfl⟩

theorem form_call {w : World} {A A₀ : Around} {cn : Str} {cs : Scope} {L a : Addr} {ccd : Value} {outer : List Env} {base h₀ : Heap} {m mg mb : Str → Option Value} {news : List (Addr × Obj)} {s : Shared} {p : Program} {loose : List Str} {mean : ExcName → Option Value}
    {Q E : Value → Shared → Prop} {v : Value} (B : Below A₀ base outer h₀) (F : Fr h₀ L s.heap m) (X : (K9 w.params).In h₀) (N : News h₀ L s.heap news) (T : Top p loose mean mg mb h₀)
    (hA : A.frames = some (envOf cn cs L a ccd :: outer)) (hck : cs.kind = .function) (hroom : (A.under (.builtin "type.__call__" ⟨[.ref 51, v], []⟩)).depth < recursionLimit)
    (ret : ∀ e t h' tk', MadeD h₀ L h' m e 51 t [v] news → Q (.ref e) { s with heap := h', toks := tk' }) :
    wpAny (model P0 w) A (call (.ref 51) [v]) Q E s := by
  k_with_none
  k_with "eval Constant int" => ((with_reducible refine const_fr ?_); intro _ _)
  k_with "binaryOp Add int int" => ((with_reducible refine add_fr ?_); intro _ _)
  k_with "inplaceOp Add int int" => ((with_reducible refine iadd_fr ?_); intro _ _)
  k_with "binaryOp Sub int int" => ((with_reducible refine sub_fr ?_); intro _ _)
  obtain ⟨hp, g, d, tk, os⟩ := s
  have XS := X.keeps F.keep
  obtain ⟨n1, n2, n3, n4, n5, n6⟩ := form_names XS
  obtain ⟨oc, od, name, qual, params, body, scope, dV, kV, doc, pm, an, cdv, ct, osl, h35, hoc⟩ := lookup35 (w := w)
  refine two_call PySem.F.excBase_Exception (form_two XS) n1 n2 (XS 35 _ h35) hoc (by rw [sizeLine_eq]; exact of_decide_eq_true rfl) fun h1 e hm => ?_
  obtain ⟨t, he, htn, ht⟩ := hm.there
  have F1 : Fr h₀ L h1 m := F.keeps hm.keeps
  have fresh : ∀ b, hp.get? b = none → h₀.get? b = none := fun b hb => by
    cases q : h₀.get? b with
    | none => rfl
    | some o => have := F.keep b o q; rw [hb] at this; cases this
  have hL : ∀ b, hp.get? b = none → b ≠ L := fun b hb q => by
    obtain ⟨o, _, _, ho, _⟩ := F.ns
    rw [← q, hb] at ho; cases ho
  have hne : ∀ q ∈ news, q.1 ≠ e ∧ q.1 ≠ t := fun q hq => ⟨heap_not (N q hq).1 hm.new, heap_not (N q hq).1 htn⟩
  have het : t ≠ e := fun q => by rw [q, he] at ht; cases ht
  have N1 : News h₀ L h1 ((e, excD 51 t none) :: (t, tupO [v]) :: news) := fun q hq => by
    rcases List.mem_cons.mp hq with rfl | hq
    · exact ⟨he, hL _ hm.new, fresh _ hm.new⟩
    · rcases List.mem_cons.mp hq with rfl | hq
      · exact ⟨ht, hL _ htn, fresh _ htn⟩
      · exact ⟨hm.keeps _ _ (N q hq).1, (N q hq).2⟩
  have hmem : (e, excD 51 t none) ∈ (e, excD 51 t none) :: (t, tupO [v]) :: news := .head _
  have hA' : (A.under (.builtin "type.__call__" ⟨[.ref 51, v], []⟩)).frames = some (envOf cn cs L a ccd :: outer) := hA
  refine wpAny_call ?_
  have hpp : PySem.Challenge.rw_on0342_01.row.prog = PySem.Challenge.rw_on0342_01.row.prog := rfl
  revert hpp
  k_fill
  intro hpp
  k_dflt ((refine' code_defD ?k1 ?k2 ?k3 ?k4 ?km ?k5 ?kA ?kF ?kK ?k6 ?k7 ?k8 ?k9 ?kB ?_ ?c2 ?c3 ?c4 ?c5; (case kA => assumption); (case kF => exact rfl); (case kK => assumption); (case k1 => assumption); (case k2 => assumption); (case k3 => assumption); (case k4 => assumption); (case km => assumption); (case k5 => assumption); (case k6 => k_is); (case k7 => k_is); (case k8 => assumption); (case k9 => exact BindsTo.of_eq rfl); (case c5 => decide); (case kB => exact locs rfl); (case c2 => exact rfl); (case c3 => exact rfl); (case c4 => exact rfl); k_whole))
  intro g' L' h' hg' F' N' B' X' T'
  have eL' : e ≠ L' := (N' _ (.head _)).2.1
  have ge' : g'.get? e = none := (N' _ (.head _)).2.2
  obtain ⟨m1, m2, m3, m4, m5, m6⟩ := form_names (X'.keeps F'.keep)
  refine wpAny_execs_cons (plainObj_wpAny_Assign_Attribute (ld (v := v) F' rfl (ld (v := .ref e) F' rfl ?_)))
  refine two_store PySem.F.store_Exception (form_two (X'.keeps F'.keep)) m3 m4 m5 m6 msg_none (N' _ (.head _)).1 rfl rfl rfl fun h2 tk2 dd he2 hk2 => ?_
  have F2 : Fr g' L' h2 _ := ⟨by
      obtain ⟨o, es, ep, ho, r⟩ := F'.ns
      exact ⟨o, es, ep, hk2 _ _ (Ne.symm eL') ho, r⟩, fun b o q => hk2 _ _ (heap_not q ge') (F'.keep b o q), F'.above⟩
  refine wpAny_execs_nil (leaveD_ F2 (news' := [(e, excD 51 t (some dd))]) (fun q hq => ?_) (.head _) fun kF kN => ?_)
  · rw [List.mem_singleton.mp hq]
    exact ⟨he2, eL', ge'⟩
  · have kN' := kN _ (.head fun q hq => by
      rcases List.mem_cons.mp hq with rfl | hq
      · exact het
      · exact (hne q hq).1)
    refine ⟨rfl, ret e t _ _ ⟨kF, fun q hq => kN' q (.tail _ (.tail _ hq)), ⟨_, (kN' _ (.head _)).1⟩, (kN' _ (.tail _ (.head _))).1, fresh _ hm.new, fresh _ htn, hL _ hm.new, hL _ htn, hne⟩⟩

-- Form5
open PySem.Calls PySem.Spec


section
variable {M : Model} {A : Around} {E : Value → Shared → Prop} {s' : Shared} {base g h : Heap} {outer : List Env} {L a e t C : Addr} {m : Str → Option Value} {name : Str} {scope : Scope} {cd : Value} {Q : Unit → Shared → Prop} {news : List (Addr × Obj)}
theorem leave_raiseD {vs : List Value} (K : Below A base outer g) (R : MadeD g L s'.heap m e C t vs news)
    (hQ : ∀ h', RaisedS base g outer e (.ref C) t vs news h' → RaisedK base outer e (.ref C) t vs news h' → g.UpToSlots h' → Q () { s' with heap := h' }) (hk : scope.kind = .function := by rfl) :
    wpAny M (A.deeper (envOf name scope L a cd)) (leaving (envOf name scope L a cd) (.ref e)) Q E s' := by
  have F := R.F
  have N := R.N
  have K' := K.push (name := name) (a := a) (cd := cd) F hk
  have be : base.get? e = none := fresh_of_stays K.stays R.ge
  have bt : base.get? t = none := fresh_of_stays K.stays R.gt
  have hin : ∀ env ∈ (envOf name scope L a cd :: outer), ∀ b, env.frame = some b → b ∈ e :: t :: (envOf name scope L a cd :: outer).filterMap (·.frame) := fun env he b hb => .tail _ (.tail _ (List.mem_filterMap.mpr ⟨env, he, hb⟩))
  have out : ∀ b, b ≠ e → b ≠ t → b ∉ (envOf name scope L a cd :: outer).filterMap (·.frame) → b ∉ e :: t :: (envOf name scope L a cd :: outer).filterMap (·.frame) := fun b h1 h2 h3 hm => by
    rcases List.mem_cons.mp hm with q | hm
    · exact h1 q
    · rcases List.mem_cons.mp hm with q | hm
      · exact h2 q
      · exact h3 hm
  have st : base.StaysIn (hideAll s'.heap (e :: t :: (envOf name scope L a cd :: outer).filterMap (·.frame))) := fun b o q => hideAll_get _ (K'.stays b o q) (out b (heap_not q be) (heap_not q bt) fun hm => by
    rw [(K'.frames.mem hm).1] at q; cases q)
  have sg : ∀ b o, g.get? b = some o → b ∉ outer.filterMap (·.frame) → (hideAll s'.heap (e :: t :: (envOf name scope L a cd :: outer).filterMap (·.frame))).get? b = some o := fun b o q nm => hideAll_get _ (F.keep b o q) (out b (heap_not q R.ge) (heap_not q R.gt) fun hm => by
    rcases kts_mem hm with z | z
    · rw [z, kts_self F] at q
      cases q
    · exact nm z)
  have hl : ∀ q ∈ news, (hideAll s'.heap (e :: t :: (envOf name scope L a cd :: outer).filterMap (·.frame))).get? q.1 = some q.2 ∧ g.get? q.1 = none ∧ base.get? q.1 = none := fun q hq => by
    refine ⟨hideAll_get _ (N q hq).1 (out _ (R.ne q hq).1 (R.ne q hq).2 fun hm => ?_), (N q hq).2.2, fresh_of_stays K.stays (N q hq).2.2⟩
    obtain ⟨env, he, hf⟩ := List.mem_filterMap.mp hm
    rcases List.mem_cons.mp he with rfl | he
    · exact (N q hq).2.1 (Option.some.inj hf).symm
    · obtain ⟨o, ho, _⟩ := (K.frames.mem (List.mem_filterMap.mpr ⟨env, he, hf⟩)).2
      rw [(N q hq).2.2] at ho; cases ho
  have hen : (hideAll s'.heap (e :: t :: (envOf name scope L a cd :: outer).filterMap (·.frame))).get? e = none := hideAll_none _ (.head _)
  have htn : (hideAll s'.heap (e :: t :: (envOf name scope L a cd :: outer).filterMap (·.frame))).get? t = none := hideAll_none _ (.tail _ (.head _))
  obtain ⟨dd, he⟩ := R.he
  refine wpAny_leaving_firstW (base := hideAll s'.heap (e :: t :: (envOf name scope L a cd :: outer).filterMap (·.frame))) (a0 := .ref t) K'.stack (funFrames_hide K'.frames hin) rfl he (fun b o q => of_hideAll _ q) hen rfl rfl rfl fun h' hL => ?_
  obtain ⟨k1, ⟨_, _, k2⟩, k3, k4⟩ := hL
  have S : RaisedS base g outer e (.ref C) t vs news h' := ⟨⟨_, st, sg, hl, ⟨k1, hen, k2, k3⟩, htn⟩, Heap.TupAt.of_slots ⟨_, _, R.ht, rfl, rfl⟩ k4⟩
  exact hQ h' S S.toK ((Heap.UpToSlots.of_keeps F.keep).trans k4)
end

/-- what is wanted behind the argument of the exception's call -/
def RaiseArg (h₀ : Heap) (L C : Addr) (E : Value → Shared → Prop) (v : Value) (s₂ : Shared) : Prop :=
  ∃ m news, Fr h₀ L s₂.heap m ∧ News h₀ L s₂.heap news ∧ ∀ e t h' tk', MadeD h₀ L h' m e C t [v] news → E (.ref e) { s₂ with heap := h', toks := tk' }
theorem raiseArg_ {h₀ : Heap} {L C : Addr} {E : Value → Shared → Prop} {v : Value} {s₂ : Shared} {m : Str → Option Value} {news : List (Addr × Obj)} (F : Fr h₀ L s₂.heap m) (N : News h₀ L s₂.heap news)
    (h : ∀ e t h' tk', MadeD h₀ L h' m e C t [v] news → E (.ref e) { s₂ with heap := h', toks := tk' }) : RaiseArg h₀ L C E v s₂ := ⟨m, news, F, N, h⟩

theorem raise_form {w : World} {A A₀ : Around} {cn : Str} {cs : Scope} {L a : Addr} {ccd : Value} {outer : List Env} {base h₀ : Heap} {m mg mb : Str → Option Value} {s : Shared} {p : Program} {loose : List Str} {mean : ExcName → Option Value}
    {Q : Flow → Shared → Prop} {E : Value → Shared → Prop} {x : Str} {np cpos pos : Pos} {e₀ : Expr} (B : Below A₀ base outer h₀) (F : Fr h₀ L s.heap m) (X : (K9 w.params).In h₀) (T : Top p loose mean mg mb h₀)
    (hA : A.frames = some (envOf cn cs L a ccd :: outer)) (hh : A.handled = none) (hroom : ∀ v, (A.under (.builtin "type.__call__" ⟨[.ref 51, v], []⟩)).depth < recursionLimit)
    (ex : nsIn (K9 w.params) mainGlobals x = some (some (.ref 51)))
    (h : wpAny (model P0 w) A (eval e₀ (envOf cn cs L a ccd)) (fun v s₂ => RaiseArg h₀ L 51 E v s₂) E s)
    (he : starEach [e₀] (envOf cn cs L a ccd) = (false, eval e₀ (envOf cn cs L a ccd)) :: starEach [] (envOf cn cs L a ccd) := by rfl)
    (hk : cs.kind = .function := by rfl) (hx : (envOf cn cs L a ccd).kindOf x = some .globalImplicit := by rfl) (hd' : (x == ("__debug__" : Str)) = false := by decide) :
    wpAny (model P0 w) A (exec (.Raise (some (.Call (.Name x np) [e₀] [] cpos)) none pos) (envOf cn cs L a ccd)) Q E s := by
  rw [arm_exec_Raise]
  simp only [evalOpt, Option.map]
  refine wpAny_bind (wpAny_standAt (two_raise (C := 51) (D := 38) (B := "Exception") (newId := "Exception.__new__") (bmB := bmX) (mN := h₀.nsMap 50) (mD := h₀.nsMap 37) (by rfl) hh (wpAny_bind (wpAny_mono (wpAny_Call_ofName (name_K F X (topRead_of T) ex ?_ hk hx hd')) (fun v s₃ h₃ => wpAny_bind (wpAny_standAt (wpAny_pure h₃))) fun _ _ x => x))))
  unfold callWith
  rw [he]
  have hargs : wpAny (model P0 w) A (evalArgs (.ref 51) true (backTo cpos ((false, eval e₀ (envOf cn cs L a ccd)) :: starEach [] (envOf cn cs L a ccd))) []) (fun ar s' => ∃ v, ar = ⟨[v], []⟩ ∧ RaiseArg h₀ L 51 E v s') E s :=
    Calls.evalArgs_plain (Calls.spliced_cons (wpAny_mono h (fun v s₂ h₂ => Calls.spliced_nil ⟨v, rfl, h₂⟩) fun _ _ y => y))
  refine wpAny_bind (wpAny_holding (wpAny_mono hargs (fun ar s₂ h₂ => wpAny_bind (wpAny_standAt ?_)) fun _ _ y => y))
  obtain ⟨v, rfl, m₂, news, F₂, N₂, h₂⟩ := h₂
  obtain ⟨hp, g, d, tk, os⟩ := s₂
  have T2 := form_two (X.keeps F₂.keep)
  obtain ⟨⟨nm, q, N, bs, sn, sub, ab, col, dd, k0, k1, k2, k3, k5, hC, hN⟩, _⟩ := T2
  have hpl : (backTo cpos ((false, eval e₀ (envOf cn cs L a ccd)) :: starEach [] (envOf cn cs L a ccd))).any (·.1) = false := rfl
  simp only [hpl]
  refine wpAny_bind (wpAny_keeperOf_exc hC ?_)
  refine wpAny_bind (form_call B F₂ X N₂ T hA hk (hroom v) fun e t h' tk' R => wpAny_bind (wpAny_holding (wpAny_point (wpAny_pure ?_))))
  obtain ⟨dd', he'⟩ := R.he
  refine ⟨e, _, _, _, _, _, _, rfl, (form_two X).keeps R.F.keep, he', rfl, rfl, h₂ e t h' tk' R⟩

-- Grow
open PySem.Calls PySem.Spec

/-- the table of the code objects of a def's own lambda: empty, or with that lambda's code -/
def TabK (q : Str) (I : Addr) (t : Obj) (xs : List (Addr × Obj)) : Prop :=
  t = tabObj #[] ∨ ∃ c' oc vs tk, t = tabObj (#[] ++ #[rawInt ((228 : Nat) : Int), rawInt ((24 : Nat) : Int), Value.ref c']) ∧ (c', oc) ∈ xs ∧ oc.data = .fields vs ∧ vs[1]? = some (.str q tk) ∧ @Ne Nat c' I
theorem TabK.tab {q : Str} {I : Addr} {t : Obj} {xs : List (Addr × Obj)} (h : TabK q I t xs) : ∃ ps, t = tabObj ps := by
  rcases h with h | ⟨_, _, _, _, h, _⟩
  · exact ⟨_, h⟩
  · exact ⟨_, h⟩

def GrowEnd (h₀ : Heap) (L : Addr) (x : Str) (stored : List Str) (m₀ : Str → Option Value) (q : Str) (cl tb I : Addr) (own : List (Addr × Obj)) (s₁ s₂ : Shared) : Prop :=
  ∃ h' tk m' news' c t xs, s₂ = { s₁ with heap := h', toks := tk } ∧ Fr h₀ L h' m' ∧ News h₀ L h' news' ∧ (cl, c) ∈ news' ∧ (tb, t) ∈ news' ∧ (∀ p ∈ xs, p ∈ news') ∧ (∀ p ∈ own, p ∈ news') ∧ (∃ v, c.data = .cell v) ∧ TabK q I t xs ∧
    (∀ p ∈ xs, p.1 ≠ I ∧ p.1 ≠ cl ∧ p.1 ≠ tb) ∧ ∀ z, z ≠ x → stored.contains z = false → m' z = m₀ z
theorem GrowEnd.intro {h₀ : Heap} {L : Addr} {x : Str} {stored : List Str} {m₀ : Str → Option Value} {q : Str} {cl tb I : Addr} {own : List (Addr × Obj)} {s₁ : Shared} {h' : Heap} {tk : Nat} {m' : Str → Option Value} {news' : List (Addr × Obj)}
    {c oc : Obj} {c' : Addr} {vs : Array Value} {tv : Tok} {v : Option Value} (F : Fr h₀ L h' m') (N : News h₀ L h' news') (h1 : (cl, c) ∈ news') (h2 : (tb, tabObj (#[] ++ #[rawInt ((228 : Nat) : Int), rawInt ((24 : Nat) : Int), Value.ref c'])) ∈ news')
    (h3 : (c', oc) ∈ news') (h4 : ∀ p ∈ own, p ∈ news') (h5 : c.data = .cell v) (h6 : oc.data = .fields vs) (h7 : vs[1]? = some (.str q tv)) (n1 : @Ne Nat c' I) (n2 : @Ne Nat c' cl) (n3 : @Ne Nat c' tb)
    (hm : ∀ z, z ≠ x → (∀ p ∈ ([] : List (Str × Value)), z ≠ p.1) → stored.contains z = false → m' z = m₀ z) : GrowEnd h₀ L x stored m₀ q cl tb I own s₁ { s₁ with heap := h', toks := tk } := by
  refine ⟨h', tk, m', news', c, _, [(c', oc)], rfl, F, N, h1, h2, fun p hp => ?_, h4, ⟨v, h5⟩, .inr ⟨c', oc, vs, tv, rfl, .head _, h6, h7, n1⟩, fun p hp => ?_, fun z h1 h2 => hm z h1 (fun _ hp => nomatch hp) h2⟩
  · rw [List.mem_singleton.mp hp]; exact h3
  · rw [List.mem_singleton.mp hp]; exact ⟨n1, n2, n3⟩
def GrowPost (h₀ : Heap) (L : Addr) (x : Str) (stored : List Str) (m₀ : Str → Option Value) (q : Str) (cl tb I : Addr) (own : List (Addr × Obj)) (s₁ : Shared) (Q : Flow → Shared → Prop) (f : Flow) (s₂ : Shared) : Prop :=
  match f with
  | .ret v => Q (.ret v) s₂
  | .brk => Q .next s₂
  | _ => GrowEnd h₀ L x stored m₀ q cl tb I own s₁ s₂

section
variable {prog : Program} {w : World} {A : Around} {E : Value → Shared → Prop} {s : Shared} {env : Env} {h₀ : Heap} {x : Str} {body : List Stmt} {Q : Flow → Shared → Prop}
theorem grow_range {r : Addr} {a₀ b₀ : Int} {t₀ u₀ v₀ : Tok} {n : Nat} {m₀ : Str → Option Value} {c₀ : Obj} (stored : List Str) (q : Str) (cl tb : Addr)
    (hh : A.handled = none) (hr : IsRange s.heap r a₀ b₀ 1 t₀ u₀ v₀) (hsmall : Builtin.Range.small a₀ b₀ 1 = true) (hn : Builtin.Range.rangeSize a₀ b₀ 1 = (n : Int)) (F : Fr h₀ env.locals s.heap m₀) (N : News h₀ env.locals s.heap [(cl, c₀), (tb, tabObj #[])])
    (hc : ∃ v, c₀.data = .cell v)
    (turn : ∀ (c t : Obj) (I : Addr) (i : Nat) (k : Int) tk (u : Str → Option Value) h tok own, k = a₀ + (i : Int) → i < n → OwnOff own [cl, tb] → (∃ oI, (I, oI) ∈ own) → (∃ v, c.data = .cell v) → TabK q I t own →
      Fr h₀ env.locals h (fun y => if y = x then some (.int k tk) else if stored.contains y then u y else m₀ y) → News h₀ env.locals h ((cl, c) :: (tb, t) :: own) →
      wpAny (model prog w) A (execs body env) (GrowPost h₀ env.locals x stored m₀ q cl tb I own { s with heap := h, toks := tok } Q) E { s with heap := h, toks := tok })
    (done : ∀ (c : Obj) ps (u : Str → Option Value) h tok, (∃ v, c.data = .cell v) → Fr h₀ env.locals h (fun y => if y = x then u y else if stored.contains y then u y else m₀ y) → News h₀ env.locals h [(cl, c), (tb, tabObj ps)] → Q .next { s with heap := h, toks := tok }) :
    wpAny (model prog w) A (pyIter (.ref r)) (fun it s₂ => LoopAtV prog w A h₀ env x body Q E it s₂) E s := by
  refine wpAny_pyIter_range hr hsmall ?_
  have W : Walks prog w A s.heap.objs.size [s.heap.objs.size] [s.heap.objs.size] n (fun i v => i < n ∧ ∃ t, v = .int (a₀ + i * 1) t)
      (fun i h => IsRangeIter h s.heap.objs.size (a₀ + (i : Nat) * 1) ((n : Int) - (i : Nat)) 1) := (Walks.range hh _ a₀ 1 n).bound
  have clI : cl ≠ s.heap.objs.size := Nat.ne_of_lt (Heap.lt_size (N _ (.head _)).1)
  have tbI : tb ≠ s.heap.objs.size := Nat.ne_of_lt (Heap.lt_size (N _ (.tail _ (.head _))).1)
  let J : Nat → (Str → Option Value) → List (Addr × Obj) → Prop := fun _ m nx => ∃ c t xs, nx = (cl, c) :: (tb, t) :: xs ∧ (∃ v, c.data = .cell v) ∧ TabK q s.heap.objs.size t xs ∧ (∀ p ∈ xs, p.1 ≠ s.heap.objs.size ∧ p.1 ≠ cl ∧ p.1 ≠ tb) ∧ ∀ z, z ≠ x → stored.contains z = false → m z = m₀ z
  refine ⟨s.heap.objs.size, [s.heap.objs.size], [s.heap.objs.size], n, _, _, m₀, [(cl, c₀), (tb, tabObj #[])], J, rfl, W, ?_, ?_, ?_, ?_, F.push _, (fun p hp => ⟨Heap.get?_push_of_some _ (N p hp).1, (N p hp).2⟩), ⟨c₀, _, [], rfl, hc, .inl rfl, (fun p hp => nomatch hp), fun _ _ _ => rfl⟩, ?_, ?_⟩
  · intro hm
    exact absurd F.ns.lt ((List.mem_singleton.mp hm) ▸ Nat.lt_irrefl _)
  · intro b hb
    rw [List.mem_singleton.mp hb]
    exact next_is_new F
  · intro p hp hI
    exact absurd (Heap.lt_size (N p hp).1) ((List.mem_singleton.mp hI) ▸ Nat.lt_irrefl _)
  · show IsRangeIter _ _ _ _ _
    rw [hn]
    simpa using Heap.get?_push_size _ rfl
  · rintro i v m₁ news₁ s₁ own ⟨hh', tk', rfl⟩ hin ⟨_, tk, rfl⟩ ⟨c, t, xs, rfl, hcd, hT, hoff, hm⟩ hnw hsub hown hall hst F₁ N₁
    obtain ⟨oI, hoI⟩ : ∃ oI, hh'.get? s.heap.objs.size = some oI := ⟨_, hst⟩
    have hmI : (s.heap.objs.size, oI) ∈ own := hall _ (.head _) (next_is_new F) _ hoI
    have hT' : TabK q s.heap.objs.size t (xs ++ own) := by
      rcases hT with h | ⟨c', oc, vs, tk, h1, h2, h3⟩
      · exact .inl h
      · exact .inr ⟨c', oc, vs, tk, h1, List.mem_append_left _ h2, h3⟩
    have hO : OwnOff (xs ++ own) [cl, tb] := fun p hp b hb e => by
      have hb' : b = cl ∨ b = tb := by
        rcases List.mem_cons.mp hb with h | h
        · exact .inl h
        · exact .inr (List.mem_singleton.mp h)
      rcases List.mem_append.mp hp with hp | hp
      · rcases hb' with rfl | rfl
        · exact (hoff p hp).2.1 e
        · exact (hoff p hp).2.2 e
      · have hpI := List.mem_singleton.mp (hsub p hp)
        rcases hb' with rfl | rfl
        · exact clI (e ▸ hpI)
        · exact tbI (e ▸ hpI)
    have hF : Fr h₀ env.locals hh' (fun y => if y = x then some (.int (a₀ + (i : Int) * 1) tk) else if stored.contains y then m₁ y else m₀ y) := by
      have e : (fun y => if y = x then some (Value.int (a₀ + (i : Int) * 1) tk) else if stored.contains y then m₁ y else m₀ y) = fun y => if y = x then some (Value.int (a₀ + (i : Int) * 1) tk) else m₁ y := by
        funext y
        by_cases hy : y = x
        · rw [if_pos hy, if_pos hy]
        · rw [if_neg hy, if_neg hy]
          cases hs : stored.contains y with
          | true => rfl
          | false => exact (hm y hy hs).symm
      rw [e]; exact F₁
    have hN : News h₀ env.locals hh' ((cl, c) :: (tb, t) :: (xs ++ own)) := fun p hp => N₁ p (by
      rcases List.mem_cons.mp hp with rfl | hp
      · exact List.mem_append_right _ (.head _)
      · rcases List.mem_cons.mp hp with rfl | hp
        · exact List.mem_append_right _ (.tail _ (.head _))
        · rcases List.mem_append.mp hp with hp | hp
          · exact List.mem_append_right _ (.tail _ (.tail _ hp))
          · exact List.mem_append_left _ hp)
    refine wpAny_mono (turn c t s.heap.objs.size i _ tk m₁ hh' tk' (xs ++ own) (by omega) hin hO ⟨oI, List.mem_append_right _ hmI⟩ hcd hT' hF hN) (fun f s₂ p => ?_) fun _ _ e => e
    have fin : GrowEnd h₀ env.locals x stored m₀ q cl tb s.heap.objs.size (xs ++ own) { s with heap := hh', toks := tk' } s₂ → LoopStepU h₀ env.locals [s.heap.objs.size] own (J (i + 1)) { s with heap := hh', toks := tk' } .next s₂ := by
      rintro ⟨h', tk, m', news', c2, t2, xs2, e, F', N', h1, h2, h3, h4, h5, h6, h7, h8⟩
      refine ⟨rfl, h', tk, m', (cl, c2) :: (tb, t2) :: xs2, e, F', fun p hp => N' p ?_, fun p hp hq => ?_, c2, t2, xs2, rfl, h5, h6, h7, h8⟩
      · rcases List.mem_append.mp hp with hp | hp
        · exact h4 p (List.mem_append_right _ hp)
        · rcases List.mem_cons.mp hp with rfl | hp
          · exact h1
          · rcases List.mem_cons.mp hp with rfl | hp
            · exact h2
            · exact h3 p hp
      · have hpI := List.mem_singleton.mp hq
        rcases List.mem_cons.mp hp with rfl | hp
        · exact clI hpI
        · rcases List.mem_cons.mp hp with rfl | hp
          · exact tbI hpI
          · exact (h7 p hp).1 hpI
    cases f with
    | ret v => exact .ret p
    | brk => exact .brk p
    | next => exact .next (fin p)
    | cont => exact .cont (fin p)
  · rintro h' tk m' news' F' N' _ ⟨c, t, xs, rfl, hcd, hT, _, hm⟩
    obtain ⟨ps, rfl⟩ := hT.tab
    refine done c ps m' h' tk hcd ?_ fun p hp => N' p (by
      rcases List.mem_cons.mp hp with rfl | hp
      · exact .head _
      · rw [List.mem_singleton.mp hp]; exact .tail _ (.head _))
    have e : (fun y => if y = x then m' y else if stored.contains y then m' y else m₀ y) = m' := by
      funext y
      by_cases hy : y = x
      · rw [if_pos hy]
      · rw [if_neg hy]
        cases hs : stored.contains y with
        | true => rfl
        | false => exact (hm y hy hs).symm
    rw [e]; exact F'
end

abbrev tab9 (c' : Addr) : Obj := tabObj (#[] ++ #[rawInt ((228 : Nat) : Int), rawInt ((24 : Nat) : Int), Value.ref c'])
/-- what a cut-out statement with the lambda in it leaves -/
def MidEnd (h₀ : Heap) (L : Addr) (m : Str → Option Value) (q : Str) (cl : Addr) (o : Obj) (ow : List (Addr × Obj)) (Fr9 : Addr → Prop) (s s' : Shared) : Prop :=
  ∃ h' tk c' oc vs tv news', s' = { s with heap := h', toks := tk } ∧ Fr h₀ L h' m ∧ News h₀ L h' news' ∧ (cl, o) ∈ news' ∧ (364, tab9 c') ∈ news' ∧ (c', oc) ∈ news' ∧ (∀ p ∈ ow, p ∈ news') ∧ oc.data = .fields vs ∧ vs[1]? = some (.str q tv) ∧ Fr9 c'
theorem MidEnd.intro {h₀ : Heap} {L : Addr} {m : Str → Option Value} {q : Str} {cl : Addr} {o : Obj} {ow : List (Addr × Obj)} {Fr9 : Addr → Prop} {s : Shared} {h' : Heap} {tk : Nat} {c' : Addr} {oc : Obj} {vs : Array Value} {tv : Tok} {news' : List (Addr × Obj)}
    (F : Fr h₀ L h' m) (N : News h₀ L h' news') (h1 : (cl, o) ∈ news') (h2 : (364, tab9 c') ∈ news') (h3 : (c', oc) ∈ news') (h4 : ∀ p ∈ ow, p ∈ news') (h5 : oc.data = .fields vs) (h6 : vs[1]? = some (.str q tv)) (h7 : Fr9 c') :
    MidEnd h₀ L m q cl o ow Fr9 s { s with heap := h', toks := tk } := ⟨h', tk, c', oc, vs, tv, news', rfl, F, N, h1, h2, h3, h4, h5, h6, h7⟩
def MidPost (Mid : Shared → Prop) (Q : Flow → Shared → Prop) (f : Flow) (s' : Shared) : Prop :=
  match f with
  | .next => Mid s'
  | f => Q f s'
theorem mid_cut {M : Model} {A : Around} {E : Value → Shared → Prop} {s : Shared} {tree : Sem Flow} {Q : Flow → Shared → Prop} (Mid : Shared → Prop)
    (h1 : wpAny M A tree (MidPost Mid Q) E s) (h2 : ∀ s', Mid s' → Q .next s') : wpAny M A tree Q E s :=
  wpAny_mono h1 (fun f s' h => by
    cases f with
    | next => exact h2 s' h
    | ret v => exact h
    | brk => exact h
    | cont => exact h) fun _ _ e => e

theorem lam_cut {M : Model} {A : Around} {E : Value → Shared → Prop} {s : Shared} {tree : Sem Flow} {Q : Flow → Shared → Prop} {h₀ : Heap} {L : Addr} {m : Str → Option Value} {news own : List (Addr × Obj)} {cl I : Addr} {o t : Obj} {q : Str} {nb : List Addr} {v : Option Value}
    (_F : Fr h₀ L s.heap m) (N : News h₀ L s.heap news) (hcl : (cl, o) ∈ news) (htb : (364, t) ∈ news) (hown : ∀ p ∈ own, p ∈ news) (hT : TabK q I t own) (hOff : OwnOff own [cl, 364]) (hI : ∃ oI, (I, oI) ∈ own) (hv : o.data = .cell v)
    (hnb : ∀ b ∈ nb, (∃ ob, (b, ob) ∈ news) ∧ @Ne Nat b cl ∧ @Ne Nat b 364 ∧ ∀ p ∈ own, p.1 ≠ b)
    (a1 : ∀ ow, OwnOff ow [cl, 364] → News h₀ L s.heap ((cl, o) :: (364, tabObj #[]) :: ow) → wpAny M A tree (MidPost (MidEnd h₀ L m q cl o ow (fun c' => AllLt c' ow) s) Q) E s)
    (a2 : ∀ c' oc vs tv ow, OwnOff ow [cl, 364] → News h₀ L s.heap ((cl, o) :: (364, tab9 c') :: (c', oc) :: ow) → oc.data = .fields vs → vs[1]? = some (.str q tv) → @Ne Nat c' cl → @Ne Nat c' 364 → wpAny M A tree (MidPost (MidEnd h₀ L m q cl o ow (fun x => x = c') s) Q) E s)
    (k : ∀ h' tk c' oc vs tv, Fr h₀ L h' m → (∀ nw, Upd 364 t (tab9 c') news nw → News h₀ L h' ((c', oc) :: nw)) → oc.data = .fields vs → vs[1]? = some (.str q tv) → (∀ b ∈ I :: cl :: 364 :: nb, @Ne Nat c' b) → Q .next { s with heap := h', toks := tk }) :
    wpAny M A tree Q E s := by
  let ow := news.filter fun p => decide (p.1 ≠ 364 ∧ p.1 ≠ cl)
  have hO : OwnOff ow [cl, 364] := fun p hp b hb e => by
    have h := of_decide_eq_true (List.mem_filter.mp hp).2
    rcases List.mem_cons.mp hb with rfl | hb
    · exact h.2 e
    · exact h.1 (e.trans (List.mem_singleton.mp hb))
  have inow : ∀ p ∈ news, p.1 ≠ 364 → p.1 ≠ cl → p ∈ ow := fun p hp h1 h2 => List.mem_filter.mpr ⟨hp, decide_eq_true ⟨h1, h2⟩⟩
  have same : ∀ p ∈ news, p.1 = cl → p.2 = o := fun p hp e => by
    have h1 := (N p hp).1
    rw [e, (N _ hcl).1] at h1
    exact (Option.some.inj h1).symm
  have out : ∀ (h' : Heap) (c' : Addr) (oc : Obj) (news' : List (Addr × Obj)), News h₀ L h' news' → (cl, o) ∈ news' → (364, tab9 c') ∈ news' → (c', oc) ∈ news' → (∀ p ∈ ow, p ∈ news') →
      ∀ nw, Upd 364 t (tab9 c') news nw → News h₀ L h' ((c', oc) :: nw) := fun h' c' oc news' N' h1 h2 h3 h4 nw U p hp => by
    obtain ⟨pre, post, e1, rfl, x1, x2⟩ := U.split
    have old : p ∈ news → p.1 ≠ 364 → p ∈ news' := fun hp hne => by
      by_cases hc : p.1 = cl
      · obtain ⟨pa, po⟩ := p
        have := same _ hp hc
        dsimp only at hc this
        subst hc this
        exact h1
      · exact h4 p (inow p hp hne hc)
    refine N' p ?_
    rcases List.mem_cons.mp hp with rfl | hp
    · exact h3
    · rcases List.mem_append.mp hp with hp | hp
      · exact old (e1 ▸ List.mem_append_left _ hp) (x1 p hp)
      · rcases List.mem_cons.mp hp with rfl | hp
        · exact h2
        · exact old (e1 ▸ List.mem_append_right _ (.tail _ hp)) (x2 p hp)
  have clash : ∀ (h' : Heap) (c' : Addr) (oc : Obj) (vs : Array Value) (tv : Tok) (news' : List (Addr × Obj)), News h₀ L h' news' → (cl, o) ∈ news' → (364, tab9 c') ∈ news' → (c', oc) ∈ news' → oc.data = .fields vs → vs[1]? = some (.str q tv) →
      @Ne Nat c' cl ∧ @Ne Nat c' 364 := fun h' c' oc vs tv news' N' h1 h2 h3 h5 h6 => by
    have e3 := (N' _ h3).1
    constructor
    · intro e
      have e1 := (N' _ h1).1
      dsimp only at e1 e3
      rw [e, e1] at e3
      have := Option.some.inj e3
      rw [← this, hv] at h5
      cases h5
    · intro e
      have e1 := (N' _ h2).1
      dsimp only at e1 e3
      rw [show c' = 364 from e, e1] at e3
      have := Option.some.inj e3
      rw [← this] at h5
      cases h5
      simp [rawInt] at h6
  obtain ⟨oI, hI⟩ := hI
  have hIo : (I, oI) ∈ ow := inow _ (hown _ hI) (hOff _ hI 364 (.tail _ (.head _))) (hOff _ hI cl (.head _))
  rcases hT with rfl | ⟨c', oc, vs, tv, rfl, hm, h5, h6, hcI⟩
  · refine mid_cut (MidEnd h₀ L m q cl o ow (fun c' => AllLt c' ow) s) (a1 ow hO fun p hp => ?_) ?_
    · rcases List.mem_cons.mp hp with rfl | hp
      · exact N _ hcl
      · rcases List.mem_cons.mp hp with rfl | hp
        · exact N _ htb
        · exact N _ (List.mem_filter.mp hp).1
    · rintro _ ⟨h', tk, c', oc, vs, tv, news', rfl, F', N', h1, h2, h3, h4, h5, h6, h7⟩
      have hc := clash h' c' oc vs tv news' N' h1 h2 h3 h5 h6
      refine k h' tk c' oc vs tv F' (out h' c' oc news' N' h1 h2 h3 h4) h5 h6 fun b hb => ?_
      rcases List.mem_cons.mp hb with rfl | hb
      · exact (Nat.ne_of_lt (kst_ltOf h7 _ hIo)).symm
      · rcases List.mem_cons.mp hb with rfl | hb
        · exact hc.1
        · rcases List.mem_cons.mp hb with rfl | hb
          · exact hc.2
          · obtain ⟨⟨ob, hob⟩, n1, n2, _⟩ := hnb b hb
            exact (Nat.ne_of_lt (kst_ltOf h7 _ (inow _ hob n2 n1))).symm
  · refine mid_cut (MidEnd h₀ L m q cl o ow (fun x => x = c') s) (a2 c' oc vs tv ow hO (fun p hp => ?_) h5 h6 (hOff _ hm cl (.head _)) (hOff _ hm 364 (.tail _ (.head _)))) ?_
    · rcases List.mem_cons.mp hp with rfl | hp
      · exact N _ hcl
      · rcases List.mem_cons.mp hp with rfl | hp
        · exact N _ htb
        · rcases List.mem_cons.mp hp with rfl | hp
          · exact N _ (hown _ hm)
          · exact N _ (List.mem_filter.mp hp).1
    · rintro _ ⟨h', tk, c2, oc2, vs2, tv2, news', rfl, F', N', h1, h2, h3, h4, h5', h6', rfl⟩
      have hc := clash h' c2 oc2 vs2 tv2 news' N' h1 h2 h3 h5' h6'
      refine k h' tk c2 oc2 vs2 tv2 F' (out h' c2 oc2 news' N' h1 h2 h3 h4) h5' h6' fun b hb => ?_
      rcases List.mem_cons.mp hb with rfl | hb
      · exact hcI
      · rcases List.mem_cons.mp hb with rfl | hb
        · exact hc.1
        · rcases List.mem_cons.mp hb with rfl | hb
          · exact hc.2
          · exact (hnb b hb).2.2.2 _ hm
theorem nb_one {news own : List (Addr × Obj)} {cl b : Addr} {ob : Obj} (hm : (b, ob) ∈ news) (h1 : @Ne Nat b cl) (h2 : @Ne Nat b 364) (hO : OwnOff own [b]) :
    ∀ b' ∈ [b], (∃ ob, (b', ob) ∈ news) ∧ @Ne Nat b' cl ∧ @Ne Nat b' 364 ∧ ∀ p ∈ own, p.1 ≠ b' := fun b' hb => by
  rw [List.mem_singleton.mp hb]
  exact ⟨⟨ob, hm⟩, h1, h2, fun p hp => hO p hp b (.head _)⟩

section
variable {M : Model} {A : Around} {E : Value → Shared → Prop} {s' : Shared} {base g g₂ h : Heap} {outer : List Env} {L e t : Addr} {m : Str → Option Value} {Q : Unit → Shared → Prop} {news : List (Addr × Obj)} {env : Env}
theorem mem_fr {b : Addr} (hf : env.frame = some L) (hm : b ∈ (env :: outer).filterMap (·.frame)) : b = L ∨ b ∈ outer.filterMap (·.frame) := by
  obtain ⟨env', he, hf'⟩ := List.mem_filterMap.mp hm
  rcases List.mem_cons.mp he with rfl | he
  · rw [hf] at hf'
    exact .inl (Option.some.inj hf').symm
  · exact .inr (List.mem_filterMap.mpr ⟨env', he, hf'⟩)
/-- an exception leaves any frame: a lambda's too -/
theorem leave_onX {cls : Value} {vs : List Value} (K : Below A base outer g) (F : Fr g L g₂ m) (hf : env.frame = some L) (R : RaisedS base g₂ (env :: outer) e cls t vs news s'.heap) (hsm : g₂.UpToSlots s'.heap)
    (hQ : ∀ h', RaisedS base g outer e cls t vs news h' → RaisedK base outer e cls t vs news h' → g.UpToSlots h' → Q () { s' with heap := h' }) :
    wpAny M (A.deeper env) (leaving env (.ref e)) Q E s' := by
  obtain ⟨⟨B, hB, hBG, hl, hfl, hnew⟩, htup⟩ := R
  refine wpAny_leaves_onW (Around.frames_deeper K.stack) hf hfl fun h' x1 x2 => ?_
  have R : RaisedS base g outer e cls t vs news h' := ⟨⟨B, hB, fun b o q nm => hBG b o (F.keep b o q) (fun hm => by
      rcases mem_fr hf hm with z | z
      · rw [z, kts_self F] at q
        cases q
      · exact nm z), fun q hq => ⟨(hl q hq).1, kts_none F.keep (hl q hq).2.1, (hl q hq).2.2⟩, x1, hnew⟩, htup.of_slots x2⟩
  exact hQ h' R R.toK ((Heap.UpToSlots.of_keeps F.keep).trans (hsm.trans x2))
end
theorem grown_of {q : Str} {I L : Addr} {t : Obj} {xs news : List (Addr × Obj)} {h₀ h : Heap} (hT : TabK q I t xs) (N : News h₀ L h news) (hm : (364, t) ∈ news) : GrownAll [(368, 364)] h := by
  obtain ⟨ps, rfl⟩ := hT.tab
  exact ⟨GrownAt.of N hm, True.intro⟩

-- Deep
open PySem.Calls PySem.Spec


section
variable {prog : Program} {w : World} {A₀ A : Around} {s : Shared} {base h₀ : Heap} {env : Env} {L a : Addr} {m : Str → Option Value} {news : List (Addr × Obj)} {K : Frag} {p : Program} {loose : List Str} {mean : ExcName → Option Value} {mg mb : Str → Option Value}
    {R : Result → Shared → Prop} {name qual : Str} {params : Arguments} {body : List Stmt} {scope : Scope} {dV kV doc pm cdv ct oc : Value} {an od : Option Addr} {osl : Array (Option Value)} {f : Addr} {args : Args} {binds : List (Str × Value)}

theorem one_fr {b : Addr} (hf : env.frame = some L) (hm : b ∈ [env].filterMap (·.frame)) : b = L := by
  rcases mem_fr hf hm with h | h
  · exact h
  · cases h
/-- a def with a try, called from the lowest frame, whatever that frame's kind -/
theorem code_defX0 (B : Below A₀ base [] h₀) (F : Fr h₀ L s.heap m) (X₀ : K.In h₀) (N : News h₀ L s.heap news) (T : Top p loose mean mg mb h₀) (hA : A.frames = some [env]) (hf : env.frame = some L) (hke : env.scope.kind = .function)
    (ho : K.lookup f = some ⟨oc, od, .func (fnOf name qual params body scope dV kV doc pm an cdv ct), osl⟩) (hcd : codeIn K cdv qual = true) (hroom : A.depth < recursionLimit)
    (hbind : BindsTo s (fnOf name qual params body scope dV kV doc pm an cdv ct) args binds) (hloc : ∀ y ∈ binds, scope.names.lookup y.1 = some .local)
    (h : ∀ g L' h₁, Fr h₀ L g m → Fr g L' h₁ (fun y => binds.reverse.lookup y) → News g L' h₁ news → Below A base [env] g → K.In g → Top p loose mean mg mb g → KtsDicts ([env].filterMap (·.frame)) g →
      wpAny (model prog w) (A.deeper (envOf qual scope L' f cdv)) (execs body (envOf qual scope L' f cdv))
        (fun fl s' => LeaveS0 ([env].filterMap (·.frame)) h₀ L m g R (match fl with | .ret v => v | _ => .none) s')
        (fun e s' => wpAny (model prog w) (A.deeper (envOf qual scope L' f cdv)) (leaving (envOf qual scope L' f cdv) e) (fun _ s'' => R (.error e) s'') (fun e' s'' => R (.error e') s'') s')
        { s with heap := h₁, toks := s.toks + binds.length })
    (hco : scope.isCoroutine = false) (hgen : scope.isGenerator = false) (hk : scope.kind = .function)
    (hcell : ∀ x ∈ scope.names, x.2 ≠ .cell) : codeAny (model prog w) A (.call (.ref f) args) R s := by
  have X := X₀.keeps F.keep
  refine codeAny_call_def (fd := fnOf name qual params body scope dV kV doc pm an cdv ct) (body := body) (binds := binds) hroom (X _ _ ho) rfl (T.nolimit.keeps F.keep) (codeRec_of X hcd) rfl hbind hcell hloc (fun h₁ hns hk₁ => ?_) hco hgen hk
  obtain ⟨FG, BG, st, _⟩ := groundX (R := R) B F N hA hf hke
  obtain ⟨oL, es, ep, hLg, hLd, hLk, hLf⟩ := FG.ns
  refine wpAny_mono (h _ s.heap.objs.size h₁ FG ⟨hns, fun b o e => hk₁ b o (of_hideAll _ e), Nat.le_of_eq (hideAll_size _ _)⟩
    (fun p hp => ⟨hk₁ _ _ (N p hp).1, Nat.ne_of_lt (Heap.lt_size (N p hp).1), hideAll_none _ (List.mem_map_of_mem hp)⟩) BG (X₀.keeps st) (T.keeps st) (fun b hb => by
      rw [one_fr hf hb]
      exact ⟨oL, es, ep, hLg, hLd⟩)) (fun fl s' hl => ?_) fun _ _ y => y
  obtain ⟨g', L', m', news', T', F', N', k⟩ := hl
  have nL₀ : h₀.get? L = none := kts_self F
  obtain ⟨sl, hs⟩ := T'.up hLg
  refine k ⟨⟨_, es, ep, F'.keep _ _ hs, hLd, hLk, hLf⟩, fun b o e => F'.keep b o (T'.other b o (st b o e) (fun q => by
    rw [one_fr hf q, nL₀] at e
    cases e)), F.above⟩ fun p hp => ⟨(N' p hp).1, fun q => ?_, ?_⟩
  · have := (N' p hp).2.2; rw [q, hs] at this; cases this
  · cases q : h₀.get? p.1 with
    | none => rfl
    | some o =>
      obtain ⟨sl', hs'⟩ := T'.up (st _ _ q)
      have := (N' p hp).2.2
      rw [hs'] at this
      cases this
end

-- Law
open PySem.Calls
section
variable {prog : Program} {w : World} {A : Around} {E : Value → Shared → Prop} {s : Shared}
theorem range_small {n : Nat} {t : Tok} {Q : Value → Shared → Prop} (h : ∀ r, 1 ≤ r → r ≤ 2 → wpAny (model prog w) A (call (.type "range") [.int r t]) Q E s) :
    wpAny (model prog w) A (call (.type "range") [.int (if (if (n : Int) < 2 then (n : Int) else 2) > 1 then if (n : Int) < 2 then (n : Int) else 2 else 1) t]) Q E s := by
  refine h _ ?_ ?_ <;> (split <;> (try split) <;> omega)
end
theorem cell_has {o : Obj} {v : Option Value} (h : o.data = .cell v) : ∃ v, o.data = .cell v := ⟨v, h⟩
theorem p24 : (2:Int) ^ (24:Int).toNat = 16777216 := by decide +kernel
theorem addr_div {f l : Int} (h0 : 0 ≤ l) (h1 : l < 16777216) : (f * 16777216 + l).fdiv 16777216 = f := by
  rw [Int.fdiv_eq_ediv_of_nonneg _ (by decide)]
  omega
section
variable {prog : Program} {w : World} {A : Around} {E : Value → Shared → Prop} {s : Shared}
theorem fdiv_addr {f l : Int} {t u : Tok} {Q : Value → Shared → Prop} (h0 : 0 ≤ l) (h1 : l < 16777216) (h : Q (.int f s.toks) { s with toks := s.toks + 1 }) :
    wpAny (model prog w) A (binaryOp .FloorDiv (.int (f * 16777216 + l) t) (.int 16777216 u)) Q E s :=
  floordiv_int (by decide) (by rw [addr_div h0 h1]; exact h) (Or.inl (PyProof.noPylong_small (by decide)))
theorem fdiv_addr2 {f l : Int} {t u : Tok} {Q : Value → Shared → Prop} (h0 : 0 ≤ l) (h1 : l < 16777216) (h : Q (.int f s.toks) { s with toks := s.toks + 1 }) :
    wpAny (model prog w) A (binaryOp .FloorDiv (.int (f * 16777216 + l) t) (.int (2 ^ Int.toNat 24) u)) Q E s := by
  rw [p24]
  exact fdiv_addr h0 h1 h
end
set_option maxHeartbeats 8000000 in
theorem law_t : PySem.Challenge.rw_on0342_01.Holds := by
  k_with_none
  k_with "eval Constant int" => ((with_reducible refine const_fr ?_); intro _ _)
  k_with "binaryOp Add int int" => ((with_reducible refine add_fr ?_); intro _ _)
  k_with "inplaceOp Add int int" => ((with_reducible refine iadd_fr ?_); intro _ _)
  k_with "binaryOp Sub int int" => ((with_reducible refine sub_fr ?_); intro _ _)
  k_with "call ref" => (( (with_reducible show wpAny _ _ (call (Value.ref 322) [Value.ref _, Value.int _ _]) _ _ _); k_dflt ((refine' take_use ?k1 ?k2 ?k3 ?k4 ?km ?ki ?ks ?k5 ?kK ?kt ?kl ?kd ?ku ?_); (case k1 => k_dflt (k_asm)); (case k2 => k_dflt (k_asm)); (case k3 => k_dflt (k_asm)); (case k4 => k_dflt (k_asm)); (case km => k_dflt (k_mem)); (case ki => k_dflt (assumption)); (case ks => k_dflt (assumption)); (case k5 => k_dflt (k_asm)); (case kK => k_dflt (exact rfl)); (case kt => k_dflt (first | assumption | decide +kernel | omega)); (case kl => k_dflt (first | assumption | decide +kernel | omega)); (case kd => k_dflt (ktr_room)); (case ku => k_dflt (ktr_units)); k_whole; intro r9 t9 vs9 ns9 n9 h9 tk9 hr0 hr1 hi9 hs9 F9 N9; replace N9 := N9 _ (by k_upd); (try k_sweep); (try dsimp only); (try k_fold))))
  k_with "call ref" => (( (with_reducible show wpAny _ _ (call (Value.ref 329) [Value.ref _, Value.ref _]) _ _ _); k_dflt ((refine' one_use ?k1 ?k2 ?k3 ?k4 ?km ?km2 ?kn ?ki ?ks ?kw ?k5 ?kK ?kt ?kl ?kd ?ku ?_); (case k1 => k_dflt (k_asm)); (case k2 => k_dflt (k_asm)); (case k3 => k_dflt (k_asm)); (case k4 => k_dflt (k_asm)); (case km => k_dflt (k_mem)); (case km2 => k_dflt (k_mem)); (case kn => k_dflt (k_ne)); (case ki => k_dflt (assumption)); (case ks => k_dflt (assumption)); (case kw => k_dflt (first | assumption | (repeat constructor))); (case k5 => k_dflt (k_asm)); (case kK => k_dflt (exact rfl)); (case kt => k_dflt (first | decide | assumption | exact Nat.zero_lt_succ _)); (case kl => k_dflt (first | decide | assumption | exact of_decide_eq_true rfl)); (case kd => k_dflt (ktr_room)); (case ku => k_dflt (ktr_units)); k_whole; intro r9 t9 vs9 ns9 n9 h9 tk9 hr9 hi9 hs9 F9 N9; replace N9 := N9 _ (by k_upd); (try k_sweep); (try dsimp only); (try k_fold))))
  k_with "spliced" => (dsimp only)
  k_with "call ref" => (((with_reducible show wpAny _ _ (call (Value.ref 336) [Value.ref _]) _ _ _); k_dflt ((refine' addr_use ?k1 ?k2 ?k3 ?k4 ?km ?ki ?ks ?k5 ?kK ?kd ?ku ?_); (case k1 => k_dflt (k_asm)); (case k2 => k_dflt (k_asm)); (case k3 => k_dflt (k_asm)); (case k4 => k_dflt (k_asm)); (case km => k_dflt (k_memK)); (case ki => k_dflt (assumption)); (case ks => k_dflt (assumption)); (case k5 => k_dflt (k_asm)); (case kK => k_dflt (first | exact rfl | assumption)); (case kd => k_dflt (ktr_room)); (case ku => k_dflt (ktr_units)); k_whole; intro f9 l9 t9 vs9 ns9 n9 h9 tk9 hf0 hf1 hl0 hl1 hi9 hs9 F9 N9; replace N9 := N9 _ (by k_upd); (try k_sweep); (try dsimp only); (try k_fold))))
  k_with "call ref" => (((with_reducible show wpAny _ _ (call (Value.ref 355) [Value.ref _]) _ _ _); k_dflt ((refine' packet_use ?k1 ?k2 ?k3 ?k4 ?km ?ki ?ks ?k5 ?kK ?kd ?ku ?_); (case k1 => k_dflt (k_asm)); (case k2 => k_dflt (k_asm)); (case k3 => k_dflt (k_asm)); (case k4 => k_dflt (k_asm)); (case km => k_dflt (k_memK)); (case ki => k_dflt (assumption)); (case ks => k_dflt (assumption)); (case k5 => k_dflt (k_asm)); (case kK => k_dflt (first | exact rfl | assumption)); (case kd => k_dflt (ktr_room)); (case ku => k_dflt (ktr_units)); k_whole; intro vs9 ns9 n9 h9 tk9 hi9 hs9 F9 N9; replace N9 := N9 _ (by k_upd); (try k_sweep); (try dsimp only); (try k_fold))))
  k_with "call ref" => (((with_reducible show wpAny _ _ (call (Value.ref 362) [Value.ref _]) _ _ _); k_dflt ((refine' budget_use ?k1 ?k2 ?k3 ?k4 ?km ?ki ?ks ?k5 ?kK ?kd ?ku ?_); (case k1 => k_dflt (k_asm)); (case k2 => k_dflt (k_asm)); (case k3 => k_dflt (k_asm)); (case k4 => k_dflt (k_asm)); (case km => k_dflt (k_memK)); (case ki => k_dflt (assumption)); (case ks => k_dflt (assumption)); (case k5 => k_dflt (k_asm)); (case kK => k_dflt (first | exact rfl | assumption)); (case kd => k_dflt (ktr_room)); (case ku => k_dflt (ktr_units)); k_whole; intro vs9 ns9 n9 h9 tk9 hi9 hs9 F9 N9; replace N9 := N9 _ (by k_upd); (try k_sweep); (try dsimp only); (try k_fold))))
  k_with "call ref" => (((with_reducible show wpAny _ _ (call (Value.ref 315) [Value.ref _, Value.int _ _]) _ _ _); k_dflt ((refine' pool_use ?k1 ?k2 ?k3 ?k4 ?kl ?ki ?kn ?kz0 ?kz1 ?k5 ?kK ?kd ?ku ?_); (case k1 => k_asm); (case k2 => k_asm); (case k3 => k_asm); (case k4 => k_asm); (case kl => assumption); (case ki => assumption); (case kn => first | assumption | omega | ((have hb9 := len_ints_list (by lay_of)); omega)); (case kz0 => omega); (case kz1 => omega); (case k5 => k_asm); (case kK => first | exact rfl | assumption); (case kd => ktr_room); (case ku => ktr_units); k_whole; intro D9 vs9 ns9 n9 h9 tk9 hi9 hs9 F9 N9 hD9; (try (simp only [List.forall_mem_cons] at hD9)); (try (have hO9 := ownOff_one hD9.2.2)); (try k_sweep); (try dsimp only); (try k_fold))))
  k_with "call type:range" => ((with_reducible refine range_small (fun rg9 hr90 hr91 => ?_)))
  k_with "pyIter ref" => ((k_of "k" => k_dflt ((rename Fr _ _ _ _ => lF'); (rename News _ _ _ _ => lN'); (rename IsRange _ _ _ _ _ _ _ _ => rgX); (with_unfolding_all refine' grow_range [Str.ofString "source", Str.ofString "turn", Str.ofString "address", Str.ofString "first"] (Str.ofString "law" ++ ".<locals>." ++ "<lambda>") _ 364 (by rfl) rgX (by exact small_one (by omega) (by omega) (by omega) (by omega)) (by exact rangeSize_nat _ _) lF' lN' (cell_has (by assumption)) ?gy1 ?gy2); (all_goals (try clear lF' lN')); (case' gy1 => (intro c9 t9 I9 i9 k9z tk9 u9 h9 tok9 own9 hEq9 hLt9 hOff9 hI9 hP9 hT9 F9 N9; obtain ⟨v9, hv9⟩ := hP9; have hMk9 := kstMark)); (case' gy2 => (intro c9 ps9 u9 h9 tok9 hP9 F9 N9; obtain ⟨v9, hv9⟩ := hP9; have hMk9 := kstMark)); (all_goals (try k_fold)))))
  k_with "binaryOp FloorDiv int int" => (first | (with_reducible refine fdiv_addr (by assumption) (by assumption) ?_) | (with_reducible refine fdiv_addr2 (by assumption) (by assumption) ?_))
  k_with "exec Raise some none" => ((k_here; (with_reducible show wpAny _ _ (exec (Stmt.Raise (some (Expr.Call (Expr.Name _ _) [_] [] _)) none _) _) _ _ _); k_dflt (refine' raise_form ?B ?F ?X ?T ?hA ?hh ?room ?ex ?_ ?he ?hk ?hx ?hd; (case B => k_asm); (case F => k_asm); (case X => k_asm); (case T => k_asm); (case hA => exact rfl); (case hh => first | exact rfl | assumption); (case room => (intro v9; first | k_room | ktr_room)); (case ex => k_is); (case he => exact rfl); (case hk => exact rfl); (case hx => exact rfl); (case hd => decide); k_whole)))
  k_with "RaiseArg" => ((k_dflt (refine' raiseArg_ ?F ?N ?_; (case F => k_asm); (case N => k_asm); k_whole); intro e9 t9 h9 tk9 R9; (try dsimp only)))
  k_with "leaving ref" => (((with_reducible rename MadeD _ _ _ _ _ _ _ _ _ => mdX); (refine' leave_raiseD ?k1 ?k0 ?_; (case k0 => exact mdX); (case k1 => assumption); k_whole; intro h' S' R' U'; (try dsimp only at S' R' U' ⊢))))
  k_with "exec If" => (((with_reducible show wpAny _ _ (exec (Stmt.If (Expr.Compare (Expr.Call (Expr.Name (Str.ofString "_law_refused") _) _ _ _) _ _ _) _ _ _) _) _ _ _); (fail_if_success (with_reducible show wpAny _ _ _ (MidPost _ _) _ _)); k_dflt ((rename News _ _ _ _ => nE'); (rename Fr _ _ _ _ => fE'); (rename OwnOff _ [_] => oE'); (rename OwnOff _ [_, _] => oF'); (rename TabK _ _ _ _ => tE'); (rename ∃ oI, (_, oI) ∈ _ => iE'); (refine' lam_cut fE' nE' ?cl ?tb ?ow tE' oF' iE' ?hv (nb_one ?hb ?n1 ?n2 oE') ?a1 ?a2 ?kk); (case hv => assumption); (case cl => k_mem); (case tb => k_mem); (case ow => (intro p hp; kst_mem)); (case hb => k_mem); (case n1 => k_ne); (case n2 => k_ne); (case' a1 => (intro ow9 hO9 N9; clear nE')); (case' a2 => (intro c9 oc9 vs9 tv9 ow9 hO9 N9 d9 e9 n9 m9; clear nE')); (case' kk => (intro h9 tk9 c9 oc9 vs9 tv9 F9 N9 d9 e9 ne9; (replace N9 := N9 _ (by k_upd)); clear nE' fE'; (simp only [List.forall_mem_cons] at ne9); obtain ⟨ne1, ne2, ne3, ne4, _⟩ := ne9)); (all_goals (try dsimp only)); (all_goals (try k_fold)))))
  k_with "MidPost" => (dsimp only [MidPost])
  k_with "GrowPost" => (dsimp only [GrowPost])
  k_with "MidEnd" => (k_dflt ((rename News _ _ _ _ => nE'); (rename Fr _ _ _ _ => fE'); (refine' MidEnd.intro fE' nE' ?h1 ?h2 ?h3 ?h4 ?h5 ?h6 ?h7); (case h2 => k_mem); (case h1 => k_mem); (case h3 => k_mem); (case h4 => (intro p hp; kst_mem)); (case h5 => assumption); (case h6 => assumption); (case h7 => first | exact rfl | exact And.right (And.right (by assumption)))))
  k_with "GrowEnd" => (k_dflt ((rename News _ _ _ _ => nE'); (rename Fr _ _ _ _ => fE'); (refine' GrowEnd.intro fE' nE' ?h1 ?h2 ?h3 ?h4 ?h5 ?h6 ?h7 ?n1 ?n2 ?n3 ?hm); (case h2 => k_mem); (case h1 => k_mem); (case h3 => k_mem); (case h4 => (intro p hp; kst_mem)); (case h5 => assumption); (case h6 => assumption); (case h7 => assumption); (case n1 => assumption); (case n2 => assumption); (case n3 => assumption); (case hm => kst_same)))
  k_with "leaving ref" => (((with_reducible rename RaisedS _ _ _ _ _ _ _ _ _ => rsX); (refine' leave_onX ?k1 ?k2 ?kf rsX ?k4 ?_; (case kf => exact rfl); (case k2 => assumption); (case k1 => assumption); (case k4 => assumption); k_whole; intro h' S' R' U'; (try dsimp only at S' R' U' ⊢))))
  k_with "GrownAll" => (k_dflt ((rename TabK _ _ _ _ => tE'); (rename News _ _ _ _ => nE'); exact grown_of tE' nE' (by k_mem)))
  k_with "call ref" => (((with_reducible show wpAny _ _ (call (Value.ref 350) [Value.ref _]) _ _ _); k_dflt (refine wpAny_call ?_; (refine' code_defX0 ?k1 ?k2 ?k3 ?k4 ?k5 ?kA ?kF ?kK ?k6 ?k7 ?k8 ?k9z ?kB ?_ ?c2 ?c3 ?c4 ?c5; (case kA => exact rfl); (case kF => exact rfl); (case kK => exact rfl); (case k2 => k_asm); (case k1 => k_asm); (case k3 => k_asm); (case k4 => k_asm); (case k5 => k_asm); (case k6 => k_is); (case k7 => k_is); (case k8 => k_room); (case k9z => first | exact binds_K (by k_in) rfl (by k_is) rfl rfl rfl | exact BindsTo.of_eq rfl); (case kB => exact locs rfl); (case c2 => exact rfl); (case c3 => exact rfl); (case c4 => exact rfl); (case c5 => decide); k_whole; intro g' L' h' FG' F' N' B' X' T' D'; (try dsimp only); (try k_lift B'); (try k_fold)))))
  k_with "call ref" => (((with_reducible show wpAny _ _ (call (Value.ref 301) [Value.ref _, Value.int _ _]) _ _ _); k_dflt ((refine' take_bct _ _ _ _ _ _ _ _ _ _ _ _ _ _ _ _ _ _ _ _ _ _ ?he ?he2 _ _ _ _ _ _ _ _ _ _ _ _ _ _ _ _ _ _ ?k1 ?k2 ?k3 ?k4 ?kx ?km ?kn ?k5 ?kK ?kd ?ku ?_); (case k1 => k_asm); (case k2 => k_asm); (case k3 => k_asm); (case k4 => k_asm); (case kx => k_mem); (case km => k_mem); (case kn => k_ne); (case he => omega); (case he2 => omega); (case k5 => k_asm); (case kK => first | exact rfl | assumption); (case kd => ktr_room); (case ku => ktr_units); k_whole; intro b9 l9 s9 u29 u39 h9 tk9 hR9 F9 N9; replace N9 := N9 _ (by k_upd); (try dsimp only [bud, ent9] at N9); (obtain ⟨z9, hR, hT⟩ := hR9); (rcases hR with ⟨h1, h2, h3⟩ | ⟨q9, h1, h2, h3, (⟨h4, h5, h6⟩ | ⟨h4, h5, h6⟩)⟩) <;> (rcases hT with ⟨h7, h8, h9⟩ | ⟨h7, h8, h9⟩) <;> first | (exfalso; omega) | (subst h9; (try k_sweep); (try dsimp only); (try k_fold)))))
  w_on
  refine law9 fun said => ?_
  refine holds_open (q := view9) (loose := loose9) (Xt := fun s => xlAt view9 lv9 s && recOk (RowW.records row9) s) (XP := XL view9 lv9) (Yf := Hook.obs (kmHook K9 as9 as9_eq [364])) (Ya := Hook.val (kmHook K9 as9 as9_eq [364])) (YP := Hook.says (kmHook K9 as9 as9_eq [364])) (N := 5032) left9 (Hook.of (kmHook K9 as9 as9_eq [364])) (Hook.keeps (kmHook K9 as9 as9_eq [364])) (fun s e => xl_of s (Bool.and_eq_true_iff.mp e).1) XL.keeps (by rfl) (by rfl) (by rfl) (fun s e => recFacts_of (Bool.and_eq_true_iff.mp e).2) (by rfl) (by first | assumption | decide +kernel) (by decide +kernel) ⟨rfl, rfl, rfl, rfl, rfl, by decide +kernel⟩ ?hw ?hc
  (case hw => w_witness2)
  w_strict (
    k_go0
    (all_goals try k_fold)
    k_with "pyIter ref" => (k_of "turn" => k_state_short (fun (_pre : List Int) (src : List Int) => SrcNs src) "source")
    k_with "exec For Name Call cons nil" => (k_of "turn" => kpr_for)
    k_steps)

end Mine

set_option maxRecDepth 100000 in
set_option maxHeartbeats 8000000 in
theorem PySem.Challenge.cw_on0342_01_holds : PySem.Challenge.rw_on0342_01.Holds := by
  exact Mine.law_t
